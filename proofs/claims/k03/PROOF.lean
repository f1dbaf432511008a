import PyProof.Rows.All
import Wide.All
import OpenK.AllK
import Wide.FinOn
import HandS.ForMost
import HandS.ForExc
import HandS.Flow
import HandS.Style
import HandS.Deep
import HandS.TupAny
import HandS.IsInst
import HandS.Zip
import HandS.Conv
import HandS.SortKw
import HandS.StrMore
import HandS.EndTab
import HandS.TupSets
import KE.GoesEnum
import KE.SortKeyHeap
import KE.KRevSl
import PyProof.SeqIndex
import PyProof.TupleOfSeq
import HandS.ExcOwn
import HandS.ExcIs
import HandS.WordsExc
import HandS.HotCalls
import HandS.SetFor
import KE.KNestM
import PySem.Challenge.RW_faultmarks_k03_whole_pieces
set_option Elab.async false
set_option linter.all false
set_option maxRecDepth 100000
/-! FM1: plain data D, its relation to the abstract heap, results, environments, readings of expressions and statements by plain functions. -/
namespace FM
open PySem PySem.Spec PyProof.Rows L2

inductive Res (α : Type) where
  | ok (a : α)
  | exc (c : Nat)
  | bad
def rb {α β : Type} : Res α → (α → Res β) → Res β
  | .ok a, f => f a
  | .exc c, _ => .exc c
  | .bad, _ => .bad
@[simp] theorem rb_ok {α β : Type} (a : α) (f : α → Res β) : rb (.ok a) f = f a := rfl
@[simp] theorem rb_exc {α β : Type} (c : Nat) (f : α → Res β) : rb (.exc c) f = .exc c := rfl
@[simp] theorem rb_bad {α β : Type} (f : α → Res β) : rb (.bad : Res α) f = .bad := rfl
def ofO {α : Type} : Option α → Res α
  | some a => .ok a
  | none => .bad
@[simp] theorem ofO_some {α : Type} (a : α) : ofO (some a) = .ok a := rfl
@[simp] theorem ofO_none {α : Type} : ofO (none : Option α) = .bad := rfl
/-- no exception may come -/
def noX {α : Type} : Res α → Res α
  | .ok a => .ok a
  | _ => .bad
@[simp] theorem noX_ok {α : Type} (a : α) : noX (.ok a) = .ok a := rfl
@[simp] theorem noX_bad {α : Type} : noX (.bad : Res α) = .bad := rfl

/-- plain data -/
inductive D where
  | non | bl (b : Bool) | int (i : Int) | str (l : List Nat) | tup (xs : List D) | lst (xs : List D)
abbrev S (l : List Nat) : Str := ⟨l.toArray⟩
theorem S_toList (x : Str) : S x.cps.toList = x := by cases x; simp [S]

mutual
def Rp (K : PySem.W.Frag) (H : Hp) : D → V → Prop
  | .non, v => v = .non
  | .bl b, v => v = .bl b
  | .int i, v => v = .int i
  | .str l, v => v = .str (S l)
  | .tup ds, v => ∃ a xs, v = .ref a ∧ SqT K H a xs ∧ RpAll K H ds xs
  | .lst ds, v => ∃ a xs, v = .ref a ∧ SqL K H a xs ∧ RpAll K H ds xs
def RpAll (K : PySem.W.Frag) (H : Hp) : List D → List V → Prop
  | [], vs => vs = []
  | d :: ds, vs => ∃ v r, vs = v :: r ∧ Rp K H d v ∧ RpAll K H ds r
end
mutual
def toPy : D → PyData
  | .non => .none
  | .bl b => .bool b
  | .int i => .int i
  | .str l => .str (S l)
  | .tup xs => .tuple (toPyAll xs)
  | .lst xs => .list (toPyAll xs)
def toPyAll : List D → List PyData
  | [] => []
  | d :: ds => toPy d :: toPyAll ds
end
mutual
/-- no list within -/
def D.lf : D → Bool
  | .tup xs => lfAll xs
  | .lst _ => false
  | _ => true
def lfAll : List D → Bool
  | [] => true
  | d :: ds => d.lf && lfAll ds
end
mutual
/-- Python's == -/
def eqv : D → D → Bool
  | .non, .non => true
  | .bl a, .bl b => a == b
  | .bl a, .int j => (if a then 1 else 0) == j
  | .int i, .bl b => i == (if b then 1 else 0)
  | .int i, .int j => i == j
  | .str x, .str y => x == y
  | .lst xs, .lst ys => eqvAll xs ys
  | .tup xs, .tup ys => eqvAll xs ys
  | .non, .bl _ | .non, .int _ | .non, .str _ | .non, .lst _ | .non, .tup _ => false
  | .bl _, .non | .bl _, .str _ | .bl _, .lst _ | .bl _, .tup _ => false
  | .int _, .non | .int _, .str _ | .int _, .lst _ | .int _, .tup _ => false
  | .str _, .non | .str _, .bl _ | .str _, .int _ | .str _, .lst _ | .str _, .tup _ => false
  | .lst _, .non | .lst _, .bl _ | .lst _, .int _ | .lst _, .str _ | .lst _, .tup _ => false
  | .tup _, .non | .tup _, .bl _ | .tup _, .int _ | .tup _, .str _ | .tup _, .lst _ => false
def eqvAll : List D → List D → Bool
  | [], [] => true
  | x :: xs, y :: ys => eqv x y && eqvAll xs ys
  | [], _ :: _ => false
  | _ :: _, [] => false
end
mutual
/-- signs are signs, not too deep -/
def D.okN : Nat → D → Bool
  | _, .str l => l.all (· < 0x110000)
  | 0, .tup _ => false
  | n + 1, .tup xs => okAll n xs
  | 0, .lst _ => false
  | n + 1, .lst xs => okAll n xs
  | _, _ => true
def okAll : Nat → List D → Bool
  | _, [] => true
  | n, d :: ds => d.okN n && okAll n ds
end
/-! ### heaps that grow: all stays, but that tables of code objects may get longer -/
/-- the name of the one lambda -/
def q0 : Str := "all_marks.<locals>.<lambda>"
structure Same (H H' : Hp) : Prop where
  keep : ∀ b o, H b = some o → (∀ ps, o ≠ .tbl ps) → H' b = some o
  tbl : ∀ b ps, H b = some (.tbl ps) → ∃ ps', H' b = some (.tbl ps')
  tab : ∀ P, LamX.TabS H P q0 → LamX.TabS H' P q0
theorem Same.of {H H' : Hp} (h : ∀ b o, H b = some o → H' b = some o) : Same H H' := ⟨fun b o e _ => h b o e, fun b ps e => ⟨ps, h b _ e⟩, fun P t => t.ext h⟩
theorem Same.refl (H : Hp) : Same H H := .of fun _ _ h => h
theorem Same.trans {H H1 H2 : Hp} (a : Same H H1) (b : Same H1 H2) : Same H H2 := ⟨fun c o h n => b.keep c o (a.keep c o h n) n, fun c ps h => let ⟨q, e⟩ := a.tbl c ps h; b.tbl c q e, fun P t => b.tab P (a.tab P t)⟩
theorem Same.free {H H' : Hp} (e : Same H H') {l : Addr} (h : H' l = none) : H l = none := by
  cases q : H l with
  | none => rfl
  | some o =>
    by_cases t : ∃ ps, o = .tbl ps
    · obtain ⟨ps, rfl⟩ := t
      obtain ⟨_, z⟩ := e.tbl l ps q
      rw [h] at z; cases z
    · rw [e.keep l o q (fun ps z => t ⟨ps, z⟩)] at h; cases h
/-- the table of all_marks' code object, as the written part K tells it -/
def TabAt (K : PySem.W.Frag) (P : Addr) : Prop := ∃ (f c : Addr) (oc : Value) (od : Option Addr) (fd : FuncData) (sl : Array (Option Value)) (e : Value) (dd : Option Addr) (vs : Array Value) (sl2 : Array (Option Value)),
  PySem.W.nsIn K mainGlobals "all_marks" = some (some (.ref f)) ∧ K.lookup f = some ⟨oc, od, .func fd, sl⟩ ∧ fd.code = .ref c ∧ K.lookup c = some ⟨e, dd, .fields vs, sl2⟩ ∧ vs[11]? = some (.ref P)
def TabOK (K : PySem.W.Frag) (H : Hp) : Prop := ∀ P, TabAt K P → LamX.TabS H P q0
theorem TabOK.mono {K : PySem.W.Frag} {H H' : Hp} (s : Same H H') (t : TabOK K H) : TabOK K H' := fun P a => s.tab P (t P a)
section
variable {K : PySem.W.Frag} {H H' : Hp}
theorem Same.seq {a : Addr} {xs : List V} (e : Same H H') (h : SqL K H a xs) : SqL K H' a xs := by
  rcases h with (h | ⟨o, h⟩) | h
  · exact .inl (.inl (e.keep _ _ h fun _ z => nomatch z))
  · exact .inl (.inr ⟨o, e.keep _ _ h fun _ z => nomatch z⟩)
  · exact .inr h
theorem Same.sqT {a : Addr} {xs : List V} (e : Same H H') (h : SqT K H a xs) : SqT K H' a xs := by
  rcases h with (h | ⟨o, h⟩) | h
  · exact .inl (.inl (e.keep _ _ h fun _ z => nomatch z))
  · exact .inl (.inr ⟨o, e.keep _ _ h fun _ z => nomatch z⟩)
  · exact .inr h
mutual
theorem Rp.mono (s : Same H H') : ∀ {d : D} {v : V}, Rp K H d v → Rp K H' d v
  | .non, _, h => h
  | .bl _, _, h => h
  | .int _, _, h => h
  | .str _, _, h => h
  | .tup ds, _, h => by
    obtain ⟨a, xs, e, q, r⟩ := h
    exact ⟨a, xs, e, Same.sqT s q, RpAll.mono s r⟩
  | .lst ds, _, h => by
    obtain ⟨a, xs, e, q, r⟩ := h
    exact ⟨a, xs, e, s.seq q, RpAll.mono s r⟩
theorem RpAll.mono (s : Same H H') : ∀ {ds : List D} {vs : List V}, RpAll K H ds vs → RpAll K H' ds vs
  | [], _, h => h
  | d :: ds, _, h => by
    obtain ⟨v, r, e, h1, h2⟩ := h
    exact ⟨v, r, e, Rp.mono s h1, RpAll.mono s h2⟩
end
mutual
theorem Rp.dp : ∀ {d : D} {v : V}, Rp K H d v → Dp K H v (toPy d)
  | .non, _, h => by cases h; exact .non
  | .bl _, _, h => by cases h; exact .bl _
  | .int _, _, h => by cases h; exact .int _
  | .str _, _, h => by cases h; exact .str _
  | .tup ds, _, h => by
    obtain ⟨a, xs, rfl, q, r⟩ := h
    exact .tup q (RpAll.dp r)
  | .lst ds, _, h => by
    obtain ⟨a, xs, rfl, q, r⟩ := h
    exact .lst q (RpAll.dp r)
theorem RpAll.dp : ∀ {ds : List D} {vs : List V}, RpAll K H ds vs → DpAll K H vs (toPyAll ds)
  | [], _, h => by cases h; exact .nil
  | d :: ds, _, h => by
    obtain ⟨v, r, rfl, h1, h2⟩ := h
    exact .cons (Rp.dp h1) (RpAll.dp h2)
end
mutual
theorem eqv_py : ∀ (d e : D), PyData.eqv (toPy d) (toPy e) = eqv d e
  | .non, e => by cases e <;> simp [toPy, PyData.eqv, eqv]
  | .bl _, e => by cases e <;> simp [toPy, PyData.eqv, eqv]
  | .int _, e => by cases e <;> simp [toPy, PyData.eqv, eqv]
  | .str x, e => by
    cases e <;> simp [toPy, PyData.eqv, eqv]
    rename_i y
    rw [Bool.eq_iff_iff]
    simp
  | .tup xs, e => by
    cases e <;> simp [toPy, PyData.eqv, eqv]
    exact eqvAll_py xs _
  | .lst xs, e => by
    cases e <;> simp [toPy, PyData.eqv, eqv]
    exact eqvAll_py xs _
theorem eqvAll_py : ∀ (ds es : List D), PyData.eqvAll (toPyAll ds) (toPyAll es) = eqvAll ds es
  | [], es => by cases es <;> simp [toPyAll, PyData.eqvAll, eqvAll]
  | d :: ds, es => by
    cases es with
    | nil => simp [toPyAll, PyData.eqvAll, eqvAll]
    | cons e es => simp [toPyAll, PyData.eqvAll, eqvAll, eqv_py d e, eqvAll_py ds es]
end
mutual
theorem okN_lay : ∀ (n : Nat) (d : D), d.okN n = true → (toPy d).canLay0 = true ∧ (toPy d).depth ≤ n
  | _, .non, _ => by simp [toPy, PyData.canLay0, PyData.depth]
  | _, .bl _, _ => by simp [toPy, PyData.canLay0, PyData.depth]
  | _, .int _, _ => by simp [toPy, PyData.canLay0, PyData.depth]
  | _, .str l, h => by
    simp only [D.okN] at h
    refine ⟨?_, by simp [toPy, PyData.depth]⟩
    simp only [toPy, PyData.canLay0, PyData.strOk, S]
    simpa using h
  | 0, .tup xs, h => by simp [D.okN] at h
  | n + 1, .tup xs, h => by
    simp only [D.okN] at h
    obtain ⟨h1, h2⟩ := okAll_lay n xs h
    exact ⟨by simpa [toPy, PyData.canLay0] using h1, by simpa [toPy, PyData.depth] using h2⟩
  | 0, .lst xs, h => by simp [D.okN] at h
  | n + 1, .lst xs, h => by
    simp only [D.okN] at h
    obtain ⟨h1, h2⟩ := okAll_lay n xs h
    exact ⟨by simpa [toPy, PyData.canLay0] using h1, by simpa [toPy, PyData.depth] using h2⟩
theorem okAll_lay : ∀ (n : Nat) (ds : List D), okAll n ds = true → PyData.canLayAll0 (toPyAll ds) = true ∧ PyData.depthAll (toPyAll ds) ≤ n
  | _, [], _ => by simp [toPyAll, PyData.canLayAll0, PyData.depthAll]
  | n, d :: ds, h => by
    simp only [okAll, Bool.and_eq_true] at h
    obtain ⟨a1, a2⟩ := okN_lay n d h.1
    obtain ⟨b1, b2⟩ := okAll_lay n ds h.2
    simp only [toPyAll, PyData.canLayAll0, PyData.depthAll, a1, b1, Bool.and_self, true_and]
    exact Nat.max_le.mpr ⟨a2, b2⟩
end
theorem ok_shaped {d : D} (h : d.okN 64 = true) : SeqAt.shaped (toPy d) = true := by
  obtain ⟨a, b⟩ := okN_lay 64 d h
  simp [SeqAt.shaped, a, b]

/-! ### lists of data -/
theorem RpAll.nil : RpAll K H [] [] := rfl
theorem RpAll.cons {d : D} {ds : List D} {v : V} {vs : List V} (h : Rp K H d v) (r : RpAll K H ds vs) : RpAll K H (d :: ds) (v :: vs) := ⟨v, vs, rfl, h, r⟩
theorem RpAll.length : ∀ {ds : List D} {vs : List V}, RpAll K H ds vs → ds.length = vs.length
  | [], _, h => by cases h; rfl
  | d :: ds, _, h => by
    obtain ⟨v, r, rfl, _, h2⟩ := h
    simp [RpAll.length h2]
theorem RpAll.get : ∀ {ds : List D} {vs : List V} {i : Nat} {d : D}, RpAll K H ds vs → ds[i]? = some d → ∃ v, vs[i]? = some v ∧ Rp K H d v
  | [], _, _, _, _, e => by simp at e
  | d :: ds, _, 0, _, h, e => by
    obtain ⟨v, r, rfl, h1, _⟩ := h
    simp at e; subst e
    exact ⟨v, by simp, h1⟩
  | d :: ds, _, i + 1, _, h, e => by
    obtain ⟨v, r, rfl, _, h2⟩ := h
    obtain ⟨w, h3, h4⟩ := RpAll.get (i := i) h2 (by simpa using e)
    exact ⟨w, by simpa using h3, h4⟩
theorem RpAll.of_get : ∀ {ds : List D} {vs : List V}, ds.length = vs.length → (∀ (i : Nat) d v, ds[i]? = some d → vs[i]? = some v → Rp K H d v) → RpAll K H ds vs
  | [], [], _, _ => rfl
  | [], _ :: _, h, _ => by simp at h
  | _ :: _, [], h, _ => by simp at h
  | d :: ds, v :: vs, h, q => ⟨v, vs, rfl, q 0 d v (by simp) (by simp), RpAll.of_get (by simpa using h) fun i d' v' e1 e2 => q (i + 1) d' v' (by simpa using e1) (by simpa using e2)⟩
theorem RpAll.get2 {ds : List D} {vs : List V} {i : Nat} {d : D} {v : V} (h : RpAll K H ds vs) (e : ds[i]? = some d) (e2 : vs[i]? = some v) : Rp K H d v := by
  obtain ⟨w, h1, h2⟩ := h.get e
  rw [e2] at h1; cases h1; exact h2
theorem RpAll.append {ds es : List D} {vs ws : List V} (h : RpAll K H ds vs) (h2 : RpAll K H es ws) : RpAll K H (ds ++ es) (vs ++ ws) := by
  have l := h.length
  refine RpAll.of_get (by simp [l, h2.length]) fun i d v e1 e2 => ?_
  by_cases hi : i < ds.length
  · rw [List.getElem?_append_left hi] at e1
    rw [List.getElem?_append_left (by omega)] at e2
    exact h.get2 e1 e2
  · rw [List.getElem?_append_right (by omega)] at e1
    rw [List.getElem?_append_right (by omega), ← l] at e2
    exact h2.get2 e1 e2
theorem RpAll.drop {ds : List D} {vs : List V} (n : Nat) (h : RpAll K H ds vs) : RpAll K H (ds.drop n) (vs.drop n) := by
  refine RpAll.of_get (by simp [h.length]) fun i d v e1 e2 => ?_
  rw [List.getElem?_drop] at e1 e2
  exact h.get2 e1 e2
theorem RpAll.take {ds : List D} {vs : List V} (n : Nat) (h : RpAll K H ds vs) : RpAll K H (ds.take n) (vs.take n) := by
  refine RpAll.of_get (by simp [h.length]) fun i d v e1 e2 => ?_
  rw [List.getElem?_take] at e1 e2
  split at e1
  · rename_i hi
    rw [if_pos hi] at e2
    exact h.get2 e1 e2
  · cases e1
theorem RpAll.reverse {ds : List D} {vs : List V} (h : RpAll K H ds vs) : RpAll K H ds.reverse vs.reverse := by
  refine RpAll.of_get (by simp [h.length]) fun i d v e1 e2 => ?_
  have hi : i < ds.length := by have := (List.getElem?_eq_some_iff.mp e1).1; simpa using this
  rw [List.getElem?_reverse hi] at e1
  rw [List.getElem?_reverse (by rw [← h.length]; exact hi), ← h.length] at e2
  exact h.get2 e1 e2
theorem RpAll.set {ds : List D} {vs : List V} {d : D} {v : V} (n : Nat) (h : RpAll K H ds vs) (h2 : Rp K H d v) : RpAll K H (ds.set n d) (vs.set n v) := by
  refine RpAll.of_get (by simp [h.length]) fun i d' v' e1 e2 => ?_
  by_cases hn : n = i
  · subst hn
    have h1 : n < ds.length := by have := (List.getElem?_eq_some_iff.mp e1).1; simpa using this
    rw [List.getElem?_set_self h1] at e1
    rw [List.getElem?_set_self (by rw [← h.length]; exact h1)] at e2
    cases e1; cases e2; exact h2
  · rw [List.getElem?_set_ne hn] at e1 e2
    exact h.get2 e1 e2

/-! ### a heap without some lists -/
/-- H without what stands at the addresses of O -/
noncomputable def hide (O : Addr → Prop) (H : Hp) : Hp := fun b => open Classical in if O b then none else H b
theorem hide_no {O : Addr → Prop} {b : Addr} (h : ¬ O b) : hide O H b = H b := by unfold hide; rw [if_neg h]
theorem hide_yes {O : Addr → Prop} {b : Addr} (h : O b) : hide O H b = none := by unfold hide; rw [if_pos h]
theorem hide_same (O : Addr → Prop) : Same (hide O H) H := .of fun b o e => by
  by_cases h : O b
  · rw [hide_yes h] at e; cases e
  · rw [hide_no h] at e; exact e
/-- what is hidden there is a list or a dict here, so tables and code objects stay seen -/
theorem hide_grow {O O' : Addr → Prop} (s : Same H H') (h1 : ∀ b o, hide O H b = some o → ¬ O' b) (h2 : ∀ b, O' b → (∃ vs, H' b = some (.lst vs)) ∨ ∃ ws, H' b = some (.dT ws)) : Same (hide O H) (hide O' H') where
  keep := fun b o e n => by
    have e' : H b = some o := by
      by_cases hb : O b
      · rw [hide_yes hb] at e; cases e
      · rw [hide_no hb] at e; exact e
    rw [hide_no (h1 b o e)]
    exact s.keep b o e' n
  tbl := fun b ps e => by
    have e' : H b = some (.tbl ps) := by
      by_cases hb : O b
      · rw [hide_yes hb] at e; cases e
      · rw [hide_no hb] at e; exact e
    rw [hide_no (h1 b _ e)]
    exact s.tbl b ps e'
  tab := fun P t => by
    have hP : ¬ O' P := by
      obtain ⟨ps, e, _⟩ := t
      exact h1 P _ e
    have t2 := s.tab P (t.ext fun b o e => by
      by_cases hb : O b
      · rw [hide_yes hb] at e; cases e
      · rw [hide_no hb] at e; exact e)
    obtain ⟨ps, e, ok, codes⟩ := t2
    refine ⟨ps, by rw [hide_no hP]; exact e, ok, fun pos cv hc => ?_⟩
    obtain ⟨c, e1, e2⟩ := codes pos cv hc
    refine ⟨c, e1, ?_⟩
    rw [hide_no]
    · exact e2
    · intro z
      rcases h2 c z with ⟨vs, q⟩ | ⟨ws, q⟩ <;> (rw [e2] at q; cases q)
mutual
theorem Rp.hide {O : Addr → Prop} (hO : ∀ b, O b → (∃ vs, H b = some (.lst vs)) ∨ (∃ ws, H b = some (.dT ws)) ∨ H b = none) : ∀ {d : D} {v : V}, d.lf = true → Rp K H d v → Rp K (hide O H) d v
  | .non, _, _, h => h
  | .bl _, _, _, h => h
  | .int _, _, _, h => h
  | .str _, _, _, h => h
  | .tup ds, _, l, h => by
    obtain ⟨a, xs, e, q, r⟩ := h
    refine ⟨a, xs, e, ?_, RpAll.hide hO (by simpa [D.lf] using l) r⟩
    rcases q with (q | ⟨o, q⟩) | q
    · refine .inl (.inl ?_)
      rw [hide_no, q]
      intro z
      rcases hO a z with ⟨_, z⟩ | ⟨_, z⟩ | z <;> rw [q] at z <;> cases z
    · refine .inl (.inr ⟨o, ?_⟩)
      rw [hide_no, q]
      intro z
      rcases hO a z with ⟨_, z⟩ | ⟨_, z⟩ | z <;> rw [q] at z <;> cases z
    · exact .inr q
  | .lst _, _, l, _ => by simp [D.lf] at l
theorem RpAll.hide {O : Addr → Prop} (hO : ∀ b, O b → (∃ vs, H b = some (.lst vs)) ∨ (∃ ws, H b = some (.dT ws)) ∨ H b = none) : ∀ {ds : List D} {vs : List V}, lfAll ds = true → RpAll K H ds vs → RpAll K (hide O H) ds vs
  | [], _, _, h => h
  | d :: ds, _, l, h => by
    obtain ⟨v, r, e, h1, h2⟩ := h
    simp only [lfAll, Bool.and_eq_true] at l
    exact ⟨v, r, e, Rp.hide hO l.1 h1, RpAll.hide hO l.2 h2⟩
end
theorem lfAll_iff {ds : List D} : lfAll ds = true ↔ ∀ d ∈ ds, d.lf = true := by
  induction ds with
  | nil => simp [lfAll]
  | cons d ds ih => simp [lfAll, ih]
theorem okAll_iff {n : Nat} {ds : List D} : okAll n ds = true ↔ ∀ d ∈ ds, d.okN n = true := by
  induction ds with
  | nil => simp [okAll]
  | cons d ds ih => simp [okAll, ih]
/-- but one address -/
noncomputable abbrev hide1 (a : Addr) (H : Hp) : Hp := hide (fun b => b = a) H
theorem same_new {a : Addr} {o : HO} (h : H a = none) : Same H (upd H a o) := .of fun b x e => by
  rw [upd_ne (ne_of_none e h)]
  exact e
theorem same_hide1 {a : Addr} {o : HO} (h : H a = none) : Same H (hide1 a (upd H a o)) := .of fun b x e => by
  have n : b ≠ a := ne_of_none e h
  show hide (fun b => b = a) (upd H a o) b = some x
  rw [hide_no (O := fun b => b = a) n, upd_ne n]
  exact e
end

/-! ### environments -/
inductive Sl where
  | un
  | dat (d : D)
  | own (xs : List D)
  | dct (kvs : List (List Key × D))
  | ptr (v : V)
  | ptp (xs : List D)
abbrev En := List Sl
def Sl.isOwn : Sl → Bool
  | .own _ => true
  | .dct _ => true
  | _ => false
def noOwn (e : En) : Bool := e.all fun s => !s.isOwn
def getE (i : Nat) (e : En) : Res D := match e[i]? with
  | some (.dat d) => .ok d
  | some (.own xs) => .ok (.lst xs)
  | some (.ptp xs) => .ok (.tup xs)
  | _ => .bad
def SlOk (K : PySem.W.Frag) (H : Hp) (o : Option (Option V)) : Sl → Prop
  | .un => True
  | .dat d => ∃ v, o = some (some v) ∧ Rp K H d v
  | .own xs => ∃ a vs, o = some (some (.ref a)) ∧ H a = some (.lst vs) ∧ RpAll K H xs vs
  | .dct kvs => ∃ a ws, o = some (some (.ref a)) ∧ H a = some (.dT ws) ∧ ws.map (·.1) = kvs.map (·.1) ∧ RpAll K H (kvs.map (·.2)) (ws.map (·.2))
  | .ptr v => o = some (some v)
  | .ptp xs => ∃ a ob vs, o = some (some (.ref a)) ∧ H a = some (.frz ob (.tup vs)) ∧ ob.dict = none ∧ ob.cls = .type "tuple" ∧ RpAll K H xs vs
structure EnvOk (K : PySem.W.Frag) (H : Hp) (σ : L2.St) (e : En) : Prop where
  len : σ.length = e.length
  at_ : ∀ (i : Nat) s, e[i]? = some s → SlOk K H σ[i]? s
  tab : TabOK K H
section
variable {K : PySem.W.Frag} {H H' : Hp}
theorem SlOk.mono {o : Option (Option V)} {s : Sl} (q : Same H H') (h : SlOk K H o s) : SlOk K H' o s := by
  cases s with
  | un => exact h
  | dat d => obtain ⟨v, e, h⟩ := h; exact ⟨v, e, h.mono q⟩
  | own xs => obtain ⟨a, vs, e, h1, h2⟩ := h; exact ⟨a, vs, e, q.keep _ _ h1 (fun _ z => nomatch z), h2.mono q⟩
  | dct kvs => obtain ⟨a, vs, e, h1, h2, h3⟩ := h; exact ⟨a, vs, e, q.keep _ _ h1 (fun _ z => nomatch z), h2, h3.mono q⟩
  | ptr v => exact h
  | ptp xs => obtain ⟨a, ob, vs, e, h1, h2, h3, h4⟩ := h; exact ⟨a, ob, vs, e, q.keep _ _ h1 (fun _ z => nomatch z), h2, h3, h4.mono q⟩
theorem EnvOk.mono {σ : L2.St} {e : En} (q : Same H H') (h : EnvOk K H σ e) : EnvOk K H' σ e := ⟨h.len, fun i s z => (h.at_ i s z).mono q, h.tab.mono q⟩
theorem EnvOk.get {σ : L2.St} {e : En} {i : Nat} {d : D} (h : EnvOk K H σ e) (g : getE i e = .ok d) : ∃ v, σ[i]? = some (some v) ∧ Rp K H d v := by
  unfold getE at g
  split at g
  · rename_i x hx
    cases g
    exact h.at_ i _ hx
  · rename_i xs hx
    cases g
    obtain ⟨a, vs, e1, e2, e3⟩ := h.at_ i _ hx
    exact ⟨.ref a, e1, a, vs, rfl, SqL.of e2, e3⟩
  · rename_i xs hx
    cases g
    obtain ⟨a, ob, vs, e1, e2, _, _, e3⟩ := h.at_ i _ hx
    exact ⟨.ref a, e1, a, vs, rfl, .inl (.inr ⟨ob, e2⟩), e3⟩
  · cases g
theorem EnvOk.set {σ : L2.St} {e : En} {i : Nat} {d : D} {v : V} (h : EnvOk K H σ e) (r : Rp K H d v) : EnvOk K H (σ.set i (some v)) (e.set i (.dat d)) := by
  refine ⟨by simp [h.len], fun j s z => ?_, h.tab⟩
  by_cases hj : i = j
  · subst hj
    have hi : i < e.length := by have := (List.getElem?_eq_some_iff.mp z).1; simpa using this
    rw [List.getElem?_set_self hi] at z
    cases z
    rw [List.getElem?_set_self (by rw [h.len]; exact hi)]
    exact ⟨v, rfl, r⟩
  · rw [List.getElem?_set_ne hj] at z ⊢
    exact h.at_ j s z
def wipeE (e : En) : List Nat → En
  | [] => e
  | v :: vs => (wipeE e vs).set v .un
theorem wipeE_len (e : En) : ∀ vs : List Nat, (wipeE e vs).length = e.length
  | [] => rfl
  | v :: vs => by unfold wipeE; rw [List.length_set, wipeE_len e vs]
theorem EnvOk.wipe {σ : L2.St} {e : En} (h : EnvOk K H σ e) : ∀ vs : List Nat, EnvOk K H (L2.wipe σ vs) (wipeE e vs)
  | [] => h
  | v :: vs => by
    have ih := EnvOk.wipe h vs
    unfold L2.wipe wipeE
    refine ⟨by simp [ih.len], fun j s z => ?_, ih.tab⟩
    by_cases hj : v = j
    · subst hj
      have hi : v < (wipeE e vs).length := by have := (List.getElem?_eq_some_iff.mp z).1; simpa using this
      rw [List.getElem?_set_self hi] at z
      cases z
      trivial
    · rw [List.getElem?_set_ne hj] at z ⊢
      exact ih.at_ j s z
end

/-! ### readings of expressions -/
abbrev Wx := Nat → L2.St → Hp → Prop
abbrev W0 : Wx := fun _ _ _ => False
def Fin (K : PySem.W.Frag) (W : Wx) (σ : L2.St) (H : Hp) (Q : VK) : Res D → Prop
  | .ok d => ∀ v H', Same H H' → Rp K H' d v → Q v H'
  | .exc c => ∀ H', Same H H' → W c σ H'
  | .bad => False
def FinL (K : PySem.W.Frag) (W : Wx) (σ : L2.St) (H : Hp) (Q : List V → Hp → Prop) : Res (List D) → Prop
  | .ok ds => ∀ vs H', Same H H' → RpAll K H' ds vs → Q vs H'
  | .exc c => ∀ H', Same H H' → W c σ H'
  | .bad => False
def FinB (K : PySem.W.Frag) (W : Wx) (σ : L2.St) (H : Hp) (Q : Bool → Hp → Prop) : Res Bool → Prop
  | .ok b => ∀ H', Same H H' → Q b H'
  | .exc c => ∀ H', Same H H' → W c σ H'
  | .bad => False
/-- a new list -/
def FinN (K : PySem.W.Frag) (W : Wx) (σ : L2.St) (H : Hp) (Q : VK) : Res (List D) → Prop
  | .ok xs => ∀ a vs H', H a = none → Same H H' → H' a = some (.lst vs) → RpAll K (hide1 a H') xs vs → Q (.ref a) H'
  | .exc c => ∀ H', Same H H' → W c σ H'
  | .bad => False
def FinO (K : PySem.W.Frag) (W : Wx) (σ : L2.St) (H : Hp) (Q : Option Int → Hp → Prop) : Res (Option Int) → Prop
  | .ok o => ∀ H', Same H H' → Q o H'
  | .exc c => ∀ H', Same H H' → W c σ H'
  | .bad => False
def tD (K : PySem.W.Frag) (W : Wx) (f : En → Res D) : TE := fun σ H Q => ∃ e, EnvOk K H σ e ∧ Fin K W σ H Q (f e)
def tDs (K : PySem.W.Frag) (W : Wx) (f : En → Res (List D)) : TA := fun σ H Q => ∃ e, EnvOk K H σ e ∧ FinL K W σ H Q (f e)
def tN (K : PySem.W.Frag) (W : Wx) (f : En → Res (List D)) : TE := fun σ H Q => ∃ e, EnvOk K H σ e ∧ FinN K W σ H Q (f e)
def tT (K : PySem.W.Frag) (W : Wx) (f : En → Res Bool) : TT := fun σ H Q => ∃ e, EnvOk K H σ e ∧ FinB K W σ H Q (f e)
def tO (K : PySem.W.Frag) (W : Wx) (f : En → Res (Option Int)) : TO := fun σ H Q => ∃ e, EnvOk K H σ e ∧ FinO K W σ H Q (f e)
section
variable {X : Cx} {W : Wx}
theorem PE.weak {e : Expr} {t t' : TE} (h : PE X e t) (w : ∀ σ H Q, t' σ H Q → t σ H Q) : PE X e t' := ⟨fun pins s σ H Q I q => h.run pins s σ H Q I (w σ H Q q)⟩
theorem PA.weak {e : List Expr} {t t' : TA} (h : PA X e t) (w : ∀ σ H Q, t' σ H Q → t σ H Q) : PA X e t' := ⟨fun pos pins s σ H Q I q => h.run pos pins s σ H Q I (w σ H Q q)⟩
theorem PT.weak {e : Expr} {t t' : TT} (h : PT X e t) (w : ∀ σ H Q, t' σ H Q → t σ H Q) : PT X e t' := ⟨fun pins s σ H Q I q => h.run pins s σ H Q I (w σ H Q q)⟩
theorem PW.weak {e : Expr} {t t' : TT} (h : PW X e t) (w : ∀ σ H Q, t' σ H Q → t σ H Q) : PW X e t' := ⟨fun wh pins s σ H Q I q => h.run wh pins s σ H Q I (w σ H Q q)⟩
theorem PO.weak {e : Option Expr} {t t' : TO} (h : PO X e t) (w : ∀ σ H Q, t' σ H Q → t σ H Q) : PO X e t' := ⟨fun pins s σ H Q I q => h.run pins s σ H Q I (w σ H Q q)⟩
theorem PS.weak {e : Stmt} {t t' : TS} (h : PS X e t) (w : ∀ D σ H, t' D σ H → t D σ H) : PS X e t' := ⟨fun pins s σ H Q I q => h.run pins s σ H Q I (w Q σ H q)⟩
theorem PSs.weak {e : List Stmt} {t t' : TS} (h : PSs X e t) (w : ∀ D σ H, t' D σ H → t D σ H) : PSs X e t' := ⟨fun pins s σ H Q I q => h.run pins s σ H Q I (w Q σ H q)⟩

theorem pd_var (i : Nat) {x : Str} {pos : Pos} (hN : X.N[i]? = some x := by rfl) (hv : Vis X.env.scope x := by first | exact Or.inl rfl | exact Or.inr (Or.inl rfl) | exact Or.inr (Or.inr rfl)) (hd : (x == ("__debug__" : Str)) = false := by decide)
    (hcd : (x == ("__classdict__" : Str)) = false := by decide) : PE X (.Name x pos) (tD X.K W (getE i)) := by
  refine PE.weak (pe_var hN hv hd hcd) fun σ H Q ⟨e, he, hf⟩ => ?_
  cases g : getE i e with
  | ok d =>
    rw [g] at hf
    obtain ⟨v, e1, e2⟩ := he.get g
    exact ⟨v, e1, hf v H (Same.refl H) e2⟩
  | exc c => unfold getE at g; split at g <;> cases g
  | bad => rw [g] at hf; exact hf.elim
def cD (d : D) : En → Res D := fun _ => .ok d
theorem tD_const {v : V} {d : D} (h : ∀ K H, Rp K H d v) : ∀ σ H Q, tD X.K W (cD d) σ H Q → tC v σ H Q := fun σ H Q ⟨e, he, hf⟩ => hf v H (Same.refl H) (h _ _)
theorem pd_int {i j pos} : PE X (.Constant (.int i) j pos) (tD X.K W (cD (.int i))) := PE.weak pe_int (tD_const fun _ _ => rfl)
theorem pd_bl {b j pos} : PE X (.Constant (.bool b) j pos) (tD X.K W (cD (.bl b))) := PE.weak pe_bl (tD_const fun _ _ => rfl)
theorem pd_non {j pos} : PE X (.Constant .none j pos) (tD X.K W (cD .non)) := PE.weak pe_non (tD_const fun _ _ => rfl)
theorem pd_str (l : List Nat) {x j pos} (h : x = S l) : PE X (.Constant (.str x) j pos) (tD X.K W (cD (.str l))) := by
  subst h
  exact PE.weak pe_str (tD_const fun _ _ => rfl)

/-! ### composition -/
theorem fin_exc {K : PySem.W.Frag} {σ : L2.St} {H H1 : Hp} {c : Nat} (h : ∀ H', Same H H' → W c σ H') (s : Same H H1) : ∀ H', Same H1 H' → W c σ H' := fun H' q => h H' (s.trans q)
/-- a two-place operation on data -/
def OpD (K : PySem.W.Frag) (r : R2) (g : D → D → Option D) : Prop := ∀ x y H (Q : VK) d e z, Rp K H d x → Rp K H e y → g d e = some z → (∀ v H', Same H H' → Rp K H' z v → Q v H') → r x y H Q
def bopF (g : D → D → Option D) (fa fb : En → Res D) : En → Res D := fun e => rb (fa e) fun x => rb (fb e) fun y => ofO (g x y)
theorem tD_op {K : PySem.W.Frag} {r : R2} {g : D → D → Option D} {fa fb : En → Res D} (hg : OpD K r g) : ∀ σ H Q, tD K W (bopF g fa fb) σ H Q → tOp r (tD K W fa) (tD K W fb) σ H Q := by
  rintro σ H Q ⟨e, he, hf⟩
  refine ⟨e, he, ?_⟩
  unfold bopF at hf
  cases h1 : fa e with
  | bad => rw [h1] at hf; exact hf
  | exc c => rw [h1] at hf; exact hf
  | ok d =>
    rw [h1, rb_ok] at hf
    intro v H1 s1 r1
    refine ⟨e, he.mono s1, ?_⟩
    cases h2 : fb e with
    | bad => rw [h2] at hf; exact hf.elim
    | exc c => rw [h2] at hf; exact fun H' q => hf H' (s1.trans q)
    | ok d2 =>
      rw [h2, rb_ok] at hf
      intro v2 H2 s2 r2
      cases h3 : g d d2 with
      | none => rw [h3] at hf; exact hf.elim
      | some z =>
        rw [h3] at hf
        exact hg v v2 H2 Q d d2 z (r1.mono s2) r2 h3 fun v3 H3 s3 r3 => hf v3 H3 ((s1.trans s2).trans s3) r3
theorem pd_op {op : Operator} {r : R2} {g : D → D → Option D} {fa fb : En → Res D} {a b : Expr} {pos : Pos} (ho : OpR X (binaryOp op) r) (hg : OpD X.K r g) (ha : PE X a (tD X.K W fa)) (hb : PE X b (tD X.K W fb)) :
    PE X (.BinOp a op b pos) (tD X.K W (bopF g fa fb)) := PE.weak (pe_op ho ha hb) (tD_op hg)
theorem pd_cmp {op : CmpOp} {r : R2} {g : D → D → Option D} {fa fb : En → Res D} {a b : Expr} {pos : Pos} (ho : OpR X (compareOp op) r) (hg : OpD X.K r g) (ha : PE X a (tD X.K W fa)) (hb : PE X b (tD X.K W fb)) (hm : behindInMarks op b = false) :
    PE X (.Compare a [op] [b] pos) (tD X.K W (bopF g fa fb)) := PE.weak (pe_cmpR ho ha hb hm) (tD_op hg)
/-- a one-place operation -/
def UnD (K : PySem.W.Frag) (r : V → Hp → VK → Prop) (g : D → Option D) : Prop := ∀ x H (Q : VK) d z, Rp K H d x → g d = some z → (∀ v H', Same H H' → Rp K H' z v → Q v H') → r x H Q
def uopF (g : D → Option D) (fa : En → Res D) : En → Res D := fun e => rb (fa e) fun x => ofO (g x)
theorem tD_un {K : PySem.W.Frag} {r : V → Hp → VK → Prop} {g : D → Option D} {fa : En → Res D} (hg : UnD K r g) : ∀ σ H Q, tD K W (uopF g fa) σ H Q → tUn r (tD K W fa) σ H Q := by
  rintro σ H Q ⟨e, he, hf⟩
  refine ⟨e, he, ?_⟩
  unfold uopF at hf
  cases h1 : fa e with
  | bad => rw [h1] at hf; exact hf
  | exc c => rw [h1] at hf; exact hf
  | ok d =>
    rw [h1, rb_ok] at hf
    intro v H1 s1 r1
    cases h3 : g d with
    | none => rw [h3] at hf; exact hf.elim
    | some z =>
      rw [h3] at hf
      exact hg v H1 Q d z r1 h3 fun v3 H3 s3 r3 => hf v3 H3 (s1.trans s3) r3
theorem pd_un {op : UnaryOp} {r : V → Hp → VK → Prop} {g : D → Option D} {fa : En → Res D} {a : Expr} {pos : Pos} (ho : UnR X (unaryOp op) r) (hg : UnD X.K r g) (ha : PE X a (tD X.K W fa)) :
    PE X (.UnaryOp op a pos) (tD X.K W (uopF g fa)) := PE.weak (pe_un ho ha) (tD_un hg)

/-! ### arguments -/
def nilF : En → Res (List D) := fun _ => .ok []
def consF (f : En → Res D) (r : En → Res (List D)) : En → Res (List D) := fun e => rb (f e) fun d => rb (r e) fun ds => .ok (d :: ds)
theorem pda_nil : PA X [] (tDs X.K W nilF) := PA.weak pa_nil fun σ H Q ⟨e, he, hf⟩ => hf [] H (Same.refl H) rfl
theorem pda_cons {e : Expr} {es : List Expr} {f : En → Res D} {r : En → Res (List D)} (ha : PE X e (tD X.K W f)) (hr : PA X es (tDs X.K W r)) (hs : starEach (e :: es) X.env = (false, eval e X.env) :: starEach es X.env := by rfl) :
    PA X (e :: es) (tDs X.K W (consF f r)) := by
  refine PA.weak (pa_cons ha hr hs) ?_
  rintro σ H Q ⟨e, he, hf⟩
  refine ⟨e, he, ?_⟩
  unfold consF at hf
  cases h1 : f e with
  | bad => rw [h1] at hf; exact hf
  | exc c => rw [h1] at hf; exact hf
  | ok d =>
    rw [h1, rb_ok] at hf
    intro v H1 s1 r1
    refine ⟨e, he.mono s1, ?_⟩
    cases h2 : r e with
    | bad => rw [h2] at hf; exact hf.elim
    | exc c => rw [h2] at hf; exact fun H' q => hf H' (s1.trans q)
    | ok ds =>
      rw [h2, rb_ok] at hf
      intro vs H2 s2 r2
      exact hf (v :: vs) H2 (s1.trans s2) ⟨v, vs, rfl, r1.mono s2, r2⟩
/-- a tuple that is written -/
def tupF (f : En → Res (List D)) : En → Res D := fun e => rb (f e) fun ds => ofO (if ds.length ≤ sizeLine then some (.tup ds) else none)
theorem pd_tup {es : List Expr} {x1 pos} {f : En → Res (List D)} (h : PA X es (tDs X.K W f)) : PE X (.Tuple es x1 pos) (tD X.K W (tupF f)) := by
  refine PE.weak (pe_tup h) ?_
  rintro σ H Q ⟨e, he, hf⟩
  refine ⟨e, he, ?_⟩
  unfold tupF at hf
  cases h1 : f e with
  | bad => rw [h1] at hf; exact hf
  | exc c => rw [h1] at hf; exact hf
  | ok ds =>
    rw [h1, rb_ok] at hf
    intro vs H1 s1 r1
    by_cases hl : ds.length ≤ sizeLine
    · rw [if_pos hl] at hf
      refine ⟨by rw [← r1.length]; exact hl, fun p hp => ?_⟩
      exact hf (.ref p) _ (s1.trans (same_new hp)) ⟨p, vs, rfl, SqT.of upd_same, r1.mono (same_new hp)⟩
    · rw [if_neg hl] at hf
      exact hf.elim
/-- a list that is written -/
def lstF (f : En → Res (List D)) : En → Res (List D) := fun e => rb (f e) fun ds => ofO (if ds.length ≤ sizeLine then some ds else none)
theorem pn_lst {es : List Expr} {pos} {f : En → Res (List D)} (h : PA X es (tDs X.K W f)) : PE X (.List es pos) (tN X.K W (lstF f)) := by
  refine PE.weak (pe_lst h) ?_
  rintro σ H Q ⟨e, he, hf⟩
  refine ⟨e, he, ?_⟩
  unfold lstF at hf
  cases h1 : f e with
  | bad => rw [h1] at hf; exact hf
  | exc c => rw [h1] at hf; exact hf
  | ok ds =>
    rw [h1, rb_ok] at hf
    intro vs H1 s1 r1
    by_cases hl : ds.length ≤ sizeLine
    · rw [if_pos hl] at hf
      refine ⟨by rw [← r1.length]; exact hl, fun p hp => ?_⟩
      exact hf p vs _ (s1.free hp) (s1.trans (same_new hp)) upd_same (r1.mono (same_hide1 hp))
    · rw [if_neg hl] at hf
      exact hf.elim
/-- a new list as data -/
def mkL (f : En → Res (List D)) : En → Res D := fun e => rb (f e) fun ds => .ok (.lst ds)
theorem pd_new {e : Expr} {f : En → Res (List D)} (h : PE X e (tN X.K W f)) : PE X e (tD X.K W (mkL f)) := by
  refine PE.weak h ?_
  rintro σ H Q ⟨e, he, hf⟩
  refine ⟨e, he, ?_⟩
  unfold mkL at hf
  cases h1 : f e with
  | bad => rw [h1] at hf; exact hf
  | exc c => rw [h1] at hf; exact hf
  | ok ds =>
    rw [h1, rb_ok] at hf
    intro a vs H1 na s1 ea r1
    exact hf (.ref a) H1 s1 ⟨a, vs, rfl, SqL.of ea, r1.mono (hide_same _)⟩

/-! ### calls of built-ins -/
def CallD (K : PySem.W.Frag) (r : List V → Hp → VK → Prop) (g : List D → Option D) : Prop := ∀ xs H (Q : VK) ds z, RpAll K H ds xs → g ds = some z → (∀ v H', Same H H' → Rp K H' z v → Q v H') → r xs H Q
def CallN (K : PySem.W.Frag) (r : List V → Hp → VK → Prop) (g : List D → Option (List D)) : Prop := ∀ xs H (Q : VK) ds z, RpAll K H ds xs → g ds = some z → (∀ a vs H', H a = none → Same H H' → H' a = some (.lst vs) → RpAll K (hide1 a H') z vs → Q (.ref a) H') → r xs H Q
def callF {α : Type} (g : List D → Option α) (f : En → Res (List D)) : En → Res α := fun e => rb (f e) fun ds => ofO (g ds)
theorem tD_call {K : PySem.W.Frag} {r : List V → Hp → VK → Prop} {g : List D → Option D} {f : En → Res (List D)} (hg : CallD K r g) : ∀ σ H Q, tD K W (callF g f) σ H Q → tCB r (tDs K W f) σ H Q := by
  rintro σ H Q ⟨e, he, hf⟩
  refine ⟨e, he, ?_⟩
  unfold callF at hf
  cases h1 : f e with
  | bad => rw [h1] at hf; exact hf
  | exc c => rw [h1] at hf; exact hf
  | ok ds =>
    rw [h1, rb_ok] at hf
    intro vs H1 s1 r1
    cases h3 : g ds with
    | none => rw [h3] at hf; exact hf.elim
    | some z =>
      rw [h3] at hf
      exact hg vs H1 Q ds z r1 h3 fun v3 H3 s3 r3 => hf v3 H3 (s1.trans s3) r3
theorem tN_call {K : PySem.W.Frag} {r : List V → Hp → VK → Prop} {g : List D → Option (List D)} {f : En → Res (List D)} (hg : CallN K r g) : ∀ σ H Q, tN K W (callF g f) σ H Q → tCB r (tDs K W f) σ H Q := by
  rintro σ H Q ⟨e, he, hf⟩
  refine ⟨e, he, ?_⟩
  unfold callF at hf
  cases h1 : f e with
  | bad => rw [h1] at hf; exact hf
  | exc c => rw [h1] at hf; exact hf
  | ok ds =>
    rw [h1, rb_ok] at hf
    intro vs H1 s1 r1
    cases h3 : g ds with
    | none => rw [h3] at hf; exact hf.elim
    | some z =>
      rw [h3] at hf
      exact hg vs H1 Q ds z r1 h3 fun a ws H3 na s3 ea r3 => hf a ws H3 (s1.free na) (s1.trans s3) ea r3

/-! ### defs by plain functions -/
/-- the class of an exception, by its number -/
structure Cls4 where
  at_ : Nat → Addr
def FinR (K : PySem.W.Frag) (C : Cls4) (H : Hp) (Q : VK) (E : XK) : Res D → Prop
  | .ok d => ∀ v H', Same H H' → Rp K H' d v → Q v H'
  | .exc c => ∀ H', Same H H' → E (.ref (C.at_ c)) none H'
  | .bad => False
def FinRL (K : PySem.W.Frag) (C : Cls4) (H : Hp) (Q : VK) (E : XK) : Res (List D) → Prop
  | .ok xs => ∀ a vs H', H a = none → Same H H' → H' a = some (.lst vs) → RpAll K (hide1 a H') xs vs → Q (.ref a) H'
  | .exc c => ∀ H', Same H H' → E (.ref (C.at_ c)) none H'
  | .bad => False
def spD (K : PySem.W.Frag) (C : Cls4) (n : Nat) (g : List D → Res D) : Sp := fun vs H Q E => TabOK K H ∧ ∃ ds, ds.length = n ∧ RpAll K H ds vs ∧ FinR K C H Q E (g ds)
def spL (K : PySem.W.Frag) (C : Cls4) (n : Nat) (g : List D → Res (List D)) : Sp := fun vs H Q E => TabOK K H ∧ ∃ ds, ds.length = n ∧ RpAll K H ds vs ∧ FinRL K C H Q E (g ds)
theorem spD.len {K : PySem.W.Frag} {C : Cls4} {n : Nat} {g : List D → Res D} : ∀ vs H Q E, spD K C n g vs H Q E → vs.length = n := fun vs H Q E ⟨_, ds, h1, h2, _⟩ => h2.length.symm.trans h1
theorem spL.len {K : PySem.W.Frag} {C : Cls4} {n : Nat} {g : List D → Res (List D)} : ∀ vs H Q E, spL K C n g vs H Q E → vs.length = n := fun vs H Q E ⟨_, ds, h1, h2, _⟩ => h2.length.symm.trans h1
/-- a call of a def: n arguments -/
def fnF {α : Type} (n : Nat) (g : List D → Res α) (f : En → Res (List D)) : En → Res α := fun e => rb (f e) fun ds => if ds.length = n then noX (g ds) else .bad
theorem tD_fn {K : PySem.W.Frag} {C : Cls4} {n : Nat} {g : List D → Res D} {f : En → Res (List D)} : ∀ σ H Q, tD K W (fnF n g f) σ H Q → tCall (spD K C n g) [] E0 (tDs K W f) σ H Q := by
  rintro σ H Q ⟨e, he, hf⟩
  refine ⟨e, he, ?_⟩
  unfold fnF at hf
  cases h1 : f e with
  | bad => rw [h1] at hf; exact hf
  | exc c => rw [h1] at hf; exact hf
  | ok ds =>
    rw [h1, rb_ok] at hf
    intro vs H1 s1 r1
    by_cases hn : ds.length = n
    · rw [if_pos hn] at hf
      refine ⟨he.tab.mono s1, ds, hn, by simpa using r1, ?_⟩
      cases h3 : g ds with
      | bad => rw [h3] at hf; exact hf.elim
      | exc c => rw [h3] at hf; exact hf.elim
      | ok z =>
        rw [h3] at hf
        exact fun v3 H3 s3 r3 => hf v3 H3 (s1.trans s3) r3
    · rw [if_neg hn] at hf; exact hf.elim
theorem tN_fn {K : PySem.W.Frag} {C : Cls4} {n : Nat} {g : List D → Res (List D)} {f : En → Res (List D)} : ∀ σ H Q, tN K W (fnF n g f) σ H Q → tCall (spL K C n g) [] E0 (tDs K W f) σ H Q := by
  rintro σ H Q ⟨e, he, hf⟩
  refine ⟨e, he, ?_⟩
  unfold fnF at hf
  cases h1 : f e with
  | bad => rw [h1] at hf; exact hf
  | exc c => rw [h1] at hf; exact hf
  | ok ds =>
    rw [h1, rb_ok] at hf
    intro vs H1 s1 r1
    by_cases hn : ds.length = n
    · rw [if_pos hn] at hf
      refine ⟨he.tab.mono s1, ds, hn, by simpa using r1, ?_⟩
      cases h3 : g ds with
      | bad => rw [h3] at hf; exact hf.elim
      | exc c => rw [h3] at hf; exact hf.elim
      | ok z =>
        rw [h3] at hf
        exact fun a ws H3 na s3 ea r3 => hf a ws H3 (s1.free na) (s1.trans s3) ea r3
    · rw [if_neg hn] at hf; exact hf.elim
end
end FM

set_option Elab.async false
set_option linter.all false
set_option maxRecDepth 100000
/-! FM2: operators, subscripts, slices, tests on plain data. -/
namespace FM
open PySem PySem.Spec PyProof.Rows L2

/-! ### arithmetic -/
theorem OpD.or {K : PySem.W.Frag} {r r' : R2} {g g' : D → D → Option D} (h : OpD K r g) (h' : OpD K r' g') : OpD K (fun x y H Q => r x y H Q ∨ r' x y H Q) (fun d e => (g d e).or (g' d e)) := by
  intro x y H Q d e z r1 r2 hz q
  dsimp only at hz
  cases hg : g d e with
  | some u =>
    rw [hg] at hz
    have : u = z := by simpa using hz
    subst this
    exact .inl (h x y H Q d e u r1 r2 hg q)
  | none =>
    rw [hg] at hz
    exact .inr (h' x y H Q d e z r1 r2 (by simpa using hz) q)
def addI : D → D → Option D
  | .int i, .int j => some (.int (i + j))
  | _, _ => none
def addS : D → D → Option D
  | .str a, .str b => if a.length + b.length ≤ sizeLine then some (.str (a ++ b)) else none
  | _, _ => none
def addT : D → D → Option D
  | .tup a, .tup b => if a.length + b.length ≤ sizeLine then some (.tup (a ++ b)) else none
  | _, _ => none
def subI : D → D → Option D
  | .int i, .int j => some (.int (i - j))
  | _, _ => none
def mulI : D → D → Option D
  | .int i, .int j => if (i.natAbs < 2 ^ 64 ∨ j.natAbs < 2 ^ 64) then some (.int (i * j)) else none
  | _, _ => none
def modI : D → D → Option D
  | .int i, .int j => if 0 < j then some (.int (i % j)) else none
  | _, _ => none
def addL : D → D → Option (List D)
  | .lst a, .lst b => if a.length + b.length ≤ sizeLine then some (a ++ b) else none
  | _, _ => none
section
variable {K : PySem.W.Frag} {X : Cx} {W : Wx}
theorem rI0_D {g : Int → Int → D} {v : Int → Int → V} {f : D → D → Option D} (hv : ∀ i j K H, Rp K H (g i j) (v i j)) (hf : ∀ d e z, f d e = some z → ∃ i j, d = .int i ∧ e = .int j ∧ z = g i j) : OpD K (rI0 v) f := by
  intro x y H Q d e z r1 r2 hz q
  obtain ⟨i, j, rfl, rfl, rfl⟩ := hf d e z hz
  cases r1; cases r2
  exact ⟨i, j, rfl, rfl, q _ H (Same.refl H) (hv i j _ _)⟩
theorem addI_D : OpD K (rI0 fun i j => .int (i + j)) addI := rI0_D (g := fun i j => .int (i + j)) (fun _ _ _ _ => rfl) fun d e z h => by
  unfold addI at h; split at h <;> cases h; exact ⟨_, _, rfl, rfl, rfl⟩
theorem subI_D : OpD K (rI0 fun i j => .int (i - j)) subI := rI0_D (g := fun i j => .int (i - j)) (fun _ _ _ _ => rfl) fun d e z h => by
  unfold subI at h; split at h <;> cases h; exact ⟨_, _, rfl, rfl, rfl⟩
theorem addS_D : OpD K (fun x y H Q => ∃ i j : Str, x = .str i ∧ y = .str j ∧ i.length + j.length ≤ sizeLine ∧ Q (.str (i ++ j)) H) addS := by
  intro x y H Q d e z r1 r2 hz q
  unfold addS at hz
  split at hz
  · split at hz
    · rename_i a b hl
      cases hz
      cases r1; cases r2
      refine ⟨S a, S b, rfl, rfl, by simpa [Str.length] using hl, q _ H (Same.refl H) ?_⟩
      show V.str (S a ++ S b) = V.str (S (a ++ b))
      have : S a ++ S b = S (a ++ b) := by
        show Str.append (S a) (S b) = _
        simp [Str.append, S]
      rw [this]
    · cases hz
  · cases hz
theorem addT_D : OpD K (rCatA K) addT := by
  intro x y H Q d e z r1 r2 hz q
  unfold addT at hz
  split at hz
  · split at hz
    · rename_i a b hl
      cases hz
      obtain ⟨p, xs, rfl, h1, h2⟩ := r1
      obtain ⟨p2, ys, rfl, h3, h4⟩ := r2
      have l1 := h2.length
      have l2 := h4.length
      refine ⟨p, p2, xs, ys, rfl, rfl, h1, h3, by omega, fun e => ?_, fun _ e => ?_, fun _ _ p' hp => ?_⟩
      · subst e
        have : a = [] := List.eq_nil_of_length_eq_zero (by simpa using l1)
        subst this
        exact q _ H (Same.refl H) ⟨p2, ys, rfl, h3, by simpa using h4⟩
      · subst e
        have : b = [] := List.eq_nil_of_length_eq_zero (by simpa using l2)
        subst this
        exact q _ H (Same.refl H) ⟨p, xs, rfl, h1, by simpa using h2⟩
      · exact q _ _ (same_new hp) ⟨p', _, rfl, SqT.of upd_same, (h2.append h4).mono (same_new hp)⟩
    · cases hz
  · cases hz
theorem mulI_D : OpD K (rI CMul fun i j => .int (i * j)) mulI := by
  intro x y H Q d e z r1 r2 hz q
  unfold mulI at hz
  split at hz
  · split at hz
    · rename_i i j hc
      cases hz
      cases r1; cases r2
      refine ⟨i, j, rfl, rfl, ?_, q _ H (Same.refl H) rfl⟩
      rcases hc with h | h
      · exact .inl ⟨by omega, by omega⟩
      · exact .inr ⟨by omega, by omega⟩
    · cases hz
  · cases hz
theorem modI_D : OpD K (rI (fun _ j => 0 < j) fun i j => .int (i % j)) modI := by
  intro x y H Q d e z r1 r2 hz q
  unfold modI at hz
  split at hz
  · split at hz
    · rename_i i j hc
      cases hz
      cases r1; cases r2
      exact ⟨i, j, rfl, rfl, hc, q _ H (Same.refl H) rfl⟩
    · cases hz
  · cases hz
/-- a + b: numbers, texts, tuples -/
def addO (d e : D) : Option D := (addI d e).or ((addS d e).or (addT d e))
variable {a b c : Expr} {fa fb fc : En → Res D} {pos : Pos}
theorem pd_add (ha : PE X a (tD X.K W fa)) (hb : PE X b (tD X.K W fb)) : PE X (.BinOp a .Add b pos) (tD X.K W (bopF addO fa fb)) :=
  pd_op (op_add.or (op_add_str.or op_catA)) (addI_D.or (addS_D.or addT_D)) ha hb
theorem pd_sub (ha : PE X a (tD X.K W fa)) (hb : PE X b (tD X.K W fb)) : PE X (.BinOp a .Sub b pos) (tD X.K W (bopF subI fa fb)) := pd_op op_sub subI_D ha hb
theorem pd_mul (ha : PE X a (tD X.K W fa)) (hb : PE X b (tD X.K W fb)) : PE X (.BinOp a .Mult b pos) (tD X.K W (bopF mulI fa fb)) := pd_op op_mul mulI_D ha hb
theorem pd_mod (ha : PE X a (tD X.K W fa)) (hb : PE X b (tD X.K W fb)) : PE X (.BinOp a .Mod b pos) (tD X.K W (bopF modI fa fb)) := pd_op op_mod modI_D ha hb
def negI : D → Option D
  | .int i => some (.int (-i))
  | _ => none
theorem pd_neg (ha : PE X a (tD X.K W fa)) : PE X (.UnaryOp .USub a pos) (tD X.K W (uopF negI fa)) := pd_un un_neg (fun x H Q d z r hz q => by
  unfold negI at hz
  split at hz <;> cases hz
  cases r
  exact ⟨_, rfl, q _ H (Same.refl H) rfl⟩) ha

/-! ### two-place operations that give a new list -/
def OpN (K : PySem.W.Frag) (r : R2) (g : D → D → Option (List D)) : Prop := ∀ x y H (Q : VK) d e z, Rp K H d x → Rp K H e y → g d e = some z → (∀ a vs H', H a = none → Same H H' → H' a = some (.lst vs) → RpAll K (hide1 a H') z vs → Q (.ref a) H') → r x y H Q
def bopN (g : D → D → Option (List D)) (fa fb : En → Res D) : En → Res (List D) := fun e => rb (fa e) fun x => rb (fb e) fun y => ofO (g x y)
theorem tN_op {r : R2} {g : D → D → Option (List D)} {fa fb : En → Res D} (hg : OpN K r g) : ∀ σ H Q, tN K W (bopN g fa fb) σ H Q → tOp r (tD K W fa) (tD K W fb) σ H Q := by
  rintro σ H Q ⟨e, he, hf⟩
  refine ⟨e, he, ?_⟩
  unfold bopN at hf
  cases h1 : fa e with
  | bad => rw [h1] at hf; exact hf
  | exc c => rw [h1] at hf; exact hf
  | ok d =>
    rw [h1, rb_ok] at hf
    intro v H1 s1 r1
    refine ⟨e, he.mono s1, ?_⟩
    cases h2 : fb e with
    | bad => rw [h2] at hf; exact hf.elim
    | exc c => rw [h2] at hf; exact fun H' q => hf H' (s1.trans q)
    | ok d2 =>
      rw [h2, rb_ok] at hf
      intro v2 H2 s2 r2
      cases h3 : g d d2 with
      | none => rw [h3] at hf; exact hf.elim
      | some z =>
        rw [h3] at hf
        exact hg v v2 H2 Q d d2 z (r1.mono s2) r2 h3 fun a vs H3 na s3 ea r3 => hf a vs H3 ((s1.trans s2).free na) ((s1.trans s2).trans s3) ea r3
/-- list + list, whatever they stand as -/
def rCatL (K : PySem.W.Frag) : R2 := fun x y H Q => ∃ l b xs zs, x = .ref l ∧ y = .ref b ∧ SqL K H l xs ∧ SqL K H b zs ∧ xs.length + zs.length ≤ sizeLine ∧ ∀ p, H p = none → Q (.ref p) (upd H p (.lst (xs ++ zs)))
theorem op_catL : OpR X (binaryOp .Add) (rCatL X.K) := by
  intro pins s σ H x y v u Q I rx ry h
  obtain ⟨l, b, xs, zs, rfl, rfl, hH, hB, hz, q⟩ := h
  cases rx
  cases ry
  obtain ⟨its, r, ⟨⟨cls, dd, data, sl⟩, n, ho, hc, hdn, hd⟩, _⟩ := I.list hH
  obtain ⟨its2, r2, ⟨⟨cls2, dd2, data2, sl2⟩, n2, ho2, hc2, hdn2, hd2⟩, _⟩ := I.list hB
  simp only at hc hd hc2 hd2
  subst hc hd hc2 hd2
  have l1 := r.length
  have l2 := r2.length
  have ea : its.toArray ++ its2.toArray = (its ++ its2).toArray := by simp
  refine concat_meets ⟨_, ho, rfl⟩ ⟨_, ho2, rfl⟩ noFill_list_add seq_list_add PySem.F.slot_list_add PySem.F.entry_list_add (PySem.F.args_list_add_2 _ _) (list_addW l b its.toArray its2.toArray n n2 dd dd2 sl sl2 (by simp; omega)) ⟨ho, ho2, ?_⟩
  rw [ea]
  exact ⟨.ref _, _, I.lnew (t' := s.toks) (r.append r2) (by rw [List.length_append]; omega), rfl, q _ I.fresh⟩
theorem pn_add (ha : PE X a (tD X.K W fa)) (hb : PE X b (tD X.K W fb)) : PE X (.BinOp a .Add b pos) (tN X.K W (bopN addL fa fb)) :=
  PE.weak (pe_op op_catL ha hb) (tN_op (fun x y H Q d e z r1 r2 hz q => by
    unfold addL at hz
    split at hz
    · split at hz
      · rename_i xs ys hl
        cases hz
        obtain ⟨p, vs, rfl, h1, h2⟩ := r1
        obtain ⟨p2, ws, rfl, h3, h4⟩ := r2
        have l1 := h2.length
        have l2 := h4.length
        exact ⟨p, p2, vs, ws, rfl, rfl, h1, h3, by omega, fun p' hp => q p' _ _ hp (same_new hp) upd_same ((h2.append h4).mono (same_hide1 hp))⟩
      · cases hz
    · cases hz))

/-! ### comparisons -/
def scalD : D → D → Bool
  | .non, .non => true | .non, .int _ => true | .int _, .non => true | .non, .bl _ => true | .bl _, .non => true | .non, .str _ => true | .str _, .non => true
  | .int _, .int _ => true | .bl _, .bl _ => true | .str _, .str _ => true
  | .int _, .str _ => true | .str _, .int _ => true | .bl _, .str _ => true | .str _, .bl _ => true
  | _, _ => false
def eqB (d e : D) : Option Bool := if scalD d e then some (eqv d e) else if d.okN 64 && e.okN 64 then some (eqv d e) else none
def eqO (d e : D) : Option D := (eqB d e).map .bl
def neO (d e : D) : Option D := (eqB d e).map fun b => .bl (!b)
theorem scal_eqv {H : Hp} {d e : D} {x y : V} (h : scalD d e = true) (r1 : Rp K H d x) (r2 : Rp K H e y) : scal x y = true ∧ decide (x = y) = eqv d e := by
  cases d <;> cases e <;> simp only [scalD, Bool.false_eq_true] at h <;> cases r1 <;> cases r2 <;> refine ⟨rfl, ?_⟩ <;> simp [eqv]
  · rename_i i j
    by_cases h : i = j <;> simp [h]
  · rename_i i j
    by_cases h : i = j <;> simp [h]
  · rename_i i j
    by_cases h : i = j <;> simp [h]
theorem eqO_D : OpD K (fun x y H Q => rEq x y H Q ∨ rEqD K x y H Q) eqO := by
  intro x y H Q d e z r1 r2 hz q
  unfold eqO eqB at hz
  by_cases hs : scalD d e = true
  · rw [if_pos hs] at hz
    cases hz
    obtain ⟨h1, h2⟩ := scal_eqv hs r1 r2
    exact .inl ⟨h1, by rw [h2]; exact q _ H (Same.refl H) rfl⟩
  · rw [if_neg hs] at hz
    split at hz
    · rename_i hk
      simp only [Bool.and_eq_true] at hk
      cases hz
      exact .inr ⟨_, _, r1.dp, r2.dp, ok_shaped hk.1, ok_shaped hk.2, by rw [eqv_py]; exact q _ H (Same.refl H) rfl⟩
    · cases hz
theorem neO_D : OpD K (fun x y H Q => rNe x y H Q ∨ rNeD K x y H Q) neO := by
  intro x y H Q d e z r1 r2 hz q
  unfold neO eqB at hz
  by_cases hs : scalD d e = true
  · rw [if_pos hs] at hz
    cases hz
    obtain ⟨h1, h2⟩ := scal_eqv hs r1 r2
    exact .inl ⟨h1, by rw [h2]; exact q _ H (Same.refl H) rfl⟩
  · rw [if_neg hs] at hz
    split at hz
    · rename_i hk
      simp only [Bool.and_eq_true] at hk
      cases hz
      exact .inr ⟨_, _, r1.dp, r2.dp, ok_shaped hk.1, ok_shaped hk.2, by rw [eqv_py]; exact q _ H (Same.refl H) rfl⟩
    · cases hz
def ltO : D → D → Option D
  | .int i, .int j => some (.bl (decide (i < j)))
  | .str a, .str b => some (.bl (decide (a < b)))
  | _, _ => none
def leO : D → D → Option D
  | .int i, .int j => some (.bl (decide (i ≤ j)))
  | .str a, .str b => some (.bl (!decide (b < a)))
  | _, _ => none
def gtO : D → D → Option D
  | .int i, .int j => some (.bl (decide (j < i)))
  | .str a, .str b => some (.bl (decide (b < a)))
  | _, _ => none
def geO : D → D → Option D
  | .int i, .int j => some (.bl (decide (j ≤ i)))
  | .str a, .str b => some (.bl (!decide (a < b)))
  | _, _ => none
theorem ltO_D : OpD K (fun x y H Q => rI0 (fun i j => .bl (decide (i < j))) x y H Q ∨ ∃ i j : Str, x = .str i ∧ y = .str j ∧ Q (.bl (decide (i.cps.toList < j.cps.toList))) H) ltO := by
  intro x y H Q d e z r1 r2 hz q
  unfold ltO at hz
  split at hz <;> cases hz <;> cases r1 <;> cases r2
  · exact .inl ⟨_, _, rfl, rfl, q _ H (Same.refl H) rfl⟩
  · exact .inr ⟨_, _, rfl, rfl, q _ H (Same.refl H) rfl⟩
theorem leO_D : OpD K (fun x y H Q => rI0 (fun i j => .bl (decide (i ≤ j))) x y H Q ∨ ∃ i j : Str, x = .str i ∧ y = .str j ∧ Q (.bl (!decide (j.cps.toList < i.cps.toList))) H) leO := by
  intro x y H Q d e z r1 r2 hz q
  unfold leO at hz
  split at hz <;> cases hz <;> cases r1 <;> cases r2
  · exact .inl ⟨_, _, rfl, rfl, q _ H (Same.refl H) rfl⟩
  · exact .inr ⟨_, _, rfl, rfl, q _ H (Same.refl H) rfl⟩
theorem gtO_D : OpD K (fun x y H Q => rI0 (fun i j => .bl (decide (j < i))) x y H Q ∨ ∃ i j : Str, x = .str i ∧ y = .str j ∧ Q (.bl (decide (j.cps.toList < i.cps.toList))) H) gtO := by
  intro x y H Q d e z r1 r2 hz q
  unfold gtO at hz
  split at hz <;> cases hz <;> cases r1 <;> cases r2
  · exact .inl ⟨_, _, rfl, rfl, q _ H (Same.refl H) rfl⟩
  · exact .inr ⟨_, _, rfl, rfl, q _ H (Same.refl H) rfl⟩
theorem geO_D : OpD K (fun x y H Q => rI0 (fun i j => .bl (decide (j ≤ i))) x y H Q ∨ ∃ i j : Str, x = .str i ∧ y = .str j ∧ Q (.bl (!decide (i.cps.toList < j.cps.toList))) H) geO := by
  intro x y H Q d e z r1 r2 hz q
  unfold geO at hz
  split at hz <;> cases hz <;> cases r1 <;> cases r2
  · exact .inl ⟨_, _, rfl, rfl, q _ H (Same.refl H) rfl⟩
  · exact .inr ⟨_, _, rfl, rfl, q _ H (Same.refl H) rfl⟩
/-- x is None, x is True -/
def isB : D → D → Option Bool
  | .bl a, .bl b => some (decide (a = b))
  | .non, .non => some true
  | _, .non => some false
  | _, _ => none
def isO (d e : D) : Option D := (isB d e).map .bl
def isnO (d e : D) : Option D := (isB d e).map fun b => .bl (!b)
theorem Rp_non {H : Hp} {d : D} {v : V} (r : Rp K H d v) (h : ∀ x, d = .non → x = false) (x : Bool) : decide (v = .non) = false ∨ d = .non := by
  cases d with
  | non => exact .inr rfl
  | bl b => cases r; exact .inl (by simp)
  | int b => cases r; exact .inl (by simp)
  | str b => cases r; exact .inl (by simp)
  | tup b => obtain ⟨_, _, rfl, _⟩ := r; exact .inl (by simp)
  | lst b => obtain ⟨_, _, rfl, _⟩ := r; exact .inl (by simp)
theorem isB_non {H : Hp} {d : D} {v : V} (r : Rp K H d v) : isB d .non = some (decide (v = .non)) := by
  cases d with
  | non => cases r; rfl
  | bl b => cases r; simp [isB]
  | int b => cases r; simp [isB]
  | str b => cases r; simp [isB]
  | tup b => obtain ⟨_, _, rfl, _⟩ := r; simp [isB]
  | lst b => obtain ⟨_, _, rfl, _⟩ := r; simp [isB]
theorem isB_shape {d e : D} {b : Bool} (h : isB d e = some b) : e = .non ∨ ∃ x y, d = .bl x ∧ e = .bl y ∧ b = decide (x = y) := by
  unfold isB at h
  split at h <;> cases h
  · exact .inr ⟨_, _, rfl, rfl, rfl⟩
  · exact .inl rfl
  · exact .inl rfl
theorem isO_D : OpD K (fun x y H Q => (y = .non ∧ Q (.bl (decide (x = .non))) H) ∨ rIsB x y H Q) isO := by
  intro x y H Q d e z r1 r2 hz q
  unfold isO at hz
  cases hb : isB d e with
  | none => rw [hb] at hz; cases hz
  | some b =>
    rw [hb] at hz
    cases hz
    rcases isB_shape hb with rfl | ⟨x', y', rfl, rfl, rfl⟩
    · rw [isB_non r1] at hb
      cases hb
      cases r2
      exact .inl ⟨rfl, q _ H (Same.refl H) rfl⟩
    · cases r1; cases r2
      exact .inr ⟨_, _, rfl, rfl, q _ H (Same.refl H) rfl⟩
theorem isnO_D : OpD K (fun x y H Q => (y = .non ∧ Q (.bl (!decide (x = .non))) H) ∨ rNotB x y H Q) isnO := by
  intro x y H Q d e z r1 r2 hz q
  unfold isnO at hz
  cases hb : isB d e with
  | none => rw [hb] at hz; cases hz
  | some b =>
    rw [hb] at hz
    cases hz
    rcases isB_shape hb with rfl | ⟨x', y', rfl, rfl, rfl⟩
    · rw [isB_non r1] at hb
      cases hb
      cases r2
      exact .inl ⟨rfl, q _ H (Same.refl H) rfl⟩
    · cases r1; cases r2
      exact .inr ⟨_, _, rfl, rfl, q _ H (Same.refl H) rfl⟩
/-- x in y: a sign in a text; data in a tuple or a list -/
def inB : D → D → Option Bool
  | .str [c], .str b => some (decide (c ∈ b))
  | d, .tup ds => if d.okN 64 && okAll 63 ds then some (ds.any fun z => eqv z d) else none
  | d, .lst ds => if d.okN 64 && okAll 63 ds then some (ds.any fun z => eqv z d) else none
  | _, _ => none
def inO (d e : D) : Option D := (inB d e).map .bl
def ninO (d e : D) : Option D := (inB d e).map fun b => .bl (!b)
def rInT (K : PySem.W.Frag) : R2 := fun x y H Q => ∃ d ds, Dp K H x d ∧ Dp K H y (.tuple ds) ∧ SeqAt.shaped d = true ∧ SeqAt.shaped (.tuple ds) = true ∧ Q (.bl (ds.any fun z => PyData.eqv z d)) H
def rNotInT (K : PySem.W.Frag) : R2 := fun x y H Q => ∃ d ds, Dp K H x d ∧ Dp K H y (.tuple ds) ∧ SeqAt.shaped d = true ∧ SeqAt.shaped (.tuple ds) = true ∧ Q (.bl (!ds.any fun z => PyData.eqv z d)) H
theorem op_inT (hu : X.A.units + 65 < cLine) : OpR X (compareOp .In) (rInT X.K) := by
  intro pins s σ H x y v u Q I rx ry h
  obtain ⟨d, ds, hd, he, sd, se, q⟩ := h
  obtain ⟨as, r1⟩ := Dp.reads I d x v hd rx
  obtain ⟨bs, r2⟩ := Dp.reads I (.tuple ds) y u he ry
  exact SeqAt.in_tuple_reads r2 r1 (SeqAt.canLay_of_shaped se) (SeqAt.canLay_of_shaped sd) (room_in_shaped sd hu) ⟨.bl _, H, I, rfl, q⟩
theorem op_notInT (hu : X.A.units + 65 < cLine) : OpR X (compareOp .NotIn) (rNotInT X.K) := by
  intro pins s σ H x y v u Q I rx ry h
  obtain ⟨d, ds, hd, he, sd, se, q⟩ := h
  obtain ⟨as, r1⟩ := Dp.reads I d x v hd rx
  obtain ⟨bs, r2⟩ := Dp.reads I (.tuple ds) y u he ry
  exact SeqAt.notIn_tuple_reads r2 r1 (SeqAt.canLay_of_shaped se) (SeqAt.canLay_of_shaped sd) (room_in_shaped sd hu) ⟨.bl _, H, I, rfl, q⟩
theorem any_eqv_py (ds : List D) (d : D) : ((toPyAll ds).any fun z => PyData.eqv z (toPy d)) = ds.any fun z => eqv z d := by
  induction ds with
  | nil => simp [toPyAll]
  | cons e r ih => simp only [toPyAll, List.any_cons, ih, eqv_py]
theorem inB_shape {d e : D} {b : Bool} (h : inB d e = some b) : (∃ c l, d = .str [c] ∧ e = .str l ∧ b = decide (c ∈ l)) ∨ (∃ ds, e = .tup ds ∧ d.okN 64 = true ∧ okAll 63 ds = true ∧ b = ds.any fun z => eqv z d) ∨
    (∃ ds, e = .lst ds ∧ d.okN 64 = true ∧ okAll 63 ds = true ∧ b = ds.any fun z => eqv z d) := by
  unfold inB at h
  split at h
  · cases h; exact .inl ⟨_, _, rfl, rfl, rfl⟩
  · split at h
    · rename_i hk
      cases h
      simp only [Bool.and_eq_true] at hk
      exact .inr (.inl ⟨_, rfl, hk.1, hk.2, rfl⟩)
    · cases h
  · split at h
    · rename_i hk
      cases h
      simp only [Bool.and_eq_true] at hk
      exact .inr (.inr ⟨_, rfl, hk.1, hk.2, rfl⟩)
    · cases h
  · cases h
theorem inO_D : OpD K (fun x y H Q => (∃ (c : Nat) (z : Str), x = .str ⟨#[c]⟩ ∧ y = .str z ∧ Q (.bl (decide (c ∈ z.cps.toList))) H) ∨ (rInT K x y H Q ∨ rInD K x y H Q)) inO := by
  intro x y H Q d e z r1 r2 hz q
  unfold inO at hz
  cases hb : inB d e with
  | none => rw [hb] at hz; cases hz
  | some b =>
    rw [hb] at hz
    cases hz
    rcases inB_shape hb with ⟨c, l, rfl, rfl, rfl⟩ | ⟨ds, rfl, h1, h2, rfl⟩ | ⟨ds, rfl, h1, h2, rfl⟩
    · cases r1; cases r2
      exact .inl ⟨c, S l, rfl, rfl, q _ H (Same.refl H) rfl⟩
    · refine .inr (.inl ⟨_, _, r1.dp, r2.dp, ok_shaped h1, ok_shaped (d := .tup ds) (by simpa [D.okN] using h2), ?_⟩)
      rw [any_eqv_py]
      exact q _ H (Same.refl H) rfl
    · refine .inr (.inr ⟨_, _, r1.dp, r2.dp, ok_shaped h1, ok_shaped (d := .lst ds) (by simpa [D.okN] using h2), ?_⟩)
      rw [any_eqv_py]
      exact q _ H (Same.refl H) rfl
theorem ninO_D : OpD K (fun x y H Q => (∃ (c : Nat) (z : Str), x = .str ⟨#[c]⟩ ∧ y = .str z ∧ Q (.bl (!decide (c ∈ z.cps.toList))) H) ∨ (rNotInT K x y H Q ∨ rNotInD K x y H Q)) ninO := by
  intro x y H Q d e z r1 r2 hz q
  unfold ninO at hz
  cases hb : inB d e with
  | none => rw [hb] at hz; cases hz
  | some b =>
    rw [hb] at hz
    cases hz
    rcases inB_shape hb with ⟨c, l, rfl, rfl, rfl⟩ | ⟨ds, rfl, h1, h2, rfl⟩ | ⟨ds, rfl, h1, h2, rfl⟩
    · cases r1; cases r2
      exact .inl ⟨c, S l, rfl, rfl, q _ H (Same.refl H) rfl⟩
    · refine .inr (.inl ⟨_, _, r1.dp, r2.dp, ok_shaped h1, ok_shaped (d := .tup ds) (by simpa [D.okN] using h2), ?_⟩)
      rw [any_eqv_py]
      exact q _ H (Same.refl H) rfl
    · refine .inr (.inr ⟨_, _, r1.dp, r2.dp, ok_shaped h1, ok_shaped (d := .lst ds) (by simpa [D.okN] using h2), ?_⟩)
      rw [any_eqv_py]
      exact q _ H (Same.refl H) rfl
/-- a comparison: the operator's rule and its function -/
structure CmpR (X : Cx) (op : CmpOp) (g : D → D → Option D) : Prop where
  ex : ∃ r, OpR X (compareOp op) r ∧ OpD X.K r g
theorem cm_eq {k : Nat} (hr : Room k X.A) : CmpR X .Eq eqO := ⟨_, op_eq.or (op_eqD hr.units), eqO_D⟩
theorem cm_ne {k : Nat} (hr : Room k X.A) : CmpR X .NotEq neO := ⟨_, op_ne.or (op_neD hr.units), neO_D⟩
theorem cm_lt : CmpR X .Lt ltO := ⟨_, op_lt.or op_lt_str, ltO_D⟩
theorem cm_le : CmpR X .LtE leO := ⟨_, op_le.or op_le_str, leO_D⟩
theorem cm_gt : CmpR X .Gt gtO := ⟨_, op_gt.or op_gt_str, gtO_D⟩
theorem cm_ge : CmpR X .GtE geO := ⟨_, op_ge.or op_ge_str, geO_D⟩
theorem cm_is : CmpR X .Is isO := ⟨_, op_isN.or op_isBl, isO_D⟩
theorem cm_isn : CmpR X .IsNot isnO := ⟨_, op_notN.or op_notBl, isnO_D⟩
theorem units65 {k : Nat} (hr : Room k X.A) : X.A.units + 65 < cLine := by have := hr.un; omega
theorem cm_in {k : Nat} (hr : Room k X.A) : CmpR X .In inO := ⟨_, op_in_sign.or ((op_inT (units65 hr)).or (op_inD (units65 hr))), inO_D⟩
theorem cm_nin {k : Nat} (hr : Room k X.A) : CmpR X .NotIn ninO := ⟨_, op_notIn_sign.or ((op_notInT (units65 hr)).or (op_notInD (units65 hr))), ninO_D⟩
theorem pd_cm {op : CmpOp} {g : D → D → Option D} (h : CmpR X op g) (ha : PE X a (tD X.K W fa)) (hb : PE X b (tD X.K W fb)) (hm : behindInMarks op b = false := by first | exact nomark _ | rfl) : PE X (.Compare a [op] [b] pos) (tD X.K W (bopF g fa fb)) := by
  obtain ⟨r, h1, h2⟩ := h.ex
  exact pd_cmp h1 h2 ha hb hm

/-! ### tests -/
/-- a bool that comes as data -/
def isBl : D → Res Bool
  | .bl b => .ok b
  | _ => .bad
def tstF (f : En → Res D) : En → Res Bool := fun e => rb (f e) isBl
theorem tT_tst {f : En → Res D} : ∀ σ H Q, tT K W (tstF f) σ H Q → tTest (tD K W f) σ H Q := by
  rintro σ H Q ⟨e, he, hf⟩
  refine ⟨e, he, ?_⟩
  unfold tstF at hf
  cases h1 : f e with
  | bad => rw [h1] at hf; exact hf
  | exc c => rw [h1] at hf; exact hf
  | ok d =>
    rw [h1, rb_ok] at hf
    intro v H1 s1 r1
    cases d with
    | bl b => cases r1; exact ⟨b, rfl, hf H1 s1⟩
    | _ => exact (hf : False).elim
theorem pdt_cm {op : CmpOp} {g : D → D → Option D} (h : CmpR X op g) (ha : PE X a (tD X.K W fa)) (hb : PE X b (tD X.K W fb)) (hm : behindInMarks op b = false := by first | exact nomark _ | rfl) : PT X (.Compare a [op] [b] pos) (tT X.K W (tstF (bopF g fa fb))) := by
  obtain ⟨r, h1, h2⟩ := h.ex
  refine PT.weak (pt_cmpR h1 ha hb hm) fun σ H Q q => ?_
  obtain ⟨e, he, hf⟩ := tT_tst σ H Q q
  exact tD_op h2 σ H _ ⟨e, he, hf⟩
/-- a op b op' c -/
def chF (g g' : D → D → Option D) (fa fb fc : En → Res D) : En → Res D := fun e => rb (fa e) fun x => rb (fb e) fun y => rb (ofO (g x y)) fun z => rb (isBl z) fun k => if k then rb (fc e) fun w => ofO (g' y w) else .ok (.bl false)
theorem tD_ch {r r' : R2} {g g' : D → D → Option D} (h1 : OpD K r g) (h2 : OpD K r' g') : ∀ σ H Q, tD K W (chF g g' fa fb fc) σ H Q → tChain r r' (tD K W fa) (tD K W fb) (tD K W fc) σ H Q := by
  rintro σ H Q ⟨e, he, hf⟩
  refine ⟨e, he, ?_⟩
  unfold chF at hf
  cases e1 : fa e with
  | bad => rw [e1] at hf; exact hf
  | exc c => rw [e1] at hf; exact hf
  | ok d =>
    rw [e1, rb_ok] at hf
    intro v H1 s1 r1
    refine ⟨e, he.mono s1, ?_⟩
    cases e2 : fb e with
    | bad => rw [e2] at hf; exact hf.elim
    | exc c => rw [e2] at hf; exact fun H' q => hf H' (s1.trans q)
    | ok d2 =>
      rw [e2, rb_ok] at hf
      intro v2 H2 s2 r2
      cases e3 : g d d2 with
      | none => rw [e3] at hf; exact hf.elim
      | some z =>
        rw [e3, ofO_some, rb_ok] at hf
        cases z with
        | bl k =>
          refine h1 v v2 H2 _ d d2 _ (r1.mono s2) r2 e3 fun v3 H3 s3 r3 => ?_
          cases r3
          refine ⟨k, rfl, ?_⟩
          simp only [isBl, rb_ok] at hf
          cases k with
          | false => simp only [Bool.false_eq_true, if_false] at hf ⊢; exact hf _ H3 ((s1.trans s2).trans s3) rfl
          | true =>
            simp only [if_true] at hf ⊢
            refine ⟨e, ((he.mono s1).mono s2).mono s3, ?_⟩
            cases e4 : fc e with
            | bad => rw [e4] at hf; exact hf.elim
            | exc c => rw [e4] at hf; exact fun H' q => hf H' (((s1.trans s2).trans s3).trans q)
            | ok d4 =>
              rw [e4, rb_ok] at hf
              intro v4 H4 s4 r4
              cases e5 : g' d2 d4 with
              | none => rw [e5] at hf; exact hf.elim
              | some z5 =>
                rw [e5] at hf
                exact h2 v2 v4 H4 Q d2 d4 z5 ((r2.mono s3).mono s4) r4 e5 fun v5 H5 s5 r5 => hf v5 H5 ((((s1.trans s2).trans s3).trans s4).trans s5) r5
        | _ => exact (hf : False).elim
theorem pd_ch {op op' : CmpOp} {g g' : D → D → Option D} (h : CmpR X op g) (h' : CmpR X op' g') (ha : PE X a (tD X.K W fa)) (hb : PE X b (tD X.K W fb)) (hc : PE X c (tD X.K W fc)) (hm : lastMarks [op, op'] [b, c] = false := by with_unfolding_all rfl) :
    PE X (.Compare a [op, op'] [b, c] pos) (tD X.K W (chF g g' fa fb fc)) := by
  obtain ⟨r, h1, h2⟩ := h.ex
  obtain ⟨r', h1', h2'⟩ := h'.ex
  exact PE.weak (pe_chain h1 h1' ha hb hc hm) (tD_ch h2 h2')
theorem pdt_ch {op op' : CmpOp} {g g' : D → D → Option D} (h : CmpR X op g) (h' : CmpR X op' g') (ha : PE X a (tD X.K W fa)) (hb : PE X b (tD X.K W fb)) (hc : PE X c (tD X.K W fc)) (hm : lastMarks [op, op'] [b, c] = false := by with_unfolding_all rfl) :
    PT X (.Compare a [op, op'] [b, c] pos) (tT X.K W (tstF (chF g g' fa fb fc))) := by
  obtain ⟨r, h1, h2⟩ := h.ex
  obtain ⟨r', h1', h2'⟩ := h'.ex
  refine PT.weak (pt_chain h1 h1' ha hb hc hm) fun σ H Q q => ?_
  obtain ⟨e, he, hf⟩ := tT_tst σ H Q q
  exact tD_ch h2 h2' σ H _ ⟨e, he, hf⟩
/-- truth -/
def truD : D → Res Bool
  | .non => .ok false
  | .bl b => .ok b
  | .int i => .ok (i != 0)
  | .str l => if l.length ≤ sizeLine then .ok (!l.isEmpty) else .bad
  | .tup l => .ok (!l.isEmpty)
  | .lst l => .ok (!l.isEmpty)
def truF (f : En → Res D) : En → Res Bool := fun e => rb (f e) truD
theorem pdt_tru (ha : PE X a (tD X.K W fa)) (he : ∀ whole, isTrue a X.env whole = (do let v ← whole; standAt a.pos; holding [v] (truthy v)) := by intro _; rfl) : PT X a (tT X.K W (truF fa)) := by
  refine PT.weak (pt_truth ha he) ?_
  rintro σ H Q ⟨e, he, hf⟩
  refine ⟨e, he, ?_⟩
  unfold truF at hf
  cases h1 : fa e with
  | bad => rw [h1] at hf; exact hf
  | exc c => rw [h1] at hf; exact hf
  | ok d =>
    rw [h1, rb_ok] at hf
    intro v H1 s1 r1
    have isE : ∀ {ds : List D} {vs : List V}, RpAll X.K H1 ds vs → vs.isEmpty = ds.isEmpty := fun {ds vs} r => by
      have := r.length
      cases ds <;> cases vs <;> simp at this ⊢
    cases d with
    | non => cases r1; exact ⟨false, rfl, hf H1 s1⟩
    | bl b => cases r1; exact ⟨b, rfl, hf H1 s1⟩
    | int i => cases r1; exact ⟨_, rfl, hf H1 s1⟩
    | str l =>
      cases r1
      simp only [truD] at hf
      split at hf
      · rename_i hl
        refine ⟨_, ⟨by simpa [Str.length] using hl, ?_⟩, hf H1 s1⟩
        cases l with
        | nil => rfl
        | cons c r =>
          have h0 : (((S (c :: r)).length : Nat) : Int) ≠ 0 := by simp [Str.length]; omega
          have h1 : ((((S (c :: r)).length : Nat) : Int) != 0) = true := bne_iff_ne.mpr h0
          rw [h1]
          rfl
      · exact hf.elim
    | tup l =>
      obtain ⟨p, xs, rfl, h2, h3⟩ := r1
      exact ⟨_, .inr (.inl ⟨xs, h2, rfl⟩), by rw [isE h3]; exact hf H1 s1⟩
    | lst l =>
      obtain ⟨p, xs, rfl, h2, h3⟩ := r1
      exact ⟨_, .inl ⟨xs, h2, rfl⟩, by rw [isE h3]; exact hf H1 s1⟩
variable {ta tb : En → Res Bool} {rest : List Expr}
def notF (t : En → Res Bool) : En → Res Bool := fun e => rb (t e) fun b => .ok (!b)
def andF (t u : En → Res Bool) : En → Res Bool := fun e => rb (t e) fun b => if b then u e else .ok false
def orF (t u : En → Res Bool) : En → Res Bool := fun e => rb (t e) fun b => if b then .ok true else u e
theorem pdt_not (ha : PT X a (tT X.K W ta)) : PT X (.UnaryOp .Not a pos) (tT X.K W (notF ta)) := by
  refine PT.weak (pt_not ha) ?_
  rintro σ H Q ⟨e, he, hf⟩
  refine ⟨e, he, ?_⟩
  unfold notF at hf
  cases h1 : ta e with
  | bad => rw [h1] at hf; exact hf
  | exc c => rw [h1] at hf; exact hf
  | ok b => rw [h1] at hf; exact hf
theorem pdw_and1 (ha : PT X a (tT X.K W ta)) : PW X (.BoolOp .And [a] pos) (tT X.K W ta) := pw_and1 ha
theorem pdw_or1 (ha : PT X a (tT X.K W ta)) : PW X (.BoolOp .Or [a] pos) (tT X.K W ta) := pw_or1 ha
theorem pdw_and (ha : PT X a (tT X.K W ta)) (hb : PW X (.BoolOp .And (b :: rest) pos) (tT X.K W tb)) : PW X (.BoolOp .And (a :: b :: rest) pos) (tT X.K W (andF ta tb)) := by
  refine PW.weak (pw_and ha hb) ?_
  rintro σ H Q ⟨e, he, hf⟩
  refine ⟨e, he, ?_⟩
  unfold andF at hf
  cases h1 : ta e with
  | bad => rw [h1] at hf; exact hf
  | exc c => rw [h1] at hf; exact hf
  | ok k =>
    rw [h1, rb_ok] at hf
    intro H1 s1
    cases k with
    | false => simp only [Bool.false_eq_true, if_false] at hf ⊢; exact hf H1 s1
    | true =>
      simp only [if_true] at hf ⊢
      refine ⟨e, he.mono s1, ?_⟩
      cases h2 : tb e with
      | bad => rw [h2] at hf; exact hf
      | exc c => rw [h2] at hf; exact fun H' q => hf H' (s1.trans q)
      | ok k2 => rw [h2] at hf; exact fun H' q => hf H' (s1.trans q)
theorem pdw_or (ha : PT X a (tT X.K W ta)) (hb : PW X (.BoolOp .Or (b :: rest) pos) (tT X.K W tb)) : PW X (.BoolOp .Or (a :: b :: rest) pos) (tT X.K W (orF ta tb)) := by
  refine PW.weak (pw_or ha hb) ?_
  rintro σ H Q ⟨e, he, hf⟩
  refine ⟨e, he, ?_⟩
  unfold orF at hf
  cases h1 : ta e with
  | bad => rw [h1] at hf; exact hf
  | exc c => rw [h1] at hf; exact hf
  | ok k =>
    rw [h1, rb_ok] at hf
    intro H1 s1
    cases k with
    | true => simp only [if_true] at hf ⊢; exact hf H1 s1
    | false =>
      simp only [Bool.false_eq_true, if_false] at hf ⊢
      refine ⟨e, he.mono s1, ?_⟩
      cases h2 : tb e with
      | bad => rw [h2] at hf; exact hf
      | exc c => rw [h2] at hf; exact fun H' q => hf H' (s1.trans q)
      | ok k2 => rw [h2] at hf; exact fun H' q => hf H' (s1.trans q)
/-- values of and, or, not where all but the last are bools -/
def notV (f : En → Res D) : En → Res D := fun e => rb (f e) fun d => rb (isBl d) fun b => .ok (.bl (!b))
def andV (f g : En → Res D) : En → Res D := fun e => rb (f e) fun d => rb (isBl d) fun b => if b then g e else .ok (.bl false)
def orV (f g : En → Res D) : En → Res D := fun e => rb (f e) fun d => rb (isBl d) fun b => if b then .ok (.bl true) else g e
theorem pd_not (ha : PE X a (tD X.K W fa)) : PE X (.UnaryOp .Not a pos) (tD X.K W (notV fa)) := by
  refine PE.weak (pe_not ha) ?_
  rintro σ H Q ⟨e, he, hf⟩
  refine ⟨e, he, ?_⟩
  unfold notV at hf
  cases h1 : fa e with
  | bad => rw [h1] at hf; exact hf
  | exc c => rw [h1] at hf; exact hf
  | ok d =>
    rw [h1, rb_ok] at hf
    intro v H1 s1 r1
    cases d with
    | bl b => cases r1; exact ⟨b, rfl, hf _ H1 s1 rfl⟩
    | _ => exact (hf : False).elim
theorem pd_one {op : BoolOp} (h : PE X a (tD X.K W fa)) : PE X (.BoolOp op [a] pos) (tD X.K W fa) := pe_one h
theorem pd_and (ha : PE X a (tD X.K W fa)) (hb : PE X (.BoolOp .And (b :: rest) pos) (tD X.K W fb)) : PE X (.BoolOp .And (a :: b :: rest) pos) (tD X.K W (andV fa fb)) := by
  refine PE.weak (pe_and ha hb) ?_
  rintro σ H Q ⟨e, he, hf⟩
  refine ⟨e, he, ?_⟩
  unfold andV at hf
  cases h1 : fa e with
  | bad => rw [h1] at hf; exact hf
  | exc c => rw [h1] at hf; exact hf
  | ok d =>
    rw [h1, rb_ok] at hf
    intro v H1 s1 r1
    cases d with
    | bl k =>
      cases r1
      refine ⟨k, rfl, ?_⟩
      simp only [isBl, rb_ok] at hf
      cases k with
      | false => simp only [Bool.false_eq_true, if_false] at hf ⊢; exact hf _ H1 s1 rfl
      | true =>
        simp only [if_true] at hf ⊢
        refine ⟨e, he.mono s1, ?_⟩
        cases h2 : fb e with
        | bad => rw [h2] at hf; exact hf
        | exc c => rw [h2] at hf; exact fun H' q => hf H' (s1.trans q)
        | ok k2 => rw [h2] at hf; exact fun v H' q => hf v H' (s1.trans q)
    | _ => exact (hf : False).elim
theorem pd_or (ha : PE X a (tD X.K W fa)) (hb : PE X (.BoolOp .Or (b :: rest) pos) (tD X.K W fb)) : PE X (.BoolOp .Or (a :: b :: rest) pos) (tD X.K W (orV fa fb)) := by
  refine PE.weak (pe_or ha hb) ?_
  rintro σ H Q ⟨e, he, hf⟩
  refine ⟨e, he, ?_⟩
  unfold orV at hf
  cases h1 : fa e with
  | bad => rw [h1] at hf; exact hf
  | exc c => rw [h1] at hf; exact hf
  | ok d =>
    rw [h1, rb_ok] at hf
    intro v H1 s1 r1
    cases d with
    | bl k =>
      cases r1
      refine ⟨k, rfl, ?_⟩
      simp only [isBl, rb_ok] at hf
      cases k with
      | true => simp only [if_true] at hf ⊢; exact hf _ H1 s1 rfl
      | false =>
        simp only [Bool.false_eq_true, if_false] at hf ⊢
        refine ⟨e, he.mono s1, ?_⟩
        cases h2 : fb e with
        | bad => rw [h2] at hf; exact hf
        | exc c => rw [h2] at hf; exact fun H' q => hf H' (s1.trans q)
        | ok k2 => rw [h2] at hf; exact fun v H' q => hf v H' (s1.trans q)
    | _ => exact (hf : False).elim
/-- a if t else b -/
def ifF {α : Type} (t : En → Res Bool) (f g : En → Res α) : En → Res α := fun e => rb (t e) fun b => if b then f e else g e
theorem pd_if (hc : PT X c (tT X.K W ta)) (ha : PE X a (tD X.K W fa)) (hb : PE X b (tD X.K W fb)) : PE X (.IfExp c a b pos) (tD X.K W (ifF ta fa fb)) := by
  refine PE.weak (pe_ifExp hc ha hb) ?_
  rintro σ H Q ⟨e, he, hf⟩
  refine ⟨e, he, ?_⟩
  unfold ifF at hf
  cases h1 : ta e with
  | bad => rw [h1] at hf; exact hf
  | exc c => rw [h1] at hf; exact hf
  | ok k =>
    rw [h1, rb_ok] at hf
    intro H1 s1
    cases k with
    | false =>
      simp only [Bool.false_eq_true, if_false] at hf ⊢
      refine ⟨e, he.mono s1, ?_⟩
      cases h2 : fb e with
      | bad => rw [h2] at hf; exact hf
      | exc c => rw [h2] at hf; exact fun H' q => hf H' (s1.trans q)
      | ok k2 => rw [h2] at hf; exact fun v H' q => hf v H' (s1.trans q)
    | true =>
      simp only [if_true] at hf ⊢
      refine ⟨e, he.mono s1, ?_⟩
      cases h2 : fa e with
      | bad => rw [h2] at hf; exact hf
      | exc c => rw [h2] at hf; exact fun H' q => hf H' (s1.trans q)
      | ok k2 => rw [h2] at hf; exact fun v H' q => hf v H' (s1.trans q)

/-! ### subscripts, slices -/
def ixO : D → D → Option D
  | .tup xs, .int i => atI xs i
  | .lst xs, .int i => atI xs i
  | .str l, .int i => if l.length ≤ sizeLine then (atI l i).map fun c => .str [c] else none
  | _, _ => none
theorem atI_Rp {H : Hp} {ds : List D} {vs : List V} {i : Int} {d : D} (r : RpAll K H ds vs) (h : atI ds i = some d) : ∃ v, atI vs i = some v ∧ Rp K H d v := by
  unfold atI at h ⊢
  rw [← r.length]
  cases e : ixN ds.length i with
  | none => rw [e] at h; cases h
  | some j =>
    rw [e] at h
    exact r.get h
theorem ixO_D : OpD K (rIx K) ixO := by
  intro x y H Q d e z r1 r2 hz q
  unfold ixO at hz
  split at hz
  · obtain ⟨p, vs, rfl, h1, h2⟩ := r1
    cases r2
    obtain ⟨v, e1, e2⟩ := atI_Rp h2 hz
    exact .inr (.inl ⟨p, vs, _, v, rfl, rfl, h1, e1, q v H (Same.refl H) e2⟩)
  · obtain ⟨p, vs, rfl, h1, h2⟩ := r1
    cases r2
    obtain ⟨v, e1, e2⟩ := atI_Rp h2 hz
    exact .inl ⟨p, vs, _, v, rfl, rfl, h1, e1, q v H (Same.refl H) e2⟩
  · cases r1; cases r2
    rename_i l i
    by_cases hl : l.length ≤ sizeLine
    · rw [if_pos hl] at hz
      cases hc : atI l i with
      | none => rw [hc] at hz; cases hz
      | some c =>
        rw [hc] at hz
        cases hz
        exact .inr (.inr ⟨S l, i, c, rfl, rfl, by simpa [Str.length] using hl, by simpa using hc, q _ H (Same.refl H) rfl⟩)
    · rw [if_neg hl] at hz; cases hz
  · cases hz
theorem pd_ix (ha : PE X a (tD X.K W fa)) (hb : PE X b (tD X.K W fb)) (hs : PlainIx b := by exact fun _ _ => rfl) : PE X (.Subscript a b pos) (tD X.K W (bopF ixO fa fb)) := PE.weak (pe_ix ix_seq ha hb hs) (tD_op ixO_D)
/-- a slice's part -/
def intO : D → Res (Option Int)
  | .int i => .ok (some i)
  | _ => .bad
def noP : En → Res (Option Int) := fun _ => .ok none
def soP (f : En → Res D) : En → Res (Option Int) := fun e => rb (f e) intO
theorem pdo_none : PO X none (tO X.K W noP) := PO.weak po_none fun σ H Q ⟨e, he, hf⟩ => hf H (Same.refl H)
theorem pdo_some (ha : PE X a (tD X.K W fa)) : PO X (some a) (tO X.K W (soP fa)) := by
  refine PO.weak (po_some ha) ?_
  rintro σ H Q ⟨e, he, hf⟩
  refine ⟨e, he, ?_⟩
  unfold soP at hf
  cases h1 : fa e with
  | bad => rw [h1] at hf; exact hf
  | exc c => rw [h1] at hf; exact hf
  | ok d =>
    rw [h1, rb_ok] at hf
    intro v H1 s1 r1
    cases d with
    | int i => cases r1; exact ⟨i, rfl, hf H1 s1⟩
    | _ => exact (hf : False).elim
def cutL {α : Type} (xs : List α) (lo hi : Option Int) : List α := (xs.drop (HT.sIx xs.length 0 lo)).take (HT.sIx xs.length xs.length hi - HT.sIx xs.length 0 lo)
theorem cut_Rp {H : Hp} {ds : List D} {vs : List V} (lo hi : Option Int) (r : RpAll K H ds vs) : RpAll K H (cutL ds lo hi) (cutV vs lo hi) := by
  unfold cutL cutV
  rw [← r.length]
  exact (r.drop _).take _
/-- a text's or tuple's slice -/
def slO (d : D) (lo hi : Option Int) : Option D := match d with
  | .str l => if l.length ≤ sizeLine then some (.str (cutL l lo hi)) else none
  | .tup xs => some (.tup (cutL xs lo hi))
  | _ => none
def slN (d : D) (lo hi : Option Int) : Option (List D) := match d with
  | .lst xs => some (cutL xs lo hi)
  | _ => none
def slF {α : Type} (g : D → Option Int → Option Int → Option α) (f : En → Res D) (p q : En → Res (Option Int)) : En → Res α := fun e => rb (f e) fun d => rb (p e) fun lo => rb (q e) fun hi => ofO (g d lo hi)
variable {lo hi : Option Expr} {fl fh : En → Res (Option Int)} {p2 : Pos}
theorem sl_walk {r : V → Option Int → Option Int → Hp → VK → Prop} {Fi : L2.St → Hp → VK → Prop} {f : En → Res D} {σ : L2.St} {H : Hp} {Q : VK} {e : En} (he : EnvOk K H σ e)
    (hf : Fin K W σ H (fun x H1 => FinO K W σ H1 (fun l H2 => FinO K W σ H2 (fun u H3 => r x l u H3 Q) (fh e)) (fl e)) (f e)) : tSl r (tD K W f) (tO K W fl) (tO K W fh) σ H Q := by
  refine ⟨e, he, ?_⟩
  cases h1 : f e with
  | bad => rw [h1] at hf; exact hf
  | exc c => rw [h1] at hf; exact hf
  | ok d =>
    rw [h1] at hf
    intro v H1 s1 r1
    refine ⟨e, he.mono s1, ?_⟩
    have hf1 := hf v H1 s1 r1
    cases h2 : fl e with
    | bad => rw [h2] at hf1; exact hf1
    | exc c => rw [h2] at hf1; exact hf1
    | ok l =>
      rw [h2] at hf1
      intro H2 s2
      exact ⟨e, (he.mono s1).mono s2, hf1 H2 s2⟩
theorem sl_fin {α : Type} {g : D → Option Int → Option Int → Option α} {f : En → Res D} {σ : L2.St} {H : Hp} {e : En} {Fi : Res α → Prop} {R : V → Option Int → Option Int → Hp → Prop}
    (hx : ∀ c, Fi (.exc c) → ∀ H', Same H H' → W c σ H') (hb : Fi .bad → False) (hf : Fi (slF g f fl fh e))
    (hok : ∀ d lo hi z v H', g d lo hi = some z → Same H H' → Rp K H' d v → Fi (.ok z) → R v lo hi H') :
    Fin K W σ H (fun x H1 => FinO K W σ H1 (fun l H2 => FinO K W σ H2 (fun u H3 => R x l u H3) (fh e)) (fl e)) (f e) := by
  unfold slF at hf
  cases h1 : f e with
  | bad => rw [h1] at hf; exact hb hf
  | exc c => rw [h1] at hf; exact hx c hf
  | ok d =>
    rw [h1, rb_ok] at hf
    intro v H1 s1 r1
    cases h2 : fl e with
    | bad => rw [h2] at hf; exact hb hf
    | exc c => rw [h2] at hf; exact fun H' q => hx c hf H' (s1.trans q)
    | ok l =>
      rw [h2, rb_ok] at hf
      intro H2 s2
      cases h3 : fh e with
      | bad => rw [h3] at hf; exact hb hf
      | exc c => rw [h3] at hf; exact fun H' q => hx c hf H' ((s1.trans s2).trans q)
      | ok u =>
        rw [h3, rb_ok] at hf
        intro H3 s3
        cases h4 : g d l u with
        | none => rw [h4] at hf; exact (hb hf).elim
        | some z =>
          rw [h4] at hf
          exact hok d l u z v H3 h4 ((s1.trans s2).trans s3) ((r1.mono s2).mono s3) hf
theorem pd_sl (ha : PE X a (tD X.K W fa)) (hl : PO X lo (tO X.K W fl)) (hu : PO X hi (tO X.K W fh)) : PE X (.Subscript a (.Slice lo hi none p2) pos) (tD X.K W (slF slO fa fl fh)) := by
  refine PE.weak (pe_slice (sl_str.or sl_tupA) ha hl hu) ?_
  rintro σ H Q ⟨e, he, hf⟩
  refine sl_walk (Fi := fun _ _ _ => True) he (sl_fin (Fi := Fin X.K W σ H Q) (fun c h => h) (fun h => h) hf fun d lo hi z v H' hz s r q => ?_)
  cases d with
  | str l =>
    cases r
    simp only [slO] at hz
    split at hz
    · rename_i hl
      cases hz
      refine .inl ⟨S l, rfl, by simpa [Str.length] using hl, q _ H' s ?_⟩
      show V.str (cutS (S l) lo hi) = V.str (S (cutL l lo hi))
      simp [cutS, cutL, S, Str.length]
    · cases hz
  | tup xs =>
    obtain ⟨p, vs, rfl, h1, h2⟩ := r
    simp only [slO] at hz
    cases hz
    refine .inr ⟨p, vs, rfl, h1, fun ⟨w1, w2⟩ => ?_, fun _ p' hp => ?_⟩
    · have e1 : cutL xs lo hi = xs := by
        unfold cutL
        rw [h2.length, w1, w2, ← h2.length]
        simp
      rw [e1] at q
      exact q _ H' s ⟨p, vs, rfl, h1, h2⟩
    · exact q _ _ (s.trans (same_new hp)) ⟨p', _, rfl, SqT.of upd_same, (cut_Rp lo hi h2).mono (same_new hp)⟩
  | _ => simp [slO] at hz
theorem pn_sl (ha : PE X a (tD X.K W fa)) (hl : PO X lo (tO X.K W fl)) (hu : PO X hi (tO X.K W fh)) : PE X (.Subscript a (.Slice lo hi none p2) pos) (tN X.K W (slF slN fa fl fh)) := by
  refine PE.weak (pe_slice sl_list ha hl hu) ?_
  rintro σ H Q ⟨e, he, hf⟩
  refine sl_walk (Fi := fun _ _ _ => True) he (sl_fin (Fi := FinN X.K W σ H Q) (fun c h => h) (fun h => h) hf fun d lo hi z v H' hz s r q => ?_)
  cases d with
  | lst xs =>
    obtain ⟨p, vs, rfl, h1, h2⟩ := r
    simp only [slN] at hz
    cases hz
    exact ⟨p, vs, rfl, h1, fun p' hp => q p' _ _ (s.free hp) (s.trans (same_new hp)) upd_same ((cut_Rp lo hi h2).mono (same_hide1 hp))⟩
  | _ => simp [slN] at hz
end
end FM

set_option Elab.async false
set_option linter.all false
set_option maxRecDepth 100000
/-! FM3: targets, what is walked, comprehensions; statements on plain data. -/
namespace FM
open PySem PySem.Spec PyProof.Rows L2

/-! ### targets -/
inductive Tg where
  | nm (i : Nat)
  | tp (ts : List Tg)
mutual
def gT (K : PySem.W.Frag) : Tg → TG
  | .nm i => gName i
  | .tp ts => gTup K ts.length (gTs K ts)
def gTs (K : PySem.W.Frag) : List Tg → TGs
  | [] => gNil
  | t :: r => gCons (gT K t) (gTs K r)
end
def setN (i : Nat) (d : D) (e : En) : Res En := if d.lf || noOwn e then .ok (e.set i (.dat d)) else .bad
mutual
def setT : Tg → D → En → Res En
  | .nm i, d, e => setN i d e
  | .tp ts, .tup ds, e => if ts.length = ds.length then setTs ts ds e else .bad
  | .tp _, _, _ => .bad
def setTs : List Tg → List D → En → Res En
  | [], _, e => .ok e
  | t :: r, d :: ds, e => rb (setT t d e) fun e1 => setTs r ds e1
  | _ :: _, [], _ => .bad
end
mutual
def Tg.slots : Tg → List Nat
  | .nm i => [i]
  | .tp ts => slotsAll ts
def slotsAll : List Tg → List Nat
  | [] => []
  | t :: r => t.slots ++ slotsAll r
end
section
variable {K : PySem.W.Frag} {H : Hp} {X : Cx} {W : Wx}
theorem pgT_nm (i : Nat) {x : Str} {pos : Pos} (hN : X.N.Nodup) (hi : X.N[i]? = some x := by rfl) (hx : Loc X.env.scope x := by first | exact .inl rfl | exact .inr rfl) (hf : X.fn x = true ∨ X.env.scope.names.lookup x = some .local := by first | exact .inl rfl | exact .inr rfl) :
    PG X (.Name x pos) (gT X.K (.nm i)) := pg_name hN hi hx hf
theorem pgT_nil : PGs X [] (gTs X.K []) := pgs_nil
theorem pgT_cons {e : Expr} {es : List Expr} {t : Tg} {r : List Tg} (h1 : PG X e (gT X.K t)) (h2 : PGs X es (gTs X.K r)) (hs : (assignEach (e :: es) X.env).map (·.2) = assign e X.env :: (assignEach es X.env).map (·.2) := by rfl) :
    PGs X (e :: es) (gTs X.K (t :: r)) := pgs_cons h1 h2 hs
theorem pgT_tp {es : List Expr} {k : Nat} {ts : List Tg} {pos : Pos} (hc : X.calm = true) (h : PGs X es (gTs X.K ts)) (hn : (assignEach es X.env).length = ts.length := by rfl) (hst : (assignEach es X.env).findIdx? (·.1) = none := by rfl) :
    PG X (.Tuple es k pos) (gT X.K (.tp ts)) := pg_tup hc h hn hst
mutual
theorem gT_env {vs : List Nat} : ∀ {t : Tg} {d : D} {v : V} {σ : L2.St} {e e' : En} {Q : L2.St → Hp → Prop}, (∀ i ∈ t.slots, i ∈ vs) → EnvOk K H σ e → Rp K H d v → setT t d e = .ok e' →
    (∀ σ', EnvOk K H σ' e' → (∀ j, j ∉ vs → σ'[j]? = σ[j]?) → Q σ' H) → gT K t v σ H Q
  | .nm i, d, v, σ, e, e', Q, hs, he, r, hz, q => by
    simp only [setT, setN] at hz
    split at hz
    · cases hz
      refine q _ (he.set r) fun j hj => ?_
      have : i ≠ j := fun z => hj (z ▸ hs i (by simp [Tg.slots]))
      rw [List.getElem?_set_ne this]
    · cases hz
  | .tp ts, d, v, σ, e, e', Q, hs, he, r, hz, q => by
    cases d with
    | tup ds =>
      simp only [setT] at hz
      split at hz
      · rename_i hl
        obtain ⟨a, xs, rfl, h1, h2⟩ := r
        exact ⟨a, xs, rfl, h1, by rw [← h2.length, hl], gTs_env (by simpa [Tg.slots] using hs) he h2 hl hz q⟩
      · cases hz
    | _ => simp [setT] at hz
theorem gTs_env {vs : List Nat} : ∀ {ts : List Tg} {ds : List D} {xs : List V} {σ : L2.St} {e e' : En} {Q : L2.St → Hp → Prop}, (∀ i ∈ slotsAll ts, i ∈ vs) → EnvOk K H σ e → RpAll K H ds xs → ts.length = ds.length → setTs ts ds e = .ok e' →
    (∀ σ', EnvOk K H σ' e' → (∀ j, j ∉ vs → σ'[j]? = σ[j]?) → Q σ' H) → gTs K ts xs σ H Q
  | [], ds, xs, σ, e, e', Q, hs, he, r, hl, hz, q => by
    have : ds = [] := List.eq_nil_of_length_eq_zero (by simpa using hl.symm)
    subst this
    cases r
    simp only [setTs] at hz
    cases hz
    exact ⟨rfl, q σ he fun _ _ => rfl⟩
  | t :: ts, [], xs, σ, e, e', Q, hs, he, r, hl, hz, q => by simp at hl
  | t :: ts, d :: ds, xs, σ, e, e', Q, hs, he, r, hl, hz, q => by
    obtain ⟨v, vr, rfl, r1, r2⟩ := r
    simp only [setTs] at hz
    cases h1 : setT t d e with
    | bad => rw [h1] at hz; cases hz
    | exc c => rw [h1] at hz; cases hz
    | ok e1 =>
      rw [h1, rb_ok] at hz
      refine ⟨v, vr, rfl, gT_env (vs := vs) (fun i hi => hs i (by simp [slotsAll, hi])) he r1 h1 fun σ1 he1 k1 => ?_⟩
      exact gTs_env (fun i hi => hs i (by simp [slotsAll, hi])) he1 r2 (by simpa using hl) hz fun σ2 he2 k2 => q σ2 he2 fun j hj => (k2 j hj).trans (k1 j hj)
end
theorem wipe_get (σ : L2.St) : ∀ (vs : List Nat) (j : Nat), (wipe σ vs)[j]? = if j ∈ vs then σ[j]?.map (fun _ => none) else σ[j]?
  | [], j => by simp [wipe]
  | v :: vs, j => by
    unfold wipe
    have ih := wipe_get σ vs j
    by_cases hj : v = j
    · subst hj
      simp only [List.mem_cons, true_or, if_true]
      by_cases hl : v < σ.length
      · rw [List.getElem?_set_self (by rw [wipe_length]; exact hl), List.getElem?_eq_getElem hl]
        rfl
      · have e1 : σ[v]? = none := List.getElem?_eq_none (by omega)
        rw [e1, List.getElem?_eq_none (by rw [List.length_set, wipe_length]; omega)]
        rfl
    · rw [List.getElem?_set_ne hj, ih]
      have : j ≠ v := fun z => hj z.symm
      simp [this]
theorem wipe_of {σ σ' : L2.St} {vs : List Nat} (hl : σ'.length = σ.length) (h : ∀ j, j ∉ vs → σ'[j]? = (wipe σ vs)[j]?) : wipe σ' vs = wipe σ vs := by
  refine List.ext_getElem? fun j => ?_
  rw [wipe_get, wipe_get]
  by_cases hj : j ∈ vs
  · rw [if_pos hj, if_pos hj]
    by_cases hb : j < σ.length
    · rw [List.getElem?_eq_getElem hb, List.getElem?_eq_getElem (by omega)]; rfl
    · rw [List.getElem?_eq_none (by omega : σ.length ≤ j), List.getElem?_eq_none (by omega : σ'.length ≤ j)]
  · rw [if_neg hj, if_neg hj]
    have := h j hj
    rw [wipe_get, if_neg hj] at this
    exact this

/-! ### what is walked -/
/-- J walks the items, wherever F stands -/
def ItOk (K : PySem.W.Frag) (J : It) (F : Hp) (items : List D) : Prop := ∀ H, Same F H → (∀ (i : Nat) d, items[i]? = some d → J.go i H ∧ ∀ x H', J.yld i H x H' → Same H H' ∧ Rp K H' d x) ∧ ∀ i, items.length ≤ i → J.stop i H
theorem ItOk.mono {J : It} {F F' : Hp} {items : List D} (s : Same F F') (h : ItOk K J F items) : ItOk K J F' items := fun H q => h H (s.trans q)
def FinI (K : PySem.W.Frag) (W : Wx) (σ : L2.St) (H : Hp) (R : It → Hp → Prop) : Res (List D) → Prop
  | .ok items => ∀ J H', Same H H' → ItOk K J H' items → R J H'
  | .exc c => ∀ H', Same H H' → W c σ H'
  | .bad => False
def tI (K : PySem.W.Frag) (W : Wx) (f : En → Res (List D)) : TI := fun σ H R => ∃ e, EnvOk K H σ e ∧ FinI K W σ H R (f e)
theorem PI.weak {tg iter : Expr} {t t' : TI} (h : PI X tg iter t) (w : ∀ σ H R, t' σ H R → t σ H R) : PI X tg iter t' := ⟨fun pins s σ H R I q => h.run pins s σ H R I (w σ H R q)⟩
theorem it_list {F : Hp} {a : Addr} {xs : List V} {ds : List D} (h : SqL K F a xs) (r : RpAll K F ds xs) : ItOk K (Itl K a) F ds := by
  intro H s
  refine ⟨fun i d hd => ?_, fun i hi => ⟨xs, s.seq h, by rw [← r.length]; exact hi⟩⟩
  obtain ⟨v, hv, hr⟩ := r.get hd
  refine ⟨⟨xs, v, s.seq h, hv⟩, fun x H' ⟨e, y⟩ => ?_⟩
  subst e
  have := y xs (s.seq h)
  rw [hv] at this
  cases this
  exact ⟨Same.refl _, hr.mono s⟩
theorem it_tup {F : Hp} {a : Addr} {xs : List V} {ds : List D} (h : SqT K F a xs) (r : RpAll K F ds xs) : ItOk K (Itt K a) F ds := by
  intro H s
  refine ⟨fun i d hd => ?_, fun i hi => ⟨xs, Same.sqT s h, by rw [← r.length]; exact hi⟩⟩
  obtain ⟨v, hv, hr⟩ := r.get hd
  refine ⟨⟨xs, v, Same.sqT s h, hv⟩, fun x H' ⟨e, y⟩ => ?_⟩
  subst e
  have := y xs (Same.sqT s h)
  rw [hv] at this
  cases this
  exact ⟨Same.refl _, hr.mono s⟩
def rgD (lo : Int) (n : Nat) : List D := (List.range n).map fun i => .int (lo + (i : Nat))
theorem it_rng {F : Hp} (lo : Int) (n : Nat) : ItOk K (Itr lo n) F (rgD lo n) := by
  intro H s
  refine ⟨fun i d hd => ?_, fun i hi => show n ≤ i by simpa [rgD] using hi⟩
  have hi : i < n := by have := (List.getElem?_eq_some_iff.mp hd).1; simpa [rgD] using this
  refine ⟨hi, fun x H' ⟨e, y⟩ => ?_⟩
  subst e y
  have : (rgD lo n)[i]? = some (.int (lo + (i : Nat))) := by simp [rgD, hi]
  rw [this] at hd
  cases hd
  exact ⟨Same.refl _, rfl⟩
def chD (l : List Nat) : List D := l.map fun c => .str [c]
theorem it_str {F : Hp} (l : List Nat) : ItOk K (Its (S l)) F (chD l) := by
  intro H s
  refine ⟨fun i d hd => ?_, fun i hi => show (S l).cps.size ≤ i by simpa [chD] using hi⟩
  have hi : i < l.length := by have := (List.getElem?_eq_some_iff.mp hd).1; simpa [chD] using this
  refine ⟨show i < (S l).cps.size by simpa using hi, fun x H' ⟨e, c, hc, y⟩ => ?_⟩
  subst e y
  have h1 : l[i]? = some c := by simpa using hc
  have : (chD l)[i]? = some (.str [c]) := by simp [chD, h1]
  rw [this] at hd
  cases hd
  exact ⟨Same.refl _, rfl⟩
def asLst : D → Res (List D)
  | .lst xs => .ok xs
  | _ => .bad
def asTup : D → Res (List D)
  | .tup xs => .ok xs
  | _ => .bad
def asStr : D → Res (List D)
  | .str l => .ok (chD l)
  | _ => .bad
def asRng1 : List D → Res (List D)
  | [.int j] => if j.natAbs < 2 ^ 62 then .ok (rgD 0 j.toNat) else .bad
  | _ => .bad
def asRng2 : List D → Res (List D)
  | [.int i, .int j] => if i.natAbs < 2 ^ 62 ∧ j.natAbs < 2 ^ 62 then .ok (rgD i (j - i).toNat) else .bad
  | _ => .bad
def itF {α : Type} (g : α → Res (List D)) (f : En → Res α) : En → Res (List D) := fun e => rb (f e) g
variable {l tg : Expr} {f : En → Res D}
theorem pit_lst (hl : PE X l (tD X.K W f)) : PI X tg l (tI X.K W (itF asLst f)) := by
  refine PI.weak (pi_list hl) ?_
  rintro σ H R ⟨e, he, hf⟩
  refine ⟨e, he, ?_⟩
  unfold itF at hf
  cases h1 : f e with
  | bad => rw [h1] at hf; exact hf
  | exc c => rw [h1] at hf; exact hf
  | ok d =>
    rw [h1, rb_ok] at hf
    intro v H1 s1 r1
    cases d with
    | lst xs =>
      obtain ⟨a, vs, rfl, h2, h3⟩ := r1
      exact ⟨a, rfl, ⟨vs, h2⟩, hf _ H1 s1 (it_list h2 h3)⟩
    | _ => exact (hf : False).elim
theorem pit_tup (hl : PE X l (tD X.K W f)) : PI X tg l (tI X.K W (itF asTup f)) := by
  refine PI.weak (pi_tup hl) ?_
  rintro σ H R ⟨e, he, hf⟩
  refine ⟨e, he, ?_⟩
  unfold itF at hf
  cases h1 : f e with
  | bad => rw [h1] at hf; exact hf
  | exc c => rw [h1] at hf; exact hf
  | ok d =>
    rw [h1, rb_ok] at hf
    intro v H1 s1 r1
    cases d with
    | tup xs =>
      obtain ⟨a, vs, rfl, h2, h3⟩ := r1
      exact ⟨a, rfl, ⟨vs, h2⟩, hf _ H1 s1 (it_tup h2 h3)⟩
    | _ => exact (hf : False).elim
theorem pit_str (hl : PE X l (tD X.K W f)) : PI X tg l (tI X.K W (itF asStr f)) := by
  refine PI.weak (pi_str hl) ?_
  rintro σ H R ⟨e, he, hf⟩
  refine ⟨e, he, ?_⟩
  unfold itF at hf
  cases h1 : f e with
  | bad => rw [h1] at hf; exact hf
  | exc c => rw [h1] at hf; exact hf
  | ok d =>
    rw [h1, rb_ok] at hf
    intro v H1 s1 r1
    cases d with
    | str l =>
      cases r1
      exact ⟨S l, rfl, hf _ H1 s1 (it_str l)⟩
    | _ => exact (hf : False).elim
variable {fs : En → Res (List D)}
theorem wi_rng1 {σ : L2.St} {H : Hp} {R : It → Hp → Prop} {e : En} (he : EnvOk K H σ e) (hf : FinL K W σ H (fun vs H1 => ∃ j : Int, vs = [.int j] ∧ -(2 ^ 62) ≤ j ∧ j < 2 ^ 62 ∧ R (Itr 0 j.toNat) H1) (fs e)) : iRng1 (tDs K W fs) σ H R := ⟨e, he, hf⟩
theorem pit_rng1 {a : Expr} {p pos : Pos} (hg : Gl X "range") (hm : X.mg "range" = none) (ha : PA X [a] (tDs X.K W fs)) (hs : starEach [a] X.env = [(false, eval a X.env)] := by rfl) : PI X tg (.Call (.Name "range" p) [a] [] pos) (tI X.K W (itF asRng1 fs)) := by
  refine PI.weak (pi_range1 hg hm ha hs) ?_
  rintro σ H R ⟨e, he, hf⟩
  refine ⟨e, he, ?_⟩
  unfold itF at hf
  cases h1 : fs e with
  | bad => rw [h1] at hf; exact hf
  | exc c => rw [h1] at hf; exact hf
  | ok ds =>
    rw [h1, rb_ok] at hf
    intro vs H1 s1 r1
    unfold asRng1 at hf
    split at hf
    · rename_i j
      obtain ⟨v, r, rfl, rv, rr⟩ := r1
      cases rv; cases rr
      split at hf
      · rename_i hj
        exact ⟨j, rfl, by omega, by omega, hf _ H1 s1 (it_rng 0 _)⟩
      · exact hf.elim
    · exact (hf : False).elim
theorem pit_rng2 {a b : Expr} {p pos : Pos} (hg : Gl X "range") (hm : X.mg "range" = none) (ha : PA X [a, b] (tDs X.K W fs)) (hs : starEach [a, b] X.env = [(false, eval a X.env), (false, eval b X.env)] := by rfl) (hs2 : starEach [b] X.env = [(false, eval b X.env)] := by rfl) :
    PI X tg (.Call (.Name "range" p) [a, b] [] pos) (tI X.K W (itF asRng2 fs)) := by
  refine PI.weak (pi_range2 hg hm ha hs hs2) ?_
  rintro σ H R ⟨e, he, hf⟩
  refine ⟨e, he, ?_⟩
  unfold itF at hf
  cases h1 : fs e with
  | bad => rw [h1] at hf; exact hf
  | exc c => rw [h1] at hf; exact hf
  | ok ds =>
    rw [h1, rb_ok] at hf
    intro vs H1 s1 r1
    unfold asRng2 at hf
    split at hf
    · rename_i i j
      obtain ⟨v, r, rfl, rv, v2, r2, rfl, rv2, rr⟩ := r1
      cases rv; cases rv2; cases rr
      split at hf
      · rename_i hj
        exact ⟨i, j, rfl, ⟨by omega, by omega, by omega, by omega⟩, hf _ H1 s1 (it_rng i _)⟩
      · exact hf.elim
    · exact (hf : False).elim

/-! ### comprehensions -/
mutual
theorem setT_len : ∀ {t : Tg} {d : D} {e e' : En}, setT t d e = .ok e' → e'.length = e.length
  | .nm i, d, e, e', h => by
    simp only [setT, setN] at h
    split at h
    · cases h; simp
    · cases h
  | .tp ts, d, e, e', h => by
    cases d with
    | tup ds =>
      simp only [setT] at h
      split at h
      · exact setTs_len h
      · cases h
    | _ => simp [setT] at h
theorem setTs_len : ∀ {ts : List Tg} {ds : List D} {e e' : En}, setTs ts ds e = .ok e' → e'.length = e.length
  | [], ds, e, e', h => by simp only [setTs] at h; cases h; rfl
  | t :: ts, [], e, e', h => by simp [setTs] at h
  | t :: ts, d :: ds, e, e', h => by
    simp only [setTs] at h
    cases h1 : setT t d e with
    | bad => rw [h1] at h; cases h
    | exc c => rw [h1] at h; cases h
    | ok e1 =>
      rw [h1, rb_ok] at h
      exact (setTs_len h).trans (setT_len h1)
end
theorem hide1_mono {H H' : Hp} {B : Addr} {vs : List V} (s : Same H H') (hB : H' B = some (.lst vs)) : Same (hide1 B H) (hide1 B H') :=
  hide_grow s (fun b o e z => by
    rw [hide_yes (O := fun b => b = B) z] at e; cases e) fun b z => .inl ⟨vs, by rw [show b = B from z]; exact hB⟩
theorem hide1_upd {H H' : Hp} {B : Addr} {us vs : List V} (s : Same H H') (hB : H' B = some (.lst us)) : Same (hide1 B H) (hide1 B (upd H' B (.lst vs))) :=
  (hide1_mono s hB).trans (.of fun b u q => by
    by_cases hb : b = B
    · have : hide1 B H' b = none := hide_yes (O := fun b => b = B) hb
      rw [this] at q; cases q
    · have e1 : hide1 B H' b = H' b := hide_no (O := fun b => b = B) hb
      have e2 : hide1 B (upd H' B (.lst vs)) b = upd H' B (.lst vs) b := hide_no (O := fun b => b = B) hb
      rw [e1] at q
      rw [e2, upd_ne hb]
      exact q)
def lcF (t : Tg) (tt : En → Res Bool) (te : En → Res D) (e : En) : List D → Res (List D)
  | [] => .ok []
  | d :: r => rb (setT t d e) fun e1 => rb (tt e1) fun b => if b then rb (te e1) fun y => if y.lf then rb (lcF t tt te e r) fun ys => .ok (y :: ys) else .bad else lcF t tt te e r
def compF (vs : List Nat) (fi : En → Res (List D)) (t : Tg) (tt : En → Res Bool) (te : En → Res D) : En → Res (List D) := fun e => rb (fi e) fun items => if items.length ≤ sizeLine then noX (lcF t tt te (wipeE e vs) items) else .bad
def yesF : En → Res Bool := fun _ => .ok true
theorem ptsD_nil : PTs X [] (tT X.K W yesF) := ⟨fun pins s σ H Q I ⟨e, he, hf⟩ => pts_nil.run pins s σ H Q I (hf H (Same.refl H))⟩
theorem ptsD_one {c : Expr} {t : En → Res Bool} (h : PT X c (tT X.K W t)) : PTs X [c] (tT X.K W t) := pts_one h
theorem tLc_D {vs : List Nat} {fi : En → Res (List D)} {t : Tg} {tt : En → Res Bool} {te : En → Res D} (hs : ∀ i ∈ t.slots, i ∈ vs) : ∀ σ H Q, tN K W (compF vs fi t tt te) σ H Q → tLc (tI K W fi) (gT K t) (tT K W0 tt) (tD K W0 te) vs σ H Q := by
  rintro σ H Q ⟨e, he, hf⟩
  refine ⟨e, he, ?_⟩
  unfold compF at hf
  cases h1 : fi e with
  | bad => rw [h1] at hf; exact hf
  | exc c => rw [h1] at hf; exact hf
  | ok items =>
    rw [h1, rb_ok] at hf
    by_cases hlen : items.length ≤ sizeLine
    · rw [if_pos hlen] at hf
      cases h2 : lcF t tt te (wipeE e vs) items with
      | bad => rw [h2] at hf; exact hf.elim
      | exc c => rw [h2] at hf; exact hf.elim
      | ok zs =>
        rw [h2, noX_ok] at hf
        intro J H1 s1 hJ B hB
        let P : Nat → Hp → Prop := fun i Hc => Same H1 (hide1 B Hc) ∧ ∃ acc ys zs', Hc B = some (.lst acc) ∧ RpAll K (hide1 B Hc) ys acc ∧ acc.length ≤ i ∧ lcF t tt te (wipeE e vs) (items.drop i) = .ok zs' ∧ zs = ys ++ zs'
        refine ⟨fun i m Hc => m = items.length - i ∧ i ≤ items.length ∧ P i Hc, ⟨items.length, by simp, Nat.zero_le _, same_hide1 hB, [], [], zs, upd_same, rfl, Nat.zero_le _, by simpa using h2, rfl⟩, ?_⟩
        rintro i m Hc ⟨rfl, hi, sm, acc, ys, zs', hD, hr, hal, hz, rfl⟩
        have sc : Same H1 Hc := sm.trans (hide_same _)
        obtain ⟨hgo, hstop⟩ := hJ Hc sc
        by_cases hlt : i < items.length
        · right
          have hd : items[i]? = some items[i] := List.getElem?_eq_getElem hlt
          obtain ⟨g1, g2⟩ := hgo i _ hd
          rw [List.drop_eq_getElem_cons hlt] at hz
          simp only [lcF] at hz
          refine ⟨g1, P (i + 1), fun H' p => ⟨items.length - (i + 1), by omega, rfl, hlt, p⟩, fun x H' hy => ?_⟩
          obtain ⟨s2, rx⟩ := g2 x H' hy
          have hD' : H' B = some (.lst acc) := s2.keep _ _ hD (fun _ z => nomatch z)
          have eH : EnvOk K H' (wipe σ vs) (wipeE e vs) := ((((he.mono s1).mono sc).mono s2).wipe vs)
          cases h3 : setT t items[i] (wipeE e vs) with
          | bad => rw [h3] at hz; cases hz
          | exc c => rw [h3] at hz; cases hz
          | ok e1 =>
            rw [h3, rb_ok] at hz
            refine gT_env (vs := vs) hs eH rx h3 fun σ2 he2 hk => ⟨?_, e1, he2, ?_⟩
            · refine wipe_of ?_ hk
              have l1 := he2.len
              have l2 := eH.len
              have l3 : e1.length = (wipeE e vs).length := setT_len h3
              rw [wipe_length] at l2
              omega
            · cases h4 : tt e1 with
              | bad => rw [h4] at hz; cases hz
              | exc c => rw [h4] at hz; cases hz
              | ok b =>
                rw [h4, rb_ok] at hz
                intro H3 s3
                cases b with
                | false =>
                  simp only [Bool.false_eq_true, if_false] at hz ⊢
                  have sall : Same Hc H3 := s2.trans s3
                  have hD3 := sall.keep _ _ hD (fun _ z => nomatch z)
                  have hh : Same (hide1 B Hc) (hide1 B H3) := hide1_mono sall hD3
                  exact ⟨sm.trans hh, acc, ys, zs', hD3, hr.mono hh, by omega, hz, rfl⟩
                | true =>
                  simp only [if_true] at hz ⊢
                  refine ⟨e1, he2.mono s3, ?_⟩
                  cases h5 : te e1 with
                  | bad => rw [h5] at hz; cases hz
                  | exc c => rw [h5] at hz; cases hz
                  | ok y =>
                    rw [h5, rb_ok] at hz
                    by_cases hy : y.lf = true
                    · rw [if_pos hy] at hz
                      cases h6 : lcF t tt te (wipeE e vs) (items.drop (i + 1)) with
                      | bad => rw [h6] at hz; cases hz
                      | exc c => rw [h6] at hz; cases hz
                      | ok zs2 =>
                        rw [h6, rb_ok] at hz
                        cases hz
                        intro v H4 s4 r4
                        have sall : Same Hc H4 := (s2.trans s3).trans s4
                        have hD4 := sall.keep _ _ hD (fun _ z => nomatch z)
                        have hh : Same (hide1 B Hc) (hide1 B (upd H4 B (.lst (acc ++ [v])))) := hide1_upd sall hD4
                        refine ⟨acc, hD4, by omega, sm.trans hh, acc ++ [v], ys ++ [y], zs2, upd_same, (hr.mono hh).append ⟨v, [], rfl, ?_, rfl⟩, by simp; omega, h6, by simp⟩
                        have q := Rp.hide (O := fun b => b = B) (fun b hb => .inl ⟨acc, by rw [hb]; exact hD4⟩) hy r4
                        exact q.mono (hide1_upd (Same.refl _) hD4)
                    · rw [if_neg hy] at hz; cases hz
        · left
          have e2 : i = items.length := by omega
          subst e2
          rw [List.drop_length] at hz
          simp only [lcF] at hz
          cases hz
          refine ⟨hstop _ (Nat.le_refl _), hf B acc Hc (s1.free hB) (s1.trans sc) hD ?_⟩
          simpa using hr
    · rw [if_neg hlen] at hf; exact hf.elim
variable {elt iter : Expr} {ifs : List Expr} {scope : Scope} {own : List (Str × Nat)} {pos : Pos} {fi : En → Res (List D)} {t : Tg} {tt : En → Res Bool} {te : En → Res D}
theorem pn_lc (hc : X.calm = true) (hN : X.N.Nodup) (hi : PI X tg iter (tI X.K W fi)) (ok : BlkOk X.N X.env.scope scope own)
    (hg : ∀ (s : Shared) (H : Hp) (C : Addr) (cl : List (Str × Addr)) (fp : List Addr), PG (X.blk s H scope (compEnvC scope cl C X.env) fp) tg (gT X.K t)) (ht : ∀ (s : Shared) (H : Hp) (C : Addr) (cl : List (Str × Addr)) (fp : List Addr), PTs (X.blk s H scope (compEnvC scope cl C X.env) fp) ifs (tT X.K W0 tt))
    (he : ∀ (s : Shared) (H : Hp) (C : Addr) (cl : List (Str × Addr)) (fp : List Addr), PE (X.blk s H scope (compEnvC scope cl C X.env) fp) elt (tD X.K W0 te)) (hsl : ∀ i ∈ t.slots, i ∈ own.map (·.2) := by decide) (hs : ∀ x, foldedSetIterable iter X.env x = pure x := by intro _; rfl) :
    PE X (.ListComp elt [⟨tg, iter, ifs, 0⟩] scope pos) (tN X.K W (compF (own.map (·.2)) fi t tt te)) := PE.weak (pe_lc hc hN hi ok hg ht he hs) (tLc_D hsl)
end
end FM

set_option Elab.async false
set_option linter.all false
set_option maxRecDepth 100000
/-! FM4: statements on plain data: own lists, assignments, if, for, while, return; a def's body. -/
namespace FM
open PySem PySem.Spec PyProof.Rows L2

/-- the addresses of the lists and dicts that the frame's names own -/
def owns (σ : L2.St) (e : En) (a : Addr) : Prop := ∃ (i : Nat) (s : Sl), e[i]? = some s ∧ s.isOwn = true ∧ σ[i]? = some (some (.ref a))
def SlF (K : PySem.W.Frag) (F H : Hp) (o : Option (Option V)) : Sl → Prop
  | .un => True
  | .dat d => ∃ v, o = some (some v) ∧ Rp K F d v
  | .own xs => ∃ a vs, o = some (some (.ref a)) ∧ H a = some (.lst vs) ∧ RpAll K F xs vs
  | .dct kvs => ∃ a ws, o = some (some (.ref a)) ∧ H a = some (.dT ws) ∧ ws.map (·.1) = kvs.map (·.1) ∧ RpAll K F (kvs.map (·.2)) (ws.map (·.2))
  | .ptr v => o = some (some v)
  | .ptp xs => ∃ a ob vs, o = some (some (.ref a)) ∧ F a = some (.frz ob (.tup vs)) ∧ ob.dict = none ∧ ob.cls = .type "tuple" ∧ RpAll K F xs vs
structure StOk (K : PySem.W.Frag) (G H : Hp) (σ : L2.St) (e : En) : Prop where
  len : σ.length = e.length
  g : Same G (hide (owns σ e) H)
  at_ : ∀ (i : Nat) s, e[i]? = some s → SlF K (hide (owns σ e) H) H σ[i]? s
  dis : ∀ (i j : Nat) (a : Addr) s t, i ≠ j → e[i]? = some s → s.isOwn = true → e[j]? = some t → t.isOwn = true → σ[i]? = some (some (.ref a)) → σ[j]? ≠ some (some (.ref a))
  tab : TabOK K H
section
variable {K : PySem.W.Frag} {G H H' : Hp} {σ : L2.St} {e : En}
theorem SlF.mono {F F' : Hp} {o : Option (Option V)} {s : Sl} (q1 : Same F F') (q : ∀ a u, s.isOwn = true → o = some (some (.ref a)) → H a = some u → H' a = some u) (h : SlF K F H o s) : SlF K F' H' o s := by
  cases s with
  | un => exact h
  | dat d => obtain ⟨v, e, h⟩ := h; exact ⟨v, e, h.mono q1⟩
  | own xs => obtain ⟨a, vs, e, h1, h2⟩ := h; exact ⟨a, vs, e, q _ _ rfl e h1, h2.mono q1⟩
  | dct kvs => obtain ⟨a, vs, e, h1, h2, h3⟩ := h; exact ⟨a, vs, e, q _ _ rfl e h1, h2, h3.mono q1⟩
  | ptr v => exact h
  | ptp xs => obtain ⟨a, ob, vs, e, h1, h2, h3, h4⟩ := h; exact ⟨a, ob, vs, e, q1.keep _ _ h1 (fun _ z => nomatch z), h2, h3, h4.mono q1⟩
theorem StOk.env (h : StOk K G H σ e) : EnvOk K H σ e := ⟨h.len, fun i s z => by
  have q := h.at_ i s z
  cases s with
  | un => exact q
  | dat d => obtain ⟨v, e, h⟩ := q; exact ⟨v, e, h.mono (hide_same _)⟩
  | own xs => obtain ⟨a, vs, e, h1, h2⟩ := q; exact ⟨a, vs, e, h1, h2.mono (hide_same _)⟩
  | dct kvs => obtain ⟨a, vs, e, h1, h2, h3⟩ := q; exact ⟨a, vs, e, h1, h2, h3.mono (hide_same _)⟩
  | ptr v => exact q
  | ptp xs => obtain ⟨a, ob, vs, e, h1, h2, h3, h4⟩ := q; exact ⟨a, ob, vs, e, (hide_same _).keep _ _ h1 (fun _ z => nomatch z), h2, h3, h4.mono (hide_same _)⟩, h.tab⟩
/-- what is owned is a list or a dict -/
theorem StOk.own_at (h : StOk K G H σ e) {a : Addr} (o : owns σ e a) : (∃ vs, H a = some (.lst vs)) ∨ (∃ ws, H a = some (.dT ws)) ∨ H a = none := by
  obtain ⟨i, s, h1, h2, h3⟩ := o
  have q := h.at_ i s h1
  cases s with
  | un => cases h2
  | dat d => cases h2
  | own xs => obtain ⟨b, vs, e, q1, _⟩ := q; rw [h3] at e; cases e; exact .inl ⟨vs, q1⟩
  | dct kvs => obtain ⟨b, ws, e, q1, _⟩ := q; rw [h3] at e; cases e; exact .inr (.inl ⟨ws, q1⟩)
  | ptr v => cases h2
  | ptp xs => cases h2
theorem owns_lt (h : StOk K G H σ e) {a : Addr} (o : owns σ e a) : ∃ u, H a = some u := by
  rcases h.own_at o with ⟨_, q⟩ | ⟨_, q⟩ | q
  · exact ⟨_, q⟩
  · exact ⟨_, q⟩
  · obtain ⟨i, s, h1, h2, h3⟩ := o
    have q' := h.at_ i s h1
    cases s with
    | un => cases h2
    | dat d => cases h2
    | own xs => obtain ⟨b, vs, e, q1, _⟩ := q'; rw [h3] at e; cases e; exact ⟨_, q1⟩
    | dct kvs => obtain ⟨b, vs, e, q1, _⟩ := q'; rw [h3] at e; cases e; exact ⟨_, q1⟩
    | ptr v => cases h2
    | ptp xs => cases h2
/-- a list or dict is written: tables and code objects stay -/
theorem TabOK.put {a : Addr} {o : HO} (t : TabOK K H) (ha : (∃ vs, H a = some (.lst vs)) ∨ ∃ ws, H a = some (.dT ws)) : TabOK K (L2.upd H a o) := fun P p => by
  obtain ⟨ps, e, ok, codes⟩ := t P p
  have ne : ∀ b u, H b = some u → (∀ vs, u ≠ .lst vs) → (∀ ws, u ≠ .dT ws) → b ≠ a := fun b u q n1 n2 z => by
    subst z
    rcases ha with ⟨vs, r⟩ | ⟨ws, r⟩
    · rw [q] at r; exact n1 vs (Option.some.inj r)
    · rw [q] at r; exact n2 ws (Option.some.inj r)
  refine ⟨ps, by rw [upd_ne (ne _ _ e (fun _ z => nomatch z) (fun _ z => nomatch z))]; exact e, ok, fun pos cv hc => ?_⟩
  obtain ⟨c, e1, e2⟩ := codes pos cv hc
  exact ⟨c, e1, by rw [upd_ne (ne _ _ e2 (fun _ z => nomatch z) (fun _ z => nomatch z))]; exact e2⟩
/-- what is owned is a list or a dict, now and later -/
theorem StOk.own_in (h : StOk K G H σ e) (s : Same H H') {a : Addr} (o : owns σ e a) : (∃ vs, H' a = some (.lst vs)) ∨ ∃ ws, H' a = some (.dT ws) := by
  obtain ⟨u, hu⟩ := owns_lt h o
  rcases h.own_at o with ⟨vs, q⟩ | ⟨ws, q⟩ | q
  · exact .inl ⟨vs, s.keep _ _ q fun _ z => nomatch z⟩
  · exact .inr ⟨ws, s.keep _ _ q fun _ z => nomatch z⟩
  · rw [hu] at q; cases q
theorem StOk.own_keep (h : StOk K G H σ e) (s : Same H H') {a : Addr} {u : HO} (o : owns σ e a) (q : H a = some u) : H' a = some u := by
  refine s.keep _ _ q ?_
  rcases h.own_at o with ⟨vs, z⟩ | ⟨ws, z⟩ | z
  · rw [q] at z; cases z; exact fun _ z => nomatch z
  · rw [q] at z; cases z; exact fun _ z => nomatch z
  · rw [q] at z; cases z
theorem StOk.hide_mono (h : StOk K G H σ e) (s : Same H H') : Same (hide (owns σ e) H) (hide (owns σ e) H') :=
  hide_grow s (fun b o q z => by rw [hide_yes z] at q; cases q) fun b z => h.own_in s z
theorem hide_sub {O O' : Addr → Prop} (h : ∀ a, O' a → O a) : Same (hide O H) (hide O' H) := .of fun b o q => by
  by_cases hb : O b
  · rw [hide_yes hb] at q; cases q
  · rw [hide_no hb] at q; rw [hide_no fun z => hb (h b z)]; exact q
/-- the heap grew; all that is not owned may be asked to stay -/
theorem StOk.grow (h : StOk K G H σ e) (s : Same H H') : StOk K (hide (owns σ e) H') H' σ e ∧ Same G (hide (owns σ e) H') :=
  ⟨⟨h.len, Same.refl _, fun i sl z => (h.at_ i sl z).mono (h.hide_mono s) fun a u q1 q2 q => h.own_keep s ⟨i, sl, z, q1, q2⟩ q, h.dis, h.tab.mono s⟩, h.g.trans (h.hide_mono s)⟩
theorem StOk.weak {G' : Hp} (h : StOk K G' H σ e) (s : Same G G') : StOk K G H σ e := ⟨h.len, s.trans h.g, h.at_, h.dis, h.tab⟩
theorem StOk.keep (h : StOk K G H σ e) (s : Same H H') : StOk K G H' σ e := (h.grow s).1.weak (h.grow s).2
theorem StOk.same (h : StOk K G H σ e) : Same G H := h.g.trans (hide_same _)
theorem owns_none (h : noOwn e = true) (a : Addr) : ¬ owns σ e a := by
  rintro ⟨i, s, h1, h2, _⟩
  unfold noOwn at h
  rw [List.all_eq_true] at h
  have := h s (List.mem_of_getElem? h1)
  rw [h2] at this
  cases this
theorem StOk.lift (h : StOk K G H σ e) (s : Same H H') {d : D} {v : V} (hl : (d.lf || noOwn e) = true) (r : Rp K H' d v) : Rp K (hide (owns σ e) H') d v := by
  rw [Bool.or_eq_true] at hl
  rcases hl with hl | hl
  · refine Rp.hide (fun b hb => ?_) hl r
    rcases h.own_at hb with ⟨vs, q⟩ | ⟨ws, q⟩ | q
    · exact .inl ⟨vs, s.keep _ _ q (fun _ z => nomatch z)⟩
    · exact .inr (.inl ⟨ws, s.keep _ _ q (fun _ z => nomatch z)⟩)
    · obtain ⟨u, q'⟩ := owns_lt h hb
      rw [q] at q'; cases q'
  · refine r.mono (.of fun b o q => ?_)
    rw [hide_no (owns_none hl b)]
    exact q
theorem StOk.liftAll (h : StOk K G H σ e) (s : Same H H') : ∀ {ds : List D} {vs : List V}, (lfAll ds || noOwn e) = true → RpAll K H' ds vs → RpAll K (hide (owns σ e) H') ds vs
  | [], _, _, r => r
  | d :: ds, _, hl, r => by
    obtain ⟨v, vs, rfl, r1, r2⟩ := r
    rw [Bool.or_eq_true] at hl
    refine ⟨v, vs, rfl, h.lift s ?_ r1, h.liftAll s ?_ r2⟩
    · rw [Bool.or_eq_true]
      rcases hl with hl | hl
      · simp only [lfAll, Bool.and_eq_true] at hl; exact .inl hl.1
      · exact .inr hl
    · rw [Bool.or_eq_true]
      rcases hl with hl | hl
      · simp only [lfAll, Bool.and_eq_true] at hl; exact .inl hl.2
      · exact .inr hl
theorem owns_set {i : Nat} {x : Option V} {sl : Sl} (hl : σ.length = e.length) {a : Addr} (h : owns (σ.set i x) (e.set i sl) a) : owns σ e a ∨ (sl.isOwn = true ∧ x = some (.ref a) ∧ i < e.length) := by
  obtain ⟨j, s, h1, h2, h3⟩ := h
  by_cases hj : i = j
  · subst hj
    have hi : i < e.length := by have := (List.getElem?_eq_some_iff.mp h1).1; simpa using this
    rw [List.getElem?_set_self hi] at h1
    rw [List.getElem?_set_self (by omega)] at h3
    cases h1
    exact .inr ⟨h2, by injection h3, hi⟩
  · rw [List.getElem?_set_ne hj] at h1 h3
    exact .inl ⟨j, s, h1, h2, h3⟩
/-- a name is given data -/
theorem StOk.setD (h : StOk K G H σ e) (i : Nat) {d : D} {v : V} (hl : (d.lf || noOwn e) = true) (r : Rp K H d v) : StOk K G H (σ.set i (some v)) (e.set i (.dat d)) := by
  have sub : ∀ a, owns (σ.set i (some v)) (e.set i (.dat d)) a → owns σ e a := fun a q => by
    rcases owns_set h.len q with q | ⟨q, _⟩
    · exact q
    · cases q
  have hs : Same (hide (owns σ e) H) (hide (owns (σ.set i (some v)) (e.set i (.dat d))) H) := hide_sub sub
  refine ⟨by simp [h.len], h.g.trans hs, fun j s z => ?_, fun j k a s t hjk h1 h2 h3 h4 h5 => ?_, h.tab⟩
  · by_cases hj : i = j
    · subst hj
      have hi : i < e.length := by have := (List.getElem?_eq_some_iff.mp z).1; simpa using this
      rw [List.getElem?_set_self hi] at z
      cases z
      rw [List.getElem?_set_self (by rw [h.len]; exact hi)]
      exact ⟨v, rfl, (h.lift (Same.refl H) hl r).mono hs⟩
    · rw [List.getElem?_set_ne hj] at z ⊢
      exact (h.at_ j s z).mono hs fun _ _ _ _ q => q
  · have nj : i ≠ j := fun q => by
      subst q
      have hi : i < e.length := by have := (List.getElem?_eq_some_iff.mp h1).1; simpa using this
      rw [List.getElem?_set_self hi] at h1
      cases h1; cases h2
    have nk : i ≠ k := fun q => by
      subst q
      have hi : i < e.length := by have := (List.getElem?_eq_some_iff.mp h3).1; simpa using this
      rw [List.getElem?_set_self hi] at h3
      cases h3; cases h4
    rw [List.getElem?_set_ne nj] at h1 h5
    rw [List.getElem?_set_ne nk] at h3 ⊢
    exact h.dis j k a s t hjk h1 h2 h3 h4 h5
/-- a name is given a new list (or dict), to own -/
theorem StOk.setO (h : StOk K G H σ e) (s : Same H H') (i : Nat) {sl : Sl} {a : Addr} (na : H a = none) (ha : ∃ u, H' a = some u) (ho : sl.isOwn = true)
    (hv : SlF K (hide (owns (σ.set i (some (.ref a))) (e.set i sl)) H') H' (some (some (.ref a))) sl) : StOk K G H' (σ.set i (some (.ref a))) (e.set i sl) := by
  have sub : ∀ b, owns (σ.set i (some (.ref a))) (e.set i sl) b → owns σ e b ∨ b = a := fun b q => by
    rcases owns_set h.len q with q | ⟨_, q, _⟩
    · exact .inl q
    · injection q with q; injection q with q; exact .inr q.symm
  have ha2 : (∃ vs, H' a = some (.lst vs)) ∨ ∃ ws, H' a = some (.dT ws) := by
    cases sl with
    | un => cases ho
    | dat d => cases ho
    | own xs => obtain ⟨b, vs, e, q, _⟩ := hv; cases e; exact .inl ⟨vs, q⟩
    | dct kvs => obtain ⟨b, vs, e, q, _⟩ := hv; cases e; exact .inr ⟨vs, q⟩
    | ptr v => cases ho
    | ptp xs => cases ho
  have hs : Same (hide (owns σ e) H) (hide (owns (σ.set i (some (.ref a))) (e.set i sl)) H') := by
    refine hide_grow s (fun b o q z => ?_) fun b z => ?_
    · by_cases hb : owns σ e b
      · rw [hide_yes hb] at q; cases q
      · rw [hide_no hb] at q
        rcases sub b z with z | z
        · exact hb z
        · subst z; rw [na] at q; cases q
    · rcases sub b z with z | z
      · exact h.own_in s z
      · subst z; exact ha2
  refine ⟨by simp [h.len], h.g.trans hs, fun j t z => ?_, fun j k b t u hjk h1 h2 h3 h4 h5 => ?_, h.tab.mono s⟩
  · by_cases hj : i = j
    · subst hj
      have hi : i < e.length := by have := (List.getElem?_eq_some_iff.mp z).1; simpa using this
      rw [List.getElem?_set_self hi] at z
      cases z
      rw [List.getElem?_set_self (by rw [h.len]; exact hi)]
      exact hv
    · rw [List.getElem?_set_ne hj] at z ⊢
      exact (h.at_ j t z).mono hs fun _ _ q1 q2 q => h.own_keep s ⟨j, t, z, q1, q2⟩ q
  · have old : ∀ (j : Nat) t, e[j]? = some t → t.isOwn = true → σ[j]? ≠ some (some (.ref a)) := fun j t q1 q2 q3 => by
      obtain ⟨u, q⟩ := owns_lt h ⟨j, t, q1, q2, q3⟩
      rw [na] at q; cases q
    by_cases hj : i = j
    · subst hj
      have hi : i < e.length := by have := (List.getElem?_eq_some_iff.mp h1).1; simpa using this
      rw [List.getElem?_set_self (by rw [h.len]; exact hi)] at h5
      injection h5 with h5; injection h5 with h5; injection h5 with h5
      subst h5
      rw [List.getElem?_set_ne hjk] at h3 ⊢
      exact old k u h3 h4
    · rw [List.getElem?_set_ne hj] at h1 h5
      by_cases hk : i = k
      · subst hk
        have hi : i < e.length := by have := (List.getElem?_eq_some_iff.mp h3).1; simpa using this
        rw [List.getElem?_set_self (by rw [h.len]; exact hi)]
        intro q
        injection q with q; injection q with q; injection q with q
        subst q
        exact old j t h1 h2 h5
      · rw [List.getElem?_set_ne hk] at h3 ⊢
        exact h.dis j k b t u hjk h1 h2 h3 h4 h5
/-- what a name owns is changed -/
theorem StOk.chg (h : StOk K G H σ e) (i : Nat) {sl sl' : Sl} {a : Addr} {o : HO} (hi : e[i]? = some sl) (ho : sl.isOwn = true) (ho' : sl'.isOwn = true) (ha : σ[i]? = some (some (.ref a)))
    (hv : SlF K (hide (owns σ e) H) (L2.upd H a o) (some (some (.ref a))) sl') : StOk K G (L2.upd H a o) σ (e.set i sl') := by
  have hil : i < e.length := (List.getElem?_eq_some_iff.mp hi).1
  have oa : owns σ e a := ⟨i, sl, hi, ho, ha⟩
  have eq : ∀ b, owns σ (e.set i sl') b ↔ owns σ e b := fun b => by
    constructor
    · rintro ⟨j, s, h1, h2, h3⟩
      by_cases hj : i = j
      · subst hj
        exact ⟨i, sl, hi, ho, h3⟩
      · rw [List.getElem?_set_ne hj] at h1
        exact ⟨j, s, h1, h2, h3⟩
    · rintro ⟨j, s, h1, h2, h3⟩
      by_cases hj : i = j
      · subst hj
        exact ⟨i, sl', List.getElem?_set_self hil, ho', h3⟩
      · exact ⟨j, s, by rw [List.getElem?_set_ne hj]; exact h1, h2, h3⟩
  have hs : Same (hide (owns σ e) H) (hide (owns σ (e.set i sl')) (L2.upd H a o)) := .of fun b u q => by
    by_cases hb : owns σ e b
    · rw [hide_yes hb] at q; cases q
    · rw [hide_no hb] at q
      rw [hide_no (fun z => hb ((eq b).mp z)), upd_ne (fun z => hb (by rw [z]; exact oa))]
      exact q
  refine ⟨by simp [h.len], h.g.trans hs, fun j s z => ?_, fun j k b s t hjk h1 h2 h3 h4 h5 => ?_, h.tab.put (h.own_in (Same.refl H) oa)⟩
  · by_cases hj : i = j
    · subst hj
      rw [List.getElem?_set_self hil] at z
      cases z
      rw [ha]
      exact hv.mono hs fun _ _ _ _ q => q
    · rw [List.getElem?_set_ne hj] at z
      refine (h.at_ j s z).mono hs fun b u q1 q2 q3 => ?_
      rw [upd_ne]
      · exact q3
      · rintro rfl
        exact h.dis i j b sl s hj hi ho z q1 ha q2
  · have own_of : ∀ (j : Nat) s, (e.set i sl')[j]? = some s → s.isOwn = true → ∃ t, e[j]? = some t ∧ t.isOwn = true := fun j s q1 q2 => by
      by_cases hj : i = j
      · subst hj; exact ⟨sl, hi, ho⟩
      · rw [List.getElem?_set_ne hj] at q1; exact ⟨s, q1, q2⟩
    obtain ⟨s', a1, a2⟩ := own_of j s h1 h2
    obtain ⟨t', b1, b2⟩ := own_of k t h3 h4
    exact h.dis j k b s' t' hjk a1 a2 b1 b2 h5
end

/-! ### what a statement does -/
inductive Fl where
  | nx (e : En)
  | rt (d : D)
  | rl (xs : List D)
  | rp (xs : List D)
def FinS (K : PySem.W.Frag) (W : Wx) (G : Hp) (Z : Ends) : Res Fl → Prop
  | .ok (.nx e) => ∀ σ' H', StOk K G H' σ' e → Z.nx σ' H'
  | .ok (.rt d) => ∀ v H', Same G H' → Rp K H' d v → Z.rt v H'
  | .ok (.rl xs) => ∀ a vs H', G a = none → Same G H' → H' a = some (.lst vs) → RpAll K (hide1 a H') xs vs → Z.rt (.ref a) H'
  | .ok (.rp xs) => ∀ a ob vs H', Same G H' → H' a = some (.frz ob (.tup vs)) → ob.dict = none → ob.cls = .type "tuple" → RpAll K H' xs vs → Z.rt (.ref a) H'
  | .exc c => ∀ σ' H', Same G H' → W c σ' H'
  | .bad => False
def tS (K : PySem.W.Frag) (W : Wx) (F : En → Res Fl) : TS := fun Z σ H => ∃ G e, StOk K G H σ e ∧ FinS K W G Z (F e)
section
variable {K : PySem.W.Frag} {W : Wx} {X : Cx}
theorem FinS.mono {G G' : Hp} {Z : Ends} (s : Same G G') : ∀ {r : Res Fl}, FinS K W G Z r → FinS K W G' Z r
  | .ok (.nx e), h => fun σ' H' q => h σ' H' (q.weak s)
  | .ok (.rt d), h => fun v H' q r => h v H' (s.trans q) r
  | .ok (.rl xs), h => fun a vs H' na q ea r => h a vs H' (s.free na) (s.trans q) ea r
  | .ok (.rp xs), h => fun a ob vs H' q ea o1 o2 r => h a ob vs H' (s.trans q) ea o1 o2 r
  | .exc c, h => fun σ' H' q => h σ' H' (s.trans q)
  | .bad, h => h
def nilS : En → Res Fl := fun e => .ok (.nx e)
def seqS (F G : En → Res Fl) : En → Res Fl := fun e => rb (F e) fun fl => match fl with
  | .nx e1 => G e1
  | fl => .ok fl
variable {st : Stmt} {rest : List Stmt} {F F' : En → Res Fl}
theorem pds_nil : PSs X [] (tS X.K W nilS) := PSs.weak pss_nil fun Z σ H ⟨G, e, he, hf⟩ => hf σ H he
theorem pds_cons (h1 : PS X st (tS X.K W F)) (h2 : PSs X rest (tS X.K W F')) : PSs X (st :: rest) (tS X.K W (seqS F F')) := by
  refine PSs.weak (pss_cons h1 h2) ?_
  rintro Z σ H ⟨G, e, he, hf⟩
  refine ⟨G, e, he, ?_⟩
  unfold seqS at hf
  cases q : F e with
  | bad => rw [q] at hf; exact hf
  | exc c => rw [q] at hf; exact hf
  | ok fl =>
    rw [q, rb_ok] at hf
    cases fl with
    | nx e1 => exact fun σ' H' h => ⟨G, e1, h, hf⟩
    | rt d => exact hf
    | rl xs => exact hf
    | rp xs => exact hf
theorem pds_one (h1 : PS X st (tS X.K W F)) : PSs X [st] (tS X.K W F) := pss_one h1
/-- the value of an expression at a statement -/
theorem st_expr {G H : Hp} {σ : L2.St} {e : En} {f : En → Res D} {Z : Ends} {Q : VK} {k : D → Res Fl} (he : StOk K G H σ e) (hf : FinS K W G Z (rb (f e) k))
    (hq : ∀ d v H', f e = .ok d → Same H H' → Rp K H' d v → FinS K W G Z (k d) → Q v H') : tD K W f σ H Q := by
  refine ⟨e, he.env, ?_⟩
  cases h1 : f e with
  | bad => rw [h1] at hf; exact hf
  | exc c => rw [h1] at hf; exact fun H' s => hf σ H' (he.same.trans s)
  | ok d =>
    rw [h1, rb_ok] at hf
    exact fun v H' s r => hq d v H' h1 s r hf
theorem st_new {G H : Hp} {σ : L2.St} {e : En} {f : En → Res (List D)} {Z : Ends} {Q : VK} {k : List D → Res Fl} (he : StOk K G H σ e) (hf : FinS K W G Z (rb (f e) k))
    (hq : ∀ xs a vs H', f e = .ok xs → H a = none → Same H H' → H' a = some (.lst vs) → RpAll K (hide1 a H') xs vs → FinS K W G Z (k xs) → Q (.ref a) H') : tN K W f σ H Q := by
  refine ⟨e, he.env, ?_⟩
  cases h1 : f e with
  | bad => rw [h1] at hf; exact hf
  | exc c => rw [h1] at hf; exact fun H' s => hf σ H' (he.same.trans s)
  | ok xs =>
    rw [h1, rb_ok] at hf
    exact fun a vs H' na s ea r => hq xs a vs H' h1 na s ea r hf
/-! targets at statements -/
mutual
theorem gT_st {G H : Hp} : ∀ {t : Tg} {d : D} {v : V} {σ : L2.St} {e e' : En} {Q : L2.St → Hp → Prop}, StOk K G H σ e → Rp K H d v → setT t d e = .ok e' → (∀ σ', StOk K G H σ' e' → Q σ' H) → gT K t v σ H Q
  | .nm i, d, v, σ, e, e', Q, he, r, hz, q => by
    simp only [setT, setN] at hz
    split at hz
    · rename_i hl
      cases hz
      exact q _ (he.setD i hl r)
    · cases hz
  | .tp ts, d, v, σ, e, e', Q, he, r, hz, q => by
    cases d with
    | tup ds =>
      simp only [setT] at hz
      split at hz
      · rename_i hl
        obtain ⟨a, xs, rfl, h1, h2⟩ := r
        exact ⟨a, xs, rfl, h1, by rw [← h2.length, hl], gTs_st he h2 hl hz q⟩
      · cases hz
    | _ => simp [setT] at hz
theorem gTs_st {G H : Hp} : ∀ {ts : List Tg} {ds : List D} {xs : List V} {σ : L2.St} {e e' : En} {Q : L2.St → Hp → Prop}, StOk K G H σ e → RpAll K H ds xs → ts.length = ds.length → setTs ts ds e = .ok e' → (∀ σ', StOk K G H σ' e' → Q σ' H) → gTs K ts xs σ H Q
  | [], ds, xs, σ, e, e', Q, he, r, hl, hz, q => by
    have : ds = [] := List.eq_nil_of_length_eq_zero (by simpa using hl.symm)
    subst this
    cases r
    simp only [setTs] at hz
    cases hz
    exact ⟨rfl, q σ he⟩
  | t :: ts, [], xs, σ, e, e', Q, he, r, hl, hz, q => by simp at hl
  | t :: ts, d :: ds, xs, σ, e, e', Q, he, r, hl, hz, q => by
    obtain ⟨v, vr, rfl, r1, r2⟩ := r
    simp only [setTs] at hz
    cases h1 : setT t d e with
    | bad => rw [h1] at hz; cases hz
    | exc c => rw [h1] at hz; cases hz
    | ok e1 =>
      rw [h1, rb_ok] at hz
      exact ⟨v, vr, rfl, gT_st he r1 h1 fun σ1 he1 => gTs_st he1 r2 (by simpa using hl) hz q⟩
end
mutual
theorem setT_noexc : ∀ {t : Tg} {d : D} {e : En} {c : Nat}, setT t d e ≠ .exc c
  | .nm i, d, e, c => by simp only [setT, setN]; split <;> exact fun h => by cases h
  | .tp ts, d, e, c => by
    cases d with
    | tup ds =>
      simp only [setT]
      split
      · exact setTs_noexc
      · exact fun h => by cases h
    | _ => simp [setT]
theorem setTs_noexc : ∀ {ts : List Tg} {ds : List D} {e : En} {c : Nat}, setTs ts ds e ≠ .exc c
  | [], _, _, _ => by simp [setTs]
  | _ :: _, [], _, _ => by simp [setTs]
  | t :: ts, d :: ds, e, c => by
    simp only [setTs]
    cases h1 : setT t d e with
    | bad => simp
    | exc c' => exact absurd h1 setT_noexc
    | ok e1 => rw [rb_ok]; exact setTs_noexc
end

/-! ### the statements -/
variable {ex tg : Expr} {f : En → Res D} {fn : En → Res (List D)} {t : Tg} {pos : Pos} {tb : En → Res Bool}
def nxS (r : Res En) : Res Fl := rb r fun e => .ok (.nx e)
/-- target = data -/
def asgS (t : Tg) (f : En → Res D) : En → Res Fl := fun e => rb (f e) fun d => nxS (setT t d e)
theorem asg_D {t : Tg} : ∀ Z σ H, tS K W (asgS t f) Z σ H → tAsg (tD K W f) (gT K t) Z σ H := by
  rintro Z σ H ⟨G, e, he, hf⟩
  refine st_expr he hf fun d v H' _ s r hk => ?_
  cases h1 : setT t d e with
  | bad => rw [h1] at hk; exact hk.elim
  | exc c => unfold nxS at hk; rw [h1] at hk; exact absurd h1 (setT_noexc)
  | ok e1 =>
    unfold nxS at hk
    rw [h1, rb_ok] at hk
    exact gT_st (he.keep s) r h1 fun σ' q => hk σ' H' q
theorem pds_asg (he : PE X ex (tD X.K W f)) (hg : PG X tg (gT X.K t)) (hs : swapsWithSole [tg] ex pos.line X.env = pure false := by rfl) (hw : swappedStores [tg] ex X.env = pure none := by rfl)
    (h1 : (assignEach [tg] X.env).map (·.2) = [assign tg X.env] := by rfl) : PS X (.Assign [tg] ex pos) (tS X.K W (asgS t f)) := PS.weak (ps_asg he hg hs hw h1) asg_D
/-- name = new list, to own -/
def asgO (i : Nat) (f : En → Res (List D)) : En → Res Fl := fun e => rb (f e) fun xs => if lfAll xs || noOwn e then .ok (.nx (e.set i (.own xs))) else .bad
/-- name = new list, only to be read -/
def asgL (i : Nat) (f : En → Res (List D)) : En → Res Fl := fun e => rb (f e) fun xs => if lfAll xs || noOwn e then .ok (.nx (e.set i (.dat (.lst xs)))) else .bad
theorem new_lift {G H H' : Hp} {σ : L2.St} {e : En} (he : StOk K G H σ e) (s : Same H H') {a : Addr} {vs : List V} {xs : List D} (na : H a = none) (ea : H' a = some (.lst vs)) (r : RpAll K (hide1 a H') xs vs) (hl : (lfAll xs || noOwn e) = true) :
    RpAll K (hide (fun b => owns σ e b ∨ b = a) H') xs vs := by
  rw [Bool.or_eq_true] at hl
  rcases hl with hl | hl
  · refine RpAll.hide (fun b hb => ?_) hl (r.mono (hide_same _))
    rcases hb with hb | hb
    · obtain ⟨u, q⟩ := owns_lt he hb
      rcases he.own_at hb with ⟨ws, q'⟩ | ⟨ws, q'⟩ | q'
      · exact .inl ⟨ws, s.keep _ _ q' (fun _ z => nomatch z)⟩
      · exact .inr (.inl ⟨ws, s.keep _ _ q' (fun _ z => nomatch z)⟩)
      · rw [q'] at q; cases q
    · exact .inl ⟨vs, by rw [hb]; exact ea⟩
  · refine r.mono (hide_sub fun b hb => ?_)
    rcases hb with hb | hb
    · exact absurd hb (owns_none hl b)
    · exact hb
theorem asgO_D {i : Nat} : ∀ Z σ H, tS K W (asgO i fn) Z σ H → tAsg (tN K W fn) (gName i) Z σ H := by
  rintro Z σ H ⟨G, e, he, hf⟩
  refine st_new he hf fun xs a vs H' _ na s ea r hk => ?_
  split at hk
  · rename_i hl
    refine hk _ H' (he.setO s i na ⟨_, ea⟩ rfl ⟨a, vs, rfl, ea, ?_⟩)
    refine (new_lift he s na ea r hl).mono (hide_sub fun b hb => ?_)
    rcases owns_set he.len hb with q | ⟨_, q, _⟩
    · exact .inl q
    · injection q with q; injection q with q; exact .inr q.symm
  · exact hk.elim
theorem asgL_D {i : Nat} : ∀ Z σ H, tS K W (asgL i fn) Z σ H → tAsg (tN K W fn) (gName i) Z σ H := by
  rintro Z σ H ⟨G, e, he, hf⟩
  refine st_new he hf fun xs a vs H' _ na s ea r hk => ?_
  split at hk
  · rename_i hl
    have he' := he.keep s
    have noa : ¬ owns σ e a := fun q => by
      obtain ⟨u, q'⟩ := owns_lt he q
      rw [na] at q'; cases q'
    have sub : ∀ b, owns (σ.set i (some (.ref a))) (e.set i (.dat (.lst xs))) b → owns σ e b := fun b q => by
      rcases owns_set he.len q with q | ⟨q, _⟩
      · exact q
      · cases q
    have hs := hide_sub (H := H') sub
    have lift := new_lift he s na ea r hl
    refine hk _ H' ⟨by simp [he.len], he'.g.trans hs, fun j t z => ?_, fun j k b t u hjk h1 h2 h3 h4 h5 => ?_, he'.tab⟩
    · by_cases hj : i = j
      · subst hj
        have hi : i < e.length := by have := (List.getElem?_eq_some_iff.mp z).1; simpa using this
        rw [List.getElem?_set_self hi] at z
        cases z
        rw [List.getElem?_set_self (by rw [he.len]; exact hi)]
        refine ⟨.ref a, rfl, a, vs, rfl, SqL.of ?_, lift.mono (hide_sub fun b hb => .inl (sub b hb))⟩
        rw [hide_no fun q => noa (sub a q)]
        exact ea
      · rw [List.getElem?_set_ne hj] at z ⊢
        exact (he'.at_ j t z).mono hs fun _ _ _ _ q => q
    · have nj : i ≠ j := fun q => by
        subst q
        have hi : i < e.length := by have := (List.getElem?_eq_some_iff.mp h1).1; simpa using this
        rw [List.getElem?_set_self hi] at h1
        cases h1; cases h2
      have nk : i ≠ k := fun q => by
        subst q
        have hi : i < e.length := by have := (List.getElem?_eq_some_iff.mp h3).1; simpa using this
        rw [List.getElem?_set_self hi] at h3
        cases h3; cases h4
      rw [List.getElem?_set_ne nj] at h1 h5
      rw [List.getElem?_set_ne nk] at h3 ⊢
      exact he.dis j k b t u hjk h1 h2 h3 h4 h5
  · exact hk.elim
theorem pds_asgO (i : Nat) {x : Str} {px : Pos} (he : PE X ex (tN X.K W fn)) (hN : X.N.Nodup) (hi : X.N[i]? = some x := by rfl) (hx : Loc X.env.scope x := by first | exact .inl rfl | exact .inr rfl) (hf : X.fn x = true ∨ X.env.scope.names.lookup x = some .local := by first | exact .inl rfl | exact .inr rfl)
    (hs : swapsWithSole [.Name x px] ex pos.line X.env = pure false := by rfl) (hw : swappedStores [.Name x px] ex X.env = pure none := by rfl) : PS X (.Assign [.Name x px] ex pos) (tS X.K W (asgO i fn)) := PS.weak (ps_asg he (pg_name hN hi hx hf) hs hw) asgO_D
theorem pds_asgL (i : Nat) {x : Str} {px : Pos} (he : PE X ex (tN X.K W fn)) (hN : X.N.Nodup) (hi : X.N[i]? = some x := by rfl) (hx : Loc X.env.scope x := by first | exact .inl rfl | exact .inr rfl) (hf : X.fn x = true ∨ X.env.scope.names.lookup x = some .local := by first | exact .inl rfl | exact .inr rfl)
    (hs : swapsWithSole [.Name x px] ex pos.line X.env = pure false := by rfl) (hw : swappedStores [.Name x px] ex X.env = pure none := by rfl) : PS X (.Assign [.Name x px] ex pos) (tS X.K W (asgL i fn)) := PS.weak (ps_asg he (pg_name hN hi hx hf) hs hw) asgL_D
/-- name = [.. for ..] on one row, the name a local -/
theorem pds_lcO (i : Nat) {y : Str} {py : Pos} {elt iter : Expr} {ifs : List Expr} {scope : Scope} {own : List (Str × Nat)} {spos : Pos} {fi : En → Res (List D)} {tt : En → Res Bool} {te : En → Res D} (hc : X.calm = true) (hN : X.N.Nodup) (hi : PI X tg iter (tI X.K W fi)) (ok : BlkOk X.N X.env.scope scope own)
    (hg : ∀ (s : Shared) (H : Hp) (C : Addr) (cl : List (Str × Addr)) (fp : List Addr), PG (X.blk s H scope (compEnvC scope cl C X.env) fp) tg (gT X.K t)) (ht : ∀ (s : Shared) (H : Hp) (C : Addr) (cl : List (Str × Addr)) (fp : List Addr), PTs (X.blk s H scope (compEnvC scope cl C X.env) fp) ifs (tT X.K W0 tt))
    (he : ∀ (s : Shared) (H : Hp) (C : Addr) (cl : List (Str × Addr)) (fp : List Addr), PE (X.blk s H scope (compEnvC scope cl C X.env) fp) elt (tD X.K W0 te)) (hsl : ∀ i ∈ t.slots, i ∈ own.map (·.2) := by decide)
    (hy : X.N[i]? = some y := by rfl) (hyl : X.env.scope.names.lookup y = some .local := by rfl) (hsw : swapsWith (.ListComp elt [⟨tg, iter, ifs, 0⟩] scope pos) (some (.Name y py)) spos.line X.env = pure true := by exact sw_true rfl rfl rfl (by decide +kernel)) (hs : ∀ x, foldedSetIterable iter X.env x = pure x := by intro _; rfl) :
    PS X (.Assign [.Name y py] (.ListComp elt [⟨tg, iter, ifs, 0⟩] scope pos) spos) (tS X.K W (asgO i (compF (own.map (·.2)) fi t tt te))) := PS.weak (ps_setLc hc hN hy hyl hsw hi ok hg ht he hs) fun Z σ H q => tLc_D hsl σ H _ (asgO_D Z σ H q)
theorem pds_lcL (i : Nat) {y : Str} {py : Pos} {elt iter : Expr} {ifs : List Expr} {scope : Scope} {own : List (Str × Nat)} {spos : Pos} {fi : En → Res (List D)} {tt : En → Res Bool} {te : En → Res D} (hc : X.calm = true) (hN : X.N.Nodup) (hi : PI X tg iter (tI X.K W fi)) (ok : BlkOk X.N X.env.scope scope own)
    (hg : ∀ (s : Shared) (H : Hp) (C : Addr) (cl : List (Str × Addr)) (fp : List Addr), PG (X.blk s H scope (compEnvC scope cl C X.env) fp) tg (gT X.K t)) (ht : ∀ (s : Shared) (H : Hp) (C : Addr) (cl : List (Str × Addr)) (fp : List Addr), PTs (X.blk s H scope (compEnvC scope cl C X.env) fp) ifs (tT X.K W0 tt))
    (he : ∀ (s : Shared) (H : Hp) (C : Addr) (cl : List (Str × Addr)) (fp : List Addr), PE (X.blk s H scope (compEnvC scope cl C X.env) fp) elt (tD X.K W0 te)) (hsl : ∀ i ∈ t.slots, i ∈ own.map (·.2) := by decide)
    (hy : X.N[i]? = some y := by rfl) (hyl : X.env.scope.names.lookup y = some .local := by rfl) (hsw : swapsWith (.ListComp elt [⟨tg, iter, ifs, 0⟩] scope pos) (some (.Name y py)) spos.line X.env = pure true := by exact sw_true rfl rfl rfl (by decide +kernel)) (hs : ∀ x, foldedSetIterable iter X.env x = pure x := by intro _; rfl) :
    PS X (.Assign [.Name y py] (.ListComp elt [⟨tg, iter, ifs, 0⟩] scope pos) spos) (tS X.K W (asgL i (compF (own.map (·.2)) fi t tt te))) := PS.weak (ps_setLc hc hN hy hyl hsw hi ok hg ht he hs) fun Z σ H q => tLc_D hsl σ H _ (asgL_D Z σ H q)
/-- return -/
def retS (f : En → Res D) : En → Res Fl := fun e => rb (f e) fun d => .ok (.rt d)
def retN (f : En → Res (List D)) : En → Res Fl := fun e => rb (f e) fun xs => .ok (.rl xs)
theorem pds_ret (he : PE X ex (tD X.K W f)) : PS X (.Return (some ex) pos) (tS X.K W (retS f)) := PS.weak (ps_ret he) fun Z σ H ⟨G, e, he, hf⟩ => st_expr he hf fun d v H' _ s r hk => hk v H' (he.same.trans s) r
theorem pds_retN (he : PE X ex (tN X.K W fn)) : PS X (.Return (some ex) pos) (tS X.K W (retN fn)) := PS.weak (ps_ret he) fun Z σ H ⟨G, e, he, hf⟩ => st_new he hf fun xs a vs H' _ na s ea r hk => hk a vs H' (he.same.free na) (he.same.trans s) ea r
/-- return name, the name owns a list -/
def retO (i : Nat) : En → Res Fl := fun e => match e[i]? with
  | some (.own xs) => .ok (.rl xs)
  | _ => .bad
/-- if -/
def ifS (t : En → Res Bool) (F G : En → Res Fl) : En → Res Fl := fun e => rb (t e) fun b => if b then F e else G e
theorem pds_if {c : Expr} {a b : List Stmt} (hc : PT X c (tT X.K W tb)) (ha : PSs X a (tS X.K W F)) (hb : PSs X b (tS X.K W F')) : PS X (.If c a b pos) (tS X.K W (ifS tb F F')) := by
  refine PS.weak (ps_if hc ha hb) ?_
  rintro Z σ H ⟨G, e, he, hf⟩
  refine ⟨e, he.env, ?_⟩
  unfold ifS at hf
  cases h1 : tb e with
  | bad => rw [h1] at hf; exact hf
  | exc c => rw [h1] at hf; exact fun H' s => hf σ H' (he.same.trans s)
  | ok k =>
    rw [h1, rb_ok] at hf
    intro H1 s1
    cases k with
    | true => simp only [if_true] at hf ⊢; exact ⟨G, e, he.keep s1, hf⟩
    | false => simp only [Bool.false_eq_true, if_false] at hf ⊢; exact ⟨G, e, he.keep s1, hf⟩
end
end FM

set_option Elab.async false
set_option linter.all false
set_option maxRecDepth 100000
/-! FM5: for, while, stores into own lists; a def's body; calls. -/
namespace FM
open PySem PySem.Spec PyProof.Rows L2

/-! ### what a for walks -/
def FinF (K : PySem.W.Frag) (W : Wx) (G : Hp) (σ : L2.St) (e : En) (R : It → Hp → Prop) : Res (List D) → Prop
  | .ok items => ∀ J H' G', Same G G' → StOk K G' H' σ e → ItOk K J G' items → R J H'
  | .exc c => ∀ H', Same G H' → W c σ H'
  | .bad => False
def tIF (K : PySem.W.Frag) (W : Wx) (f : En → Res (List D)) : TI := fun σ H R => ∃ G e, StOk K G H σ e ∧ FinF K W G σ e R (f e)
def lfG (g : D → Res (List D)) (f : En → Res D) : En → Res (List D) := fun e => rb (f e) fun d => if d.lf || noOwn e then g d else .bad
def newG (f : En → Res (List D)) : En → Res (List D) := fun e => rb (f e) fun xs => if lfAll xs || noOwn e then .ok xs else .bad
def noG (f : En → Res (List D)) : En → Res (List D) := fun e => if noOwn e then f e else .bad
def varG (i : Nat) : En → Res (List D) := fun e => match e[i]? with
  | some (.dat (.lst xs)) => .ok xs
  | _ => .bad
section
variable {K : PySem.W.Frag} {X : Cx} {W : Wx} {l tg : Expr} {f : En → Res D} {fn fs fi : En → Res (List D)}
theorem pif_tup (hl : PE X l (tD X.K W f)) : PI X tg l (tIF X.K W (lfG asTup f)) := by
  refine PI.weak (pi_tup hl) ?_
  rintro σ H R ⟨G, e, he, hf⟩
  refine ⟨e, he.env, ?_⟩
  unfold lfG at hf
  cases h1 : f e with
  | bad => rw [h1] at hf; exact hf
  | exc c => rw [h1] at hf; exact fun H' s => hf H' (he.same.trans s)
  | ok d =>
    rw [h1, rb_ok] at hf
    intro v H1 s1 r1
    split at hf
    · rename_i hl
      have r2 := he.lift s1 hl r1
      cases d with
      | tup xs =>
        obtain ⟨a, vs, rfl, h2, h3⟩ := r2
        exact ⟨a, rfl, ⟨vs, Same.sqT (hide_same _) h2⟩, hf _ H1 _ (he.grow s1).2 (he.grow s1).1 (it_tup h2 h3)⟩
      | _ => exact (hf : False).elim
    · exact hf.elim
theorem pif_str (hl : PE X l (tD X.K W f)) : PI X tg l (tIF X.K W (itF asStr f)) := by
  refine PI.weak (pi_str hl) ?_
  rintro σ H R ⟨G, e, he, hf⟩
  refine ⟨e, he.env, ?_⟩
  unfold itF at hf
  cases h1 : f e with
  | bad => rw [h1] at hf; exact hf
  | exc c => rw [h1] at hf; exact fun H' s => hf H' (he.same.trans s)
  | ok d =>
    rw [h1, rb_ok] at hf
    intro v H1 s1 r1
    cases d with
    | str l =>
      cases r1
      exact ⟨S l, rfl, hf _ H1 _ (he.grow s1).2 (he.grow s1).1 (it_str l)⟩
    | _ => exact (hf : False).elim
theorem pif_new (hl : PE X l (tN X.K W fn)) : PI X tg l (tIF X.K W (newG fn)) := by
  refine PI.weak (pi_list hl) ?_
  rintro σ H R ⟨G, e, he, hf⟩
  refine ⟨e, he.env, ?_⟩
  unfold newG at hf
  cases h1 : fn e with
  | bad => rw [h1] at hf; exact hf
  | exc c => rw [h1] at hf; exact fun H' s => hf H' (he.same.trans s)
  | ok xs =>
    rw [h1, rb_ok] at hf
    intro a vs H1 na s1 ea r1
    split at hf
    · rename_i hl
      have noa : ¬ owns σ e a := fun q => by
        obtain ⟨u, q'⟩ := owns_lt he q
        rw [na] at q'; cases q'
      have r2 := (new_lift he s1 na ea r1 hl).mono (hide_sub (O' := owns σ e) fun b hb => .inl hb)
      refine ⟨a, rfl, ⟨vs, SqL.of ea⟩, hf _ H1 _ (he.grow s1).2 (he.grow s1).1 (it_list (SqL.of ?_) r2)⟩
      rw [hide_no noa]
      exact ea
    · exact hf.elim
/-- a name that holds a list which is only read -/
theorem pif_var (i : Nat) {x : Str} {px : Pos} (hN : X.N[i]? = some x := by rfl) (hv : Vis X.env.scope x := by first | exact Or.inl rfl | exact Or.inr (Or.inl rfl) | exact Or.inr (Or.inr rfl)) (hd : (x == ("__debug__" : Str)) = false := by decide)
    (hcd : (x == ("__classdict__" : Str)) = false := by decide) : PI X tg (.Name x px) (tIF X.K W (varG i)) := by
  refine PI.weak (pi_list (pe_var hN hv hd hcd)) ?_
  rintro σ H R ⟨G, e, he, hf⟩
  unfold varG at hf
  split at hf
  · rename_i xs hx
    obtain ⟨v, e1, a, vs, rfl, h2, h3⟩ := he.at_ i _ hx
    exact ⟨.ref a, e1, a, rfl, ⟨vs, (hide_same _).seq h2⟩, hf _ H _ (he.grow (Same.refl H)).2 (he.grow (Same.refl H)).1 (it_list h2 h3)⟩
  · exact hf.elim
/-- where nothing is owned -/
theorem pif_no (h : PI X tg l (tI X.K W fi)) : PI X tg l (tIF X.K W (noG fi)) := by
  refine PI.weak h ?_
  rintro σ H R ⟨G, e, he, hf⟩
  refine ⟨e, he.env, ?_⟩
  unfold noG at hf
  split at hf
  · rename_i hn
    cases h1 : fi e with
    | bad => rw [h1] at hf; exact hf
    | exc c => rw [h1] at hf; exact fun H' s => hf H' (he.same.trans s)
    | ok items =>
      rw [h1] at hf
      intro J H' s hJ
      have e1 : Same H' (hide (owns σ e) H') := .of fun b o q => by rw [hide_no (owns_none hn b)]; exact q
      exact hf J H' _ (he.grow s).2 (he.grow s).1 (hJ.mono e1)
  · exact hf.elim
theorem pif_rng1 {a : Expr} {p pos : Pos} (hg : Gl X "range") (hm : X.mg "range" = none) (ha : PA X [a] (tDs X.K W fs)) (hs : starEach [a] X.env = [(false, eval a X.env)] := by rfl) : PI X tg (.Call (.Name "range" p) [a] [] pos) (tIF X.K W (itF asRng1 fs)) := by
  refine PI.weak (pi_range1 hg hm ha hs) ?_
  rintro σ H R ⟨G, e, he, hf⟩
  refine ⟨e, he.env, ?_⟩
  unfold itF at hf
  cases h1 : fs e with
  | bad => rw [h1] at hf; exact hf
  | exc c => rw [h1] at hf; exact fun H' s => hf H' (he.same.trans s)
  | ok ds =>
    rw [h1, rb_ok] at hf
    intro vs H1 s1 r1
    unfold asRng1 at hf
    split at hf
    · rename_i j
      obtain ⟨v, r, rfl, rv, rr⟩ := r1
      cases rv; cases rr
      split at hf
      · rename_i hj
        exact ⟨j, rfl, by omega, by omega, hf _ H1 _ (he.grow s1).2 (he.grow s1).1 (it_rng 0 _)⟩
      · exact hf.elim
    · exact (hf : False).elim
theorem pif_rng2 {a b : Expr} {p pos : Pos} (hg : Gl X "range") (hm : X.mg "range" = none) (ha : PA X [a, b] (tDs X.K W fs)) (hs : starEach [a, b] X.env = [(false, eval a X.env), (false, eval b X.env)] := by rfl) (hs2 : starEach [b] X.env = [(false, eval b X.env)] := by rfl) :
    PI X tg (.Call (.Name "range" p) [a, b] [] pos) (tIF X.K W (itF asRng2 fs)) := by
  refine PI.weak (pi_range2 hg hm ha hs hs2) ?_
  rintro σ H R ⟨G, e, he, hf⟩
  refine ⟨e, he.env, ?_⟩
  unfold itF at hf
  cases h1 : fs e with
  | bad => rw [h1] at hf; exact hf
  | exc c => rw [h1] at hf; exact fun H' s => hf H' (he.same.trans s)
  | ok ds =>
    rw [h1, rb_ok] at hf
    intro vs H1 s1 r1
    unfold asRng2 at hf
    split at hf
    · rename_i i j
      obtain ⟨v, r, rfl, rv, v2, r2, rfl, rv2, rr⟩ := r1
      cases rv; cases rv2; cases rr
      split at hf
      · rename_i hj
        exact ⟨i, j, rfl, ⟨by omega, by omega, by omega, by omega⟩, hf _ H1 _ (he.grow s1).2 (he.grow s1).1 (it_rng i _)⟩
      · exact hf.elim
    · exact (hf : False).elim

/-! ### for -/
def forF (t : Tg) (B : En → Res Fl) : List D → En → Res Fl
  | [], e => .ok (.nx e)
  | d :: r, e => rb (setT t d e) fun e1 => rb (B e1) fun fl => match fl with
    | .nx e2 => forF t B r e2
    | fl => .ok fl
def forS (fi : En → Res (List D)) (t : Tg) (B : En → Res Fl) : En → Res Fl := fun e => rb (fi e) fun items => forF t B items e
variable {t : Tg} {B : En → Res Fl} {pos : Pos}
theorem for_D : ∀ Z σ H, tS K W (forS fi t B) Z σ H → tFor (tIF K W fi) (gT K t) (tS K W B) Z σ H := by
  rintro Z σ H ⟨G, e, he, hf⟩
  refine ⟨G, e, he, ?_⟩
  unfold forS at hf
  cases h1 : fi e with
  | bad => rw [h1] at hf; exact hf
  | exc c => rw [h1] at hf; exact fun H' s => hf σ H' s
  | ok items =>
    rw [h1, rb_ok] at hf
    intro J H1 G1 sG he1 hJ
    let P : Nat → L2.St → Hp → Prop := fun i σ' H' => ∃ e', StOk K G1 H' σ' e' ∧ FinS K W G1 Z (forF t B (items.drop i) e')
    refine ⟨fun i m σ' H' => m = items.length - i ∧ i ≤ items.length ∧ P i σ' H', ⟨items.length, by simp, Nat.zero_le _, e, he1, by simpa using hf.mono sG⟩, ?_⟩
    rintro i m σ' H' ⟨rfl, hi, e', he', hf'⟩
    obtain ⟨hgo, hstop⟩ := hJ H' he'.same
    by_cases hlt : i < items.length
    · right
      have hd : items[i]? = some items[i] := List.getElem?_eq_getElem hlt
      obtain ⟨g1, g2⟩ := hgo i _ hd
      rw [List.drop_eq_getElem_cons hlt] at hf'
      simp only [forF] at hf'
      refine ⟨g1, P (i + 1), fun σ2 H2 p => ⟨items.length - (i + 1), by omega, rfl, hlt, p⟩, fun x H2 hy => ?_⟩
      obtain ⟨s2, rx⟩ := g2 x H2 hy
      cases h2 : setT t items[i] e' with
      | bad => rw [h2] at hf'; exact hf'.elim
      | exc c => exact absurd h2 setT_noexc
      | ok e1 =>
        rw [h2, rb_ok] at hf'
        refine gT_st (he'.keep s2) rx h2 fun σ3 he3 => ⟨G1, e1, he3, ?_⟩
        cases h3 : B e1 with
        | bad => rw [h3] at hf'; exact hf'
        | exc c => rw [h3] at hf'; exact hf'
        | ok fl =>
          rw [h3, rb_ok] at hf'
          cases fl with
          | nx e2 => exact fun σ4 H4 h4 => ⟨e2, h4, hf'⟩
          | rt d => exact hf'
          | rl xs => exact hf'
          | rp xs => exact hf'
    · left
      have e2 : i = items.length := by omega
      subst e2
      rw [List.drop_length] at hf'
      simp only [forF] at hf'
      exact ⟨hstop _ (Nat.le_refl _), hf' σ' H' he'⟩
theorem pds_for {iter : Expr} {body : List Stmt} (hp : PassesOwn (model X.prog X.w) X.A X.env X.xe) (hc : X.calm = true) (hi : PI X tg iter (tIF X.K W fi)) (hg : PG X tg (gT X.K t)) (hb : PSs X body (tS X.K W B))
    (hs : ∀ x, foldedSetIterable iter X.env x = pure x := by intro _; rfl) : PS X (.For tg iter body [] pos) (tS X.K W (forS fi t B)) := PS.weak (ps_for hp hc hi hg hb hs) for_D

/-! ### while -/
def whileN (t : En → Res Bool) (B : En → Res Fl) : Nat → En → Option (Res Fl)
  | 0, _ => none
  | n + 1, e => match t e with
    | .ok false => some (.ok (.nx e))
    | .ok true => (match B e with
      | .ok (.nx e1) => whileN t B n e1
      | r => some r)
    | .exc c => some (.exc c)
    | .bad => some .bad
theorem whileN_det {t : En → Res Bool} {B : En → Res Fl} : ∀ {n m : Nat} {e : En} {r r' : Res Fl}, whileN t B n e = some r → whileN t B m e = some r' → r = r'
  | 0, _, _, _, _, h, _ => by simp [whileN] at h
  | _, 0, _, _, _, _, h => by simp [whileN] at h
  | n + 1, m + 1, e, r, r', h, h' => by
    simp only [whileN] at h h'
    cases h1 : t e with
    | bad => rw [h1] at h h'; cases h; cases h'; rfl
    | exc c => rw [h1] at h h'; cases h; cases h'; rfl
    | ok b =>
      rw [h1] at h h'
      cases b with
      | false => cases h; cases h'; rfl
      | true =>
        simp only at h h'
        cases h2 : B e with
        | bad => rw [h2] at h h'; cases h; cases h'; rfl
        | exc c => rw [h2] at h h'; cases h; cases h'; rfl
        | ok fl =>
          rw [h2] at h h'
          cases fl with
          | nx e1 => exact whileN_det h h'
          | rt d => cases h; cases h'; rfl
          | rl d => cases h; cases h'; rfl
          | rp d => cases h; cases h'; rfl
noncomputable def whileS (t : En → Res Bool) (B : En → Res Fl) : En → Res Fl := fun e => open Classical in
  if h : ∃ r n, whileN t B n e = some r then Classical.choose h else .bad
theorem whileS_of {t : En → Res Bool} {B : En → Res Fl} {n : Nat} {e : En} {r : Res Fl} (h : whileN t B n e = some r) : whileS t B e = r := by
  have hx : ∃ r n, whileN t B n e = some r := ⟨r, n, h⟩
  unfold whileS
  rw [dif_pos hx]
  obtain ⟨m, hm⟩ := Classical.choose_spec hx
  exact whileN_det hm h
theorem whileS_ex {t : En → Res Bool} {B : En → Res Fl} {e : En} (h : whileS t B e ≠ .bad) : ∃ n, whileN t B n e = some (whileS t B e) := by
  by_cases hx : ∃ r n, whileN t B n e = some r
  · obtain ⟨r, n, hn⟩ := hx
    exact ⟨n, by rw [whileS_of hn]; exact hn⟩
  · unfold whileS at h
    rw [dif_neg hx] at h
    exact absurd rfl h
theorem whileS_false {t : En → Res Bool} {B : En → Res Fl} {e : En} (h : t e = .ok false) : whileS t B e = .ok (.nx e) := whileS_of (n := 1) (by simp [whileN, h])
theorem whileS_true {t : En → Res Bool} {B : En → Res Fl} {e e1 : En} (h : t e = .ok true) (h1 : B e = .ok (.nx e1)) : whileS t B e = whileS t B e1 := by
  by_cases hx : ∃ r n, whileN t B n e1 = some r
  · obtain ⟨r, n, hn⟩ := hx
    rw [whileS_of hn]
    exact whileS_of (n := n + 1) (by simp [whileN, h, h1, hn])
  · have hy : ¬ ∃ r n, whileN t B n e = some r := by
      rintro ⟨r, n, hn⟩
      cases n with
      | zero => simp [whileN] at hn
      | succ n =>
        simp only [whileN, h, h1] at hn
        exact hx ⟨r, n, hn⟩
    unfold whileS
    rw [dif_neg hx, dif_neg hy]
theorem while_D {tb : En → Res Bool} : ∀ Z σ H, tS K W (whileS tb B) Z σ H → tWhile (tT K W tb) (tS K W B) Z σ H := by
  rintro Z σ H ⟨G, e, he, hf⟩
  have nb : whileS tb B e ≠ .bad := fun q => by rw [q] at hf; exact hf
  obtain ⟨n, hn⟩ := whileS_ex nb
  refine ⟨fun m σ' H' => ∃ e' r, StOk K G H' σ' e' ∧ whileN tb B m e' = some r ∧ FinS K W G Z r, ⟨n, e, _, he, hn, hf⟩, ?_⟩
  rintro m σ' H' ⟨e', r, he', hr, hf'⟩
  cases m with
  | zero => simp [whileN] at hr
  | succ m =>
    refine ⟨e', he'.env, ?_⟩
    simp only [whileN] at hr
    cases h1 : tb e' with
    | bad => rw [h1] at hr; cases hr; exact hf'
    | exc c => rw [h1] at hr; cases hr; exact fun H2 s => hf' σ' H2 (he'.same.trans s)
    | ok b =>
      rw [h1] at hr
      intro H2 s2
      cases b with
      | false =>
        cases hr
        simp only [Bool.false_eq_true, if_false]
        exact hf' σ' H2 (he'.keep s2)
      | true =>
        simp only [if_true] at hr ⊢
        refine ⟨fun σ3 H3 => ∃ e3 r3, StOk K G H3 σ3 e3 ∧ whileN tb B m e3 = some r3 ∧ FinS K W G Z r3, fun σ3 H3 q => ⟨m, Nat.lt_succ_self m, q⟩, G, e', he'.keep s2, ?_⟩
        cases h2 : B e' with
        | bad => rw [h2] at hr; cases hr; exact hf'
        | exc c => rw [h2] at hr; cases hr; exact hf'
        | ok fl =>
          rw [h2] at hr
          cases fl with
          | nx e1 => exact fun σ4 H4 h4 => ⟨e1, r, h4, hr, hf'⟩
          | rt d => cases hr; exact hf'
          | rl d => cases hr; exact hf'
          | rp d => cases hr; exact hf'
theorem pds_while {c : Expr} {body : List Stmt} {tb : En → Res Bool} (hp : PassesOwn (model X.prog X.w) X.A X.env X.xe) (hc : PT X c (tT X.K W tb)) (hb : PSs X body (tS X.K W B)) : PS X (.While c body [] pos) (tS X.K W (whileS tb B)) :=
  PS.weak (ps_while hp hc hb) while_D

/-! ### a def -/
def initE (m : Nat) (ds : List D) : En := ds.map .dat ++ List.replicate (m - ds.length) .un
def runD (m : Nat) (B : En → Res Fl) (ds : List D) : Res D := match B (initE m ds) with
  | .ok (.rt d) => .ok d
  | .ok (.nx _) => .ok .non
  | _ => .bad
def runL (m : Nat) (B : En → Res Fl) (ds : List D) : Res (List D) := match B (initE m ds) with
  | .ok (.rl xs) => .ok xs
  | _ => .bad
theorem start_ok {H : Hp} {N : List Str} {ds : List D} {vs : List V} (tb : TabOK K H) (r : RpAll K H ds vs) : StOk K H H (start N vs) (initE N.length ds) := by
  have no : noOwn (initE N.length ds) = true := by
    unfold noOwn initE
    rw [List.all_append, Bool.and_eq_true]
    constructor
    · simp [List.all_map, Sl.isOwn]
    · rw [List.all_eq_true]
      intro x hx
      rw [List.eq_of_mem_replicate hx]
      rfl
  have e1 : Same H (hide (owns (start N vs) (initE N.length ds)) H) := .of fun b o q => by rw [hide_no (owns_none no b)]; exact q
  have l := r.length
  refine ⟨by simp [L2.start, initE, l], e1, fun i s z => ?_, fun i j a s t hij h1 h2 => ?_, tb⟩
  · unfold initE at z
    by_cases hi : i < ds.length
    · rw [List.getElem?_append_left (by simpa using hi), List.getElem?_map, List.getElem?_eq_getElem hi] at z
      cases z
      obtain ⟨v, h1, h2⟩ := r.get (List.getElem?_eq_getElem hi)
      refine ⟨v, ?_, h2.mono e1⟩
      unfold L2.start
      rw [List.getElem?_append_left (by simp; omega), List.getElem?_map, h1]
      rfl
    · rw [List.getElem?_append_right (by simpa using hi), List.getElem?_replicate] at z
      split at z
      · cases z; trivial
      · cases z
  · exfalso
    unfold noOwn at no
    rw [List.all_eq_true] at no
    have := no s (List.mem_of_getElem? h1)
    rw [h2] at this
    cases this
theorem fnD_body {C : Cls4} {n : Nat} {N : List Str} {H : Hp} {vs : List V} {Q : VK} {E : XK} (h : spD K C n (runD N.length B) vs H Q E) : tS K W0 B { nx := fun _ H' => Q .non H', rt := Q } (start N vs) H := by
  obtain ⟨tb, ds, hn, r, hf⟩ := h
  refine ⟨H, _, start_ok tb r, ?_⟩
  unfold runD at hf
  cases h1 : B (initE N.length ds) with
  | bad => rw [h1] at hf; exact hf
  | exc c => rw [h1] at hf; exact hf.elim
  | ok fl =>
    rw [h1] at hf
    cases fl with
    | nx e => exact fun σ' H' he => hf .non H' he.same rfl
    | rt d => exact hf
    | rl xs => exact hf.elim
    | rp xs => exact hf.elim
theorem fnL_body {C : Cls4} {n : Nat} {N : List Str} {H : Hp} {vs : List V} {Q : VK} {E : XK} (h : spL K C n (runL N.length B) vs H Q E) : tS K W0 B { nx := fun _ H' => Q .non H', rt := Q } (start N vs) H := by
  obtain ⟨tb, ds, hn, r, hf⟩ := h
  refine ⟨H, _, start_ok tb r, ?_⟩
  unfold runL at hf
  cases h1 : B (initE N.length ds) with
  | bad => rw [h1] at hf; exact hf
  | exc c => rw [h1] at hf; exact hf.elim
  | ok fl =>
    rw [h1] at hf
    cases fl with
    | nx e => exact hf.elim
    | rt d => exact hf.elim
    | rl xs => exact hf
    | rp xs => exact hf.elim
end
section
variable {P : Program} {w : World} {K : PySem.W.Frag} {mg : Str → Option Value} {base : Heap}
/-- a def that is known: where it stands, its promise -/
def FnB (P : Program) (w : World) (K : PySem.W.Frag) (mg : Str → Option Value) (base : Heap) (k : Nat) (x : Str) (ps : List Str) (sp : Sp) : Prop :=
  ∃ f fd, FnOk P w K mg base CX0 k f fd ps sp ∧ mg x = some (.ref f) ∧ PySem.W.keepIn K (.ref f) = true ∧ Binds K fd ps []
/-- the law itself -/
theorem fn_law {x qual : Str} {st : Stmt} {f : Addr} {fd : FuncData} {N ps : List Str} {k : Nat} {B : En → Res Fl} (C : Cls4) (F : Fun K x qual st f fd) (S : FnScope N ps (defScope st))
    (hbody : ∀ (cdv : Value) (A : Around) (outer : List Env) (s : Shared) (H : Hp) (E : XK), Room k (A.deeper (envOfC qual (defScope st) s.heap.objs.size f cdv)) →
      PSs (cxOf CX0 P w K mg base N qual (defScope st) f cdv A outer s H E).nox (defBody st) (tS K W0 B))
    {n m : Nat} {g : List D → Res D} (hg : g = runD m B) (hn : ps.length = n) (hN : N.length = m) : FnOk P w K mg base CX0 (k + 1) f fd ps (spD K C n g) := by
  subst hg hn hN
  exact F.ok S spD.len fun cdv A outer s H vs Q E hr h => ⟨_, hbody cdv A outer s H E hr, fnD_body h⟩
/-- a def whose body is read by B, that gives data -/
theorem fn_data {x qual : Str} {st : Stmt} {f : Addr} {fd : FuncData} {N ps : List Str} {k : Nat} {B : En → Res Fl} (C : Cls4) (F : Fun K x qual st f fd) (S : FnScope N ps (defScope st))
    (hbody : ∀ (cdv : Value) (A : Around) (outer : List Env) (s : Shared) (H : Hp) (E : XK), Room k (A.deeper (envOfC qual (defScope st) s.heap.objs.size f cdv)) →
      PSs (cxOf CX0 P w K mg base N qual (defScope st) f cdv A outer s H E).nox (defBody st) (tS K W0 B))
    (hm : mg x = some (.ref f)) (hb : Binds K fd ps []) {n m : Nat} {g : List D → Res D} (hg : g = runD m B) (hn : ps.length = n) (hN : N.length = m) : FnB P w K mg base (k + 1) x ps (spD K C n g) := by
  subst hg hn hN
  exact ⟨f, fd, F.ok S spD.len fun cdv A outer s H vs Q E hr h => ⟨_, hbody cdv A outer s H E hr, fnD_body h⟩, hm, F.kp, hb⟩
theorem fn_list {x qual : Str} {st : Stmt} {f : Addr} {fd : FuncData} {N ps : List Str} {k : Nat} {B : En → Res Fl} (C : Cls4) (F : Fun K x qual st f fd) (S : FnScope N ps (defScope st))
    (hbody : ∀ (cdv : Value) (A : Around) (outer : List Env) (s : Shared) (H : Hp) (E : XK), Room k (A.deeper (envOfC qual (defScope st) s.heap.objs.size f cdv)) →
      PSs (cxOf CX0 P w K mg base N qual (defScope st) f cdv A outer s H E).nox (defBody st) (tS K W0 B))
    (hm : mg x = some (.ref f)) (hb : Binds K fd ps []) {n m : Nat} {g : List D → Res (List D)} (hg : g = runL m B) (hn : ps.length = n) (hN : N.length = m) : FnB P w K mg base (k + 1) x ps (spL K C n g) := by
  subst hg hn hN
  exact ⟨f, fd, F.ok S spL.len fun cdv A outer s H vs Q E hr h => ⟨_, hbody cdv A outer s H E hr, fnL_body h⟩, hm, F.kp, hb⟩
end
section
variable {X : Cx} {W : Wx} {k n : Nat} {x : Str} {ps : List Str} {C : Cls4} {p pos : Pos} {e : Expr} {es : List Expr} {fa : En → Res (List D)} {g : List D → Res D} {gl : List D → Res (List D)}
theorem FnB.mono {P : Program} {w : World} {K : PySem.W.Frag} {mg : Str → Option Value} {base : Heap} {j : Nat} {sp : Sp} (h : FnB P w K mg base j x ps sp) (hj : j ≤ k) : FnB P w K mg base k x ps sp :=
  let ⟨f, fd, h1, h2⟩ := h; ⟨f, fd, h1.mono hj, h2⟩
theorem pd_fn (F : FnB X.prog X.w X.K X.mg X.base k x ps (spD X.K C n g)) (hr : Room k X.A) (ha : PA X (e :: es) (tDs X.K W fa)) (hg : Gl X x := by rfl) (hdb : (x == ("__debug__" : Str)) = false := by decide)
    (he : starEach (e :: es) X.env = (false, eval e X.env) :: starEach es X.env := by rfl) (hpl : (backTo pos (starEach es X.env)).any (·.1) = false := by rfl) : PE X (.Call (.Name x p) (e :: es) [] pos) (tD X.K W (fnF n g fa)) := by
  obtain ⟨f, fd, h1, h2, h3, h4⟩ := F
  exact PE.weak (pe_call h1 hr hg h2 h3 h4 .nil pass0 ha hdb he hpl) tD_fn
theorem pd_fn0 (F : FnB X.prog X.w X.K X.mg X.base k x ps (spD X.K C 0 g)) (hr : Room k X.A) (hg : Gl X x := by rfl) (hdb : (x == ("__debug__" : Str)) = false := by decide) : PE X (.Call (.Name x p) [] [] pos) (tD X.K W (fnF 0 g nilF)) := by
  obtain ⟨f, fd, h1, h2, h3, h4⟩ := F
  refine PE.weak (pe_call0 h1 hr hg h2 h3 h4 .nil pass0 hdb) fun σ H Q q => ?_
  obtain ⟨e, he, hf⟩ := tD_fn (C := C) σ H Q q
  exact hf [] H (Same.refl H) rfl
theorem pn_fn (F : FnB X.prog X.w X.K X.mg X.base k x ps (spL X.K C n gl)) (hr : Room k X.A) (ha : PA X (e :: es) (tDs X.K W fa)) (hg : Gl X x := by rfl) (hdb : (x == ("__debug__" : Str)) = false := by decide)
    (he : starEach (e :: es) X.env = (false, eval e X.env) :: starEach es X.env := by rfl) (hpl : (backTo pos (starEach es X.env)).any (·.1) = false := by rfl) : PE X (.Call (.Name x p) (e :: es) [] pos) (tN X.K W (fnF n gl fa)) := by
  obtain ⟨f, fd, h1, h2, h3, h4⟩ := F
  exact PE.weak (pe_call h1 hr hg h2 h3 h4 .nil pass0 ha hdb he hpl) tN_fn
end
end FM

set_option Elab.async false
set_option linter.all false
set_option maxRecDepth 100000
/-! FM6: built-ins on plain data: len, isinstance, all, tuple, list, join, lower, upper. -/
namespace FM
open PySem PySem.Spec PyProof.Rows L2
section
variable {X : Cx} {W : Wx} {e a : Expr} {es : List Expr} {fa : En → Res (List D)} {f fb : En → Res D} {p pos apos : Pos}
/-- a built-in function by its name -/
theorem pd_callB {id : String} {x : Str} {r : List V → Hp → VK → Prop} {g : List D → Option D} (hc : CallR X (.builtin id) r) (hd : CallD X.K r g) (hm : X.mg x = none) (hv : bootBuiltins x = some (.builtin id)) (ha : PA X (e :: es) (tDs X.K W fa)) (hg : Gl X x := by rfl)
    (hn : x ≠ "__name__" := by decide) (hdb : (x == ("__debug__" : Str)) = false := by decide) (he : starEach (e :: es) X.env = (false, eval e X.env) :: starEach es X.env := by rfl) (hpl : (backTo pos (starEach es X.env)).any (·.1) = false := by rfl) :
    PE X (.Call (.Name x p) (e :: es) [] pos) (tD X.K W (callF g fa)) := PE.weak (pe_callB hc hg hm hv ha hn hdb he hpl) (tD_call hd)
theorem pd_callTy {T : String} {x : Str} {r : List V → Hp → VK → Prop} {g : List D → Option D} (hc : CallR X (.type T) r) (hd : CallD X.K r g) (hm : X.mg x = none) (hv : bootBuiltins x = some (.type T)) (ha : PA X (e :: es) (tDs X.K W fa)) (hg : Gl X x := by rfl)
    (hn : x ≠ "__name__" := by decide) (hdb : (x == ("__debug__" : Str)) = false := by decide) (he : starEach (e :: es) X.env = (false, eval e X.env) :: starEach es X.env := by rfl) (hpl : (backTo pos (starEach es X.env)).any (·.1) = false := by rfl) :
    PE X (.Call (.Name x p) (e :: es) [] pos) (tD X.K W (callF g fa)) := PE.weak (pe_callTy hc hg hm hv ha hn hdb he hpl) (tD_call hd)
theorem pn_callTy {T : String} {x : Str} {r : List V → Hp → VK → Prop} {g : List D → Option (List D)} (hc : CallR X (.type T) r) (hd : CallN X.K r g) (hm : X.mg x = none) (hv : bootBuiltins x = some (.type T)) (ha : PA X (e :: es) (tDs X.K W fa)) (hg : Gl X x := by rfl)
    (hn : x ≠ "__name__" := by decide) (hdb : (x == ("__debug__" : Str)) = false := by decide) (he : starEach (e :: es) X.env = (false, eval e X.env) :: starEach es X.env := by rfl) (hpl : (backTo pos (starEach es X.env)).any (·.1) = false := by rfl) :
    PE X (.Call (.Name x p) (e :: es) [] pos) (tN X.K W (callF g fa)) := PE.weak (pe_callTy hc hg hm hv ha hn hdb he hpl) (tN_call hd)
def lenO : List D → Option D
  | [.str l] => if l.length ≤ sizeLine then some (.int (l.length : Nat)) else none
  | [.tup l] => some (.int (l.length : Nat))
  | [.lst l] => some (.int (l.length : Nat))
  | _ => none
theorem pd_len (hm : X.mg "len" = none) (ha : PA X (e :: es) (tDs X.K W fa)) (hg : Gl X "len" := by rfl) (he : starEach (e :: es) X.env = (false, eval e X.env) :: starEach es X.env := by rfl) (hpl : (backTo pos (starEach es X.env)).any (·.1) = false := by rfl) :
    PE X (.Call (.Name "len" p) (e :: es) [] pos) (tD X.K W (callF lenO fa)) := by
  refine pd_callB call_len (fun xs H Q ds z r hz q => ?_) hm PySem.boot_len ha hg (by decide) (by decide) he hpl
  unfold lenO at hz
  split at hz
  · rename_i l
    obtain ⟨v, r, rfl, rv, rr⟩ := r
    cases rv; cases rr
    split at hz
    · rename_i hl
      cases hz
      have h1 : (S l).length = l.length := by simp [Str.length]
      exact ⟨_, (S l).length, rfl, ⟨by rw [h1]; exact hl, rfl⟩, by rw [h1]; exact q _ H (Same.refl H) rfl⟩
    · cases hz
  · rename_i l
    obtain ⟨v, r, rfl, ⟨b, xs, rfl, h1, h2⟩, rr⟩ := r
    cases rr; cases hz
    exact ⟨_, xs.length, rfl, .inr ⟨xs, h1, rfl⟩, by rw [← h2.length]; exact q _ H (Same.refl H) rfl⟩
  · rename_i l
    obtain ⟨v, r, rfl, ⟨b, xs, rfl, h1, h2⟩, rr⟩ := r
    cases rr; cases hz
    exact ⟨_, xs.length, rfl, .inl ⟨xs, h1, rfl⟩, by rw [← h2.length]; exact q _ H (Same.refl H) rfl⟩
  · cases hz

/-! ### isinstance of a built-in type -/
def tyD : D → String
  | .non => "NoneType"
  | .bl _ => "bool"
  | .int _ => "int"
  | .str _ => "str"
  | .tup _ => "tuple"
  | .lst _ => "list"
theorem tyX_of {K : PySem.W.Frag} {H : Hp} {d : D} {v : V} (r : Rp K H d v) : TyX K H v (.type (tyD d)) := by
  cases d with
  | non => cases r; exact .base .non
  | bl b => cases r; exact .base (.bl b)
  | int b => cases r; exact .base (.int b)
  | str b => cases r; exact .base (.str _)
  | tup b =>
    obtain ⟨a, xs, rfl, h, _⟩ := r
    rcases h with (h | ⟨o, h⟩) | ⟨o, _, _, h, c, _⟩
    · exact .base (.tup h)
    · exact .fTuple h
    · exact .kTuple h c
  | lst b =>
    obtain ⟨a, xs, rfl, h, _⟩ := r
    rcases h with (h | ⟨o, h⟩) | ⟨o, _, _, h, c, _⟩
    · exact .base (.lst h)
    · exact .base (.frz h)
    · exact .kList h c
def isiO (T : String) : D → Option D
  | .non => some (.bl false)
  | .bl _ => some (.bl (T == "bool" || T == "int"))
  | .int _ => some (.bl (T == "int"))
  | .str _ => some (.bl (T == "str"))
  | .tup _ => some (.bl (T == "tuple"))
  | .lst _ => some (.bl (T == "list"))
/-- the answers of the built-in types -/
def kitAll (T : String) : Bool := decide (kitB "NoneType" T = some false) && decide (kitB "bool" T = some (T == "bool" || T == "int")) && decide (kitB "int" T = some (T == "int")) && decide (kitB "str" T = some (T == "str")) && decide (kitB "tuple" T = some (T == "tuple")) && decide (kitB "list" T = some (T == "list"))
theorem kit_str : kitAll "str" = true := by decide +kernel
theorem kit_int : kitAll "int" = true := by decide +kernel
theorem kit_bool : kitAll "bool" = true := by decide +kernel
theorem kit_tuple : kitAll "tuple" = true := by decide +kernel
theorem pd_isi (T : String) {x : Str} {p2 : Pos} (hT : kitAll T = true) (hm : X.mg "isinstance" = none) (hx : X.mg x = none) (hb : bootBuiltins x = some (.type T)) (ha : PE X a (tD X.K W f)) (hg : Gl X "isinstance" := by rfl) (hg2 : Gl X x := by rfl)
    (hn : x ≠ "__name__" := by decide) (hdb : (x == ("__debug__" : Str)) = false := by decide) (he : starEach [a, .Name x p2] X.env = (false, eval a X.env) :: starEach [.Name x p2] X.env := by rfl) (he2 : starEach [.Name x p2] X.env = (false, eval (.Name x p2) X.env) :: starEach [] X.env := by rfl)
    (hpl : (backTo pos (starEach [.Name x p2] X.env)).any (·.1) = false := by rfl) :
    PE X (.Call (.Name "isinstance" p) [a, .Name x p2] [] pos) (tD X.K W (uopF (isiO T) f)) := by
  have hb2 : PE X (.Name x p2) (tC (.ty T)) := pe_bltn hg2 hx hb rfl hn hdb
  refine PE.weak (pe_callB call_isi hg hm PyProof.Rows.boot_isinstance (pa_cons ha (pa_cons hb2 pa_nil he2) he) (by decide) (by decide) he hpl) ?_
  rintro σ H Q ⟨e, he, hf⟩
  refine ⟨e, he, ?_⟩
  unfold uopF at hf
  cases h1 : f e with
  | bad => rw [h1] at hf; exact hf
  | exc c => rw [h1] at hf; exact hf
  | ok d =>
    rw [h1, rb_ok] at hf
    intro v H1 s1 r1
    unfold kitAll at hT
    simp only [Bool.and_eq_true, decide_eq_true_eq] at hT
    obtain ⟨⟨⟨⟨⟨k1, k2⟩, k3⟩, k4⟩, k5⟩, k6⟩ := hT
    have key : ∀ b, isiO T d = some (.bl b) → kitB (tyD d) T = some b → rIsi X.K [v, .ty T] H1 Q := fun b h2 h3 => by
      refine ⟨v, .ty T, .type (tyD d), .type T, b, rfl, .ty T, tyX_of r1, kit_ty h3, ?_⟩
      rw [h2] at hf
      exact hf _ H1 s1 rfl
    cases d with
    | non => exact key _ rfl k1
    | bl b => exact key _ rfl k2
    | int b => exact key _ rfl k3
    | str b => exact key _ rfl k4
    | tup b => exact key _ rfl k5
    | lst b => exact key _ rfl k6

/-! ### all, tuple, list -/
def blsO : List D → Option (List Bool)
  | [] => some []
  | .bl b :: r => (blsO r).map (b :: ·)
  | _ :: _ => none
theorem blsO_vals {K : PySem.W.Frag} {H : Hp} : ∀ {ds : List D} {vs : List V} {bs : List Bool}, RpAll K H ds vs → blsO ds = some bs → vs = bs.map V.bl
  | [], _, _, h, e => by cases h; simp [blsO] at e; subst e; rfl
  | d :: ds, _, bs, h, e => by
    obtain ⟨v, r, rfl, h1, h2⟩ := h
    cases d with
    | bl b =>
      simp only [blsO] at e
      cases q : blsO ds with
      | none => rw [q] at e; cases e
      | some cs =>
        rw [q] at e
        cases e
        cases h1
        rw [blsO_vals h2 q]
        rfl
    | _ => simp [blsO] at e
def allO : List D → Option D
  | [.lst l] => (blsO l).map fun bs => .bl (bs.all id)
  | _ => none
theorem pd_all (hc : X.calm = true) (hm : X.mg "all" = none) (ha : PA X (e :: es) (tDs X.K W fa)) (hg : Gl X "all" := by rfl) (he : starEach (e :: es) X.env = (false, eval e X.env) :: starEach es X.env := by rfl) (hpl : (backTo pos (starEach es X.env)).any (·.1) = false := by rfl) :
    PE X (.Call (.Name "all" p) (e :: es) [] pos) (tD X.K W (callF allO fa)) := by
  refine pd_callB (cr_all hc) (fun xs H Q ds z r hz q => ?_) hm (by decide +kernel) ha hg (by decide) (by decide) he hpl
  unfold allO at hz
  split at hz
  · rename_i l
    obtain ⟨v, r, rfl, ⟨b, xs, rfl, h1, h2⟩, rr⟩ := r
    cases rr
    cases hb : blsO l with
    | none => rw [hb] at hz; cases hz
    | some bs =>
      rw [hb] at hz
      cases hz
      have := blsO_vals h2 hb
      subst this
      exact ⟨b, bs, rfl, h1, q _ H (Same.refl H) rfl⟩
  · cases hz
def tupleO : List D → Option D
  | [.lst l] => some (.tup l)
  | [.tup l] => some (.tup l)
  | _ => none
theorem pd_tuple (hm : X.mg "tuple" = none) (ha : PA X (e :: es) (tDs X.K W fa)) (hg : Gl X "tuple" := by rfl) (he : starEach (e :: es) X.env = (false, eval e X.env) :: starEach es X.env := by rfl) (hpl : (backTo pos (starEach es X.env)).any (·.1) = false := by rfl) :
    PE X (.Call (.Name "tuple" p) (e :: es) [] pos) (tD X.K W (callF tupleO fa)) := by
  refine pd_callTy call_tuple_of (fun xs H Q ds z r hz q => ?_) hm (by decide +kernel) ha hg (by decide) (by decide) he hpl
  unfold tupleO at hz
  split at hz
  · obtain ⟨v, r, rfl, ⟨b, xs, rfl, h1, h2⟩, rr⟩ := r
    cases rr; cases hz
    exact ⟨b, xs, rfl, .inl ⟨h1, fun l hl => q _ _ (same_new hl) ⟨l, xs, rfl, SqT.of upd_same, h2.mono (same_new hl)⟩⟩⟩
  · obtain ⟨v, r, rfl, ⟨b, xs, rfl, h1, h2⟩, rr⟩ := r
    cases rr; cases hz
    exact ⟨b, xs, rfl, .inr ⟨h1, q _ H (Same.refl H) ⟨b, xs, rfl, h1, h2⟩⟩⟩
  · cases hz
def listO : List D → Option (List D)
  | [.lst l] => some l
  | [.tup l] => some l
  | _ => none
theorem pn_list (hm : X.mg "list" = none) (ha : PA X (e :: es) (tDs X.K W fa)) (hg : Gl X "list" := by rfl) (he : starEach (e :: es) X.env = (false, eval e X.env) :: starEach es X.env := by rfl) (hpl : (backTo pos (starEach es X.env)).any (·.1) = false := by rfl) :
    PE X (.Call (.Name "list" p) (e :: es) [] pos) (tN X.K W (callF listO fa)) := by
  refine pn_callTy call_list_of (fun xs H Q ds z r hz q => ?_) hm (by decide +kernel) ha hg (by decide) (by decide) he hpl
  unfold listO at hz
  split at hz
  · obtain ⟨v, r, rfl, ⟨b, xs, rfl, h1, h2⟩, rr⟩ := r
    cases rr; cases hz
    exact ⟨b, xs, rfl, .inl h1, fun l hl => q l xs _ hl (same_new hl) upd_same (h2.mono (same_hide1 hl))⟩
  · obtain ⟨v, r, rfl, ⟨b, xs, rfl, h1, h2⟩, rr⟩ := r
    cases rr; cases hz
    exact ⟨b, xs, rfl, .inr h1, fun l hl => q l xs _ hl (same_new hl) upd_same (h2.mono (same_hide1 hl))⟩
  · cases hz

/-! ### methods of texts -/
def lowO : D → Option D
  | .str l => if l.length ≤ 5592405 ∧ l.all (· < 128) = true then some (.str (l.map lo1)) else none
  | _ => none
def uppO : D → Option D
  | .str l => if l.length ≤ 5592405 ∧ l.all (· < 128) = true then some (.str (l.map up1)) else none
  | _ => none
theorem tD_m0 {K : PySem.W.Frag} {r : V → List V → Hp → VK → Prop} {g : D → Option D} (hg : ∀ l H (Q : VK) z, g (.str l) = some z → (∀ v H', Same H H' → Rp K H' z v → Q v H') → r (.str (S l)) [] H Q) (hs : ∀ d z, g d = some z → ∃ l, d = .str l) : ∀ σ H Q, tD K W (uopF g f) σ H Q → tM0 r (tD K W f) σ H Q := by
  rintro σ H Q ⟨e, he, hf⟩
  refine ⟨e, he, ?_⟩
  unfold uopF at hf
  cases h1 : f e with
  | bad => rw [h1] at hf; exact hf
  | exc c => rw [h1] at hf; exact hf
  | ok d =>
    rw [h1, rb_ok] at hf
    intro v H1 s1 r1
    cases h3 : g d with
    | none => rw [h3] at hf; exact hf.elim
    | some z =>
      rw [h3] at hf
      obtain ⟨l, rfl⟩ := hs d z h3
      cases r1
      exact ⟨⟨_, rfl⟩, hg l H1 Q z h3 fun v3 H3 s3 r3 => hf v3 H3 (s1.trans s3) r3⟩
theorem pd_lower (ha : PE X a (tD X.K W f)) (hbase : attributeBase a "lower" X.env (eval a X.env) = eval a X.env := by rfl) (hline : (apos.endLine == pos.line) = true := by rfl) : PE X (.Call (.Attribute a "lower" apos) [] [] pos) (tD X.K W (uopF lowO f)) := by
  refine PE.weak (pe_lower ha hbase hline) (tD_m0 (fun l H Q z hz q => ?_) fun d z hz => ?_)
  · simp only [lowO] at hz
    split at hz
    · rename_i hl
      cases hz
      refine ⟨S l, rfl, rfl, by simpa [Str.length] using hl.1, q _ H (Same.refl H) ?_⟩
      show V.str (Txt.lower (S l)) = V.str (S (l.map lo1))
      rw [lower_ascii (by simpa using hl.2)]
      simp [S]
    · cases hz
  · cases d <;> simp [lowO] at hz
    exact ⟨_, rfl⟩
theorem pd_upper (ha : PE X a (tD X.K W f)) (hbase : attributeBase a "upper" X.env (eval a X.env) = eval a X.env := by rfl) (hline : (apos.endLine == pos.line) = true := by rfl) : PE X (.Call (.Attribute a "upper" apos) [] [] pos) (tD X.K W (uopF uppO f)) := by
  refine PE.weak (pe_upper ha hbase hline) (tD_m0 (fun l H Q z hz q => ?_) fun d z hz => ?_)
  · simp only [uppO] at hz
    split at hz
    · rename_i hl
      cases hz
      refine ⟨S l, rfl, rfl, by simpa [Str.length] using hl.1, q _ H (Same.refl H) ?_⟩
      show V.str (Txt.upper (S l)) = V.str (S (l.map up1))
      rw [upper_ascii (by simpa using hl.2)]
      simp [S]
    · cases hz
  · cases d <;> simp [uppO] at hz
    exact ⟨_, rfl⟩
def strsO : List D → Option (List (List Nat))
  | [] => some []
  | .str l :: r => (strsO r).map (l :: ·)
  | _ :: _ => none
theorem strsO_vals {K : PySem.W.Frag} {H : Hp} : ∀ {ds : List D} {vs : List V} {ls : List (List Nat)}, RpAll K H ds vs → strsO ds = some ls → vs = (ls.map S).map V.str
  | [], _, _, h, e => by cases h; simp [strsO] at e; subst e; rfl
  | d :: ds, _, bs, h, e => by
    obtain ⟨v, r, rfl, h1, h2⟩ := h
    cases d with
    | str b =>
      simp only [strsO] at e
      cases q : strsO ds with
      | none => rw [q] at e; cases e
      | some cs =>
        rw [q] at e
        cases e
        cases h1
        rw [strsO_vals h2 q]
        rfl
    | _ => simp [strsO] at e
/-- "".join of a list of texts -/
def joinO : D → D → Option D
  | .str [], .lst ds => match strsO ds with
    | some ls => if ls.flatten.length ≤ 16777216 then some (.str ls.flatten) else none
    | none => none
  | _, _ => none
def isS : D → Bool
  | .str _ => true
  | _ => false
/-- a method of a text with one argument -/
def bopS (g : D → D → Option D) (fa fb : En → Res D) : En → Res D := fun e => rb (fa e) fun x => if isS x then rb (fb e) fun y => ofO (g x y) else .bad
theorem join_empty : ∀ ls : List (List Nat), Str.join (S []) (ls.map S) = S ls.flatten
  | [] => rfl
  | [l] => by simp [Str.join]
  | l :: m :: r => by
    have ih := join_empty (m :: r)
    simp only [List.map_cons, Str.join] at ih ⊢
    rw [ih]
    show Str.append (Str.append (S l) (S [])) (S (m :: r).flatten) = _
    simp [Str.append, S]
theorem pd_join (ha : PE X a (tD X.K W f)) (hb : PE X e (tD X.K W fb)) (hs : starEach [e] X.env = [(false, eval e X.env)] := by rfl) (hbase : attributeBase a "join" X.env (eval a X.env) = eval a X.env := by rfl) (hline : (apos.endLine == pos.line) = true := by rfl) :
    PE X (.Call (.Attribute a "join" apos) [e] [] pos) (tD X.K W (bopS joinO f fb)) := by
  refine PE.weak (pe_join ha hb hs hbase hline) ?_
  rintro σ H Q ⟨e, he, hf⟩
  refine ⟨e, he, ?_⟩
  unfold bopS at hf
  cases h1 : f e with
  | bad => rw [h1] at hf; exact hf
  | exc c => rw [h1] at hf; exact hf
  | ok d =>
    rw [h1, rb_ok] at hf
    intro v H1 s1 r1
    by_cases hS : isS d = true
    rotate_left
    · rw [if_neg hS] at hf; exact hf.elim
    rw [if_pos hS] at hf
    cases h2 : fb e with
    | bad => rw [h2] at hf; exact hf.elim
    | exc c =>
      rw [h2] at hf
      cases d with
      | str l => cases r1; exact ⟨⟨_, rfl⟩, e, he.mono s1, by rw [h2]; exact fun H' q => hf H' (s1.trans q)⟩
      | _ => cases hS
    | ok d2 =>
      rw [h2, rb_ok] at hf
      cases h3 : joinO d d2 with
      | none => rw [h3] at hf; exact hf.elim
      | some z =>
        rw [h3] at hf
        unfold joinO at h3
        split at h3
        · rename_i ds
          cases r1
          refine ⟨⟨_, rfl⟩, e, he.mono s1, ?_⟩
          rw [h2]
          intro v2 H2 s2 r2
          cases h4 : strsO ds with
          | none => rw [h4] at h3; cases h3
          | some ls =>
            rw [h4] at h3
            simp only at h3
            split at h3
            · rename_i hl
              cases h3
              obtain ⟨b, xs, rfl, q1, q2⟩ := r2
              have := strsO_vals q2 h4
              subst this
              refine ⟨S [], b, ls.map S, rfl, rfl, .inl q1, ?_, hf _ H2 (s1.trans s2) ?_⟩
              · have e1 : ((ls.map S).map (·.length)).sum = ls.flatten.length := by
                  rw [List.length_flatten, List.map_map]
                  congr 1
                  all_goals (first | done | exact List.map_congr_left fun l _ => by simp [Str.length])
                rw [e1]
                simpa [Str.length] using hl
              · show V.str (Txt.join (S []) (ls.map S)) = V.str (S ls.flatten)
                have e2 : Txt.join (S []) (ls.map S) = Str.join (S []) (ls.map S) := PySem.StrLaws.glued_eq_join _ _
                rw [e2, join_empty]
            · cases h3
        · cases h3
end
end FM

set_option Elab.async false
set_option linter.all false
set_option maxRecDepth 100000
/-! FM7: a, b = x, y; a module's texts; stores into own lists. -/
namespace FM
open PySem PySem.Spec PyProof.Rows L2
section
variable {K : PySem.W.Frag} {X : Cx} {W : Wx} {a b : Expr} {fa : En → Res (List D)} {f : En → Res D} {p pos : Pos}
/-- a text that stands at a name of the module -/
theorem pd_glob (l : List Nat) {x : Str} (hm : ∃ t, X.mg x = some (.str (S l) t)) (hg : Gl X x := by rfl) (hd : (x == ("__debug__" : Str)) = false := by decide) : PE X (.Name x pos) (tD X.K W (cD (.str l))) := by
  obtain ⟨t, hm⟩ := hm
  exact PE.weak (pe_glob hg hm (v := .str (S l)) ⟨t, rfl⟩ hd) (tD_const fun _ _ => rfl)
/-- a, b = x, y (locals) -/
def parS (i j : Nat) (f : En → Res (List D)) : En → Res Fl := fun e => rb (f e) fun ds => match ds with
  | [d, d'] => rb (setN i d e) fun e1 => nxS (setN j d' e1)
  | _ => .bad
theorem par_D {i j : Nat} : ∀ Z σ H, tS K W (parS i j fa) Z σ H → tPar i j (tDs K W fa) Z σ H := by
  rintro Z σ H ⟨G, e, he, hf⟩
  refine ⟨e, he.env, ?_⟩
  unfold parS at hf
  cases h1 : fa e with
  | bad => rw [h1] at hf; exact hf
  | exc c => rw [h1] at hf; exact fun H' s => hf σ H' (he.same.trans s)
  | ok ds =>
    rw [h1, rb_ok] at hf
    intro vs H1 s1 r1
    match ds, hf with
    | [d, d'], hf =>
      obtain ⟨v, r, rfl, rv, v2, r2, rfl, rv2, rr⟩ := r1
      cases rr
      refine ⟨v, v2, rfl, ?_⟩
      simp only at hf
      unfold setN at hf
      split at hf
      · rename_i hl
        rw [rb_ok] at hf
        split at hf
        · rename_i hl2
          have h2 := (he.keep s1).setD i hl rv
          have h3 := h2.setD j hl2 rv2
          exact hf _ H1 h3
        · exact hf.elim
      · exact hf.elim
    | [], hf => exact hf.elim
    | [_], hf => exact hf.elim
    | _ :: _ :: _ :: _, hf => exact hf.elim
theorem pds_par (i j : Nat) {x y : Str} {px py pt : Pos} {kt k2 pt2} (hc : X.calm = true) (hN : X.N.Nodup) (ha : PA X [a, b] (tDs X.K W fa)) (hi : X.N[i]? = some x := by rfl) (hj : X.N[j]? = some y := by rfl) (hij : i ≠ j := by decide)
    (hx : X.env.scope.names.lookup x = some .local := by rfl) (hy : X.env.scope.names.lookup y = some .local := by rfl) 
    (hw : swappedStores [.Tuple [.Name x px, .Name y py] kt pt] (.Tuple [a, b] k2 pt2) X.env = pure (some [x, y]) := by rfl)
    (hs : swapsWithSole [.Tuple [.Name x px, .Name y py] kt pt] (.Tuple [a, b] k2 pt2) pos.line X.env = pure false := by rfl) :
    PS X (.Assign [.Tuple [.Name x px, .Name y py] kt pt] (.Tuple [a, b] k2 pt2) pos) (tS X.K W (parS i j fa)) := PS.weak (ps_par hc hN hi hj hij hx hy ha hw hs) par_D

/-! ### stores into what a name owns -/
/-- name.append(e) -/
def appS (i : Nat) (f : En → Res D) : En → Res Fl := fun e => match e[i]? with
  | some (.own xs) => rb (f e) fun d => if d.lf ∧ xs.length < sizeLine then .ok (.nx (e.set i (.own (xs ++ [d])))) else .bad
  | _ => .bad
theorem app_D {i : Nat} : ∀ Z σ H, tS K W (appS i f) Z σ H → tDrop (tBM K "list" rAppend (tVar i) (tCons (tD K W f) tNil)) Z σ H := by
  rintro Z σ H ⟨G, e, he, hf⟩
  unfold appS at hf
  split at hf
  · rename_i xs hx
    obtain ⟨c, vs, e1, e2, e3⟩ := he.at_ i _ hx
    refine ⟨.ref c, e1, .inl ⟨rfl, vs, SqL.of e2⟩, e, he.env, ?_⟩
    cases h1 : f e with
    | bad => rw [h1] at hf; exact hf
    | exc c => rw [h1] at hf; exact fun H' s => hf σ H' (he.same.trans s)
    | ok d =>
      rw [h1, rb_ok] at hf
      intro v H1 s1 r1
      split at hf
      · rename_i hl
        have he1 := he.keep s1
        have l := e3.length
        refine ⟨c, vs, v, rfl, rfl, s1.keep _ _ e2 (fun _ z => nomatch z), by omega, hf σ _ (he1.chg i hx rfl rfl e1 ⟨c, vs ++ [v], rfl, upd_same, ?_⟩)⟩
        have r2 := he.lift s1 (by rw [hl.1]; rfl) r1
        exact (e3.mono (he.hide_mono s1)).append ⟨v, [], rfl, r2, rfl⟩
      · exact hf.elim
  · exact hf.elim
theorem pds_app (i : Nat) {x : Str} {px apos cpos : Pos} (he : PE X a (tD X.K W f)) (hN : X.N[i]? = some x := by rfl) (hv : Vis X.env.scope x := by first | exact Or.inl rfl | exact Or.inr (Or.inl rfl) | exact Or.inr (Or.inr rfl)) (hd : (x == ("__debug__" : Str)) = false := by decide) (hcd : (x == ("__classdict__" : Str)) = false := by decide)
    (hbase : attributeBase (.Name x px) "append" X.env (eval (.Name x px) X.env) = eval (.Name x px) X.env := by rfl)
    (hfew : ((backTo cpos (starEach [a] X.env)).all (fun x => !x.1) && (backToKw cpos (keywordEach [] X.env)).all (fun x => x.1.isSome) && decide ([a].length + ([] : List Keyword).length + (if ([] : List Keyword).isEmpty then 0 else 1) < 30)) = true := by rfl)
    (hline : (apos.endLine == cpos.line) = true := by rfl) (hs : starEach [a] X.env = (false, eval a X.env) :: starEach [] X.env := by rfl) (hplain : (backTo cpos (starEach [] X.env)).any (·.1) = false := by rfl)
    (hsw : swapsWith (.Call (.Attribute (.Name x px) "append" apos) [a] [] cpos) none pos.line X.env = pure false := by rfl) :
    PS X (.Expr (.Call (.Attribute (.Name x px) "append" apos) [a] [] cpos) pos) (tS X.K W (appS i f)) :=
  PS.weak (ps_expr (pe_bm PySem.F.plainAttrs_list PySem.F.slot_list_append PySem.F.type_list_append mt_append (pe_var hN hv hd hcd) (pa_cons he pa_nil hs) hbase hfew hline hs hplain) hsw) app_D
/-- name.extend(a new list) -/
def extS (i : Nat) (f : En → Res (List D)) : En → Res Fl := fun e => match e[i]? with
  | some (.own xs) => rb (f e) fun ds => if lfAll ds ∧ xs.length + ds.length ≤ sizeLine then .ok (.nx (e.set i (.own (xs ++ ds)))) else .bad
  | _ => .bad
theorem ext_D {i : Nat} : ∀ Z σ H, tS K W (extS i fa) Z σ H → tDrop (tBM K "list" rExtend (tVar i) (tCons (tN K W fa) tNil)) Z σ H := by
  rintro Z σ H ⟨G, e, he, hf⟩
  unfold extS at hf
  split at hf
  · rename_i xs hx
    obtain ⟨c, vs, e1, e2, e3⟩ := he.at_ i _ hx
    refine ⟨.ref c, e1, .inl ⟨rfl, vs, SqL.of e2⟩, e, he.env, ?_⟩
    cases h1 : fa e with
    | bad => rw [h1] at hf; exact hf
    | exc c => rw [h1] at hf; exact fun H' s => hf σ H' (he.same.trans s)
    | ok ds =>
      rw [h1, rb_ok] at hf
      intro b ws H1 nb s1 eb r1
      split at hf
      · rename_i hl
        have he1 := he.keep s1
        have l := e3.length
        have l2 := r1.length
        refine ⟨c, b, vs, ws, rfl, rfl, s1.keep _ _ e2 (fun _ z => nomatch z), eb, by omega, hf σ _ (he1.chg i hx rfl rfl e1 ⟨c, vs ++ ws, rfl, upd_same, ?_⟩)⟩
        have r2 := he.liftAll s1 (by rw [hl.1]; rfl) (r1.mono (hide_same _))
        exact (e3.mono (he.hide_mono s1)).append r2
      · exact hf.elim
  · exact hf.elim
theorem pds_ext (i : Nat) {x : Str} {px apos cpos : Pos} (he : PE X a (tN X.K W fa)) (hN : X.N[i]? = some x := by rfl) (hv : Vis X.env.scope x := by first | exact Or.inl rfl | exact Or.inr (Or.inl rfl) | exact Or.inr (Or.inr rfl)) (hd : (x == ("__debug__" : Str)) = false := by decide) (hcd : (x == ("__classdict__" : Str)) = false := by decide)
    (hbase : attributeBase (.Name x px) "extend" X.env (eval (.Name x px) X.env) = eval (.Name x px) X.env := by rfl)
    (hfew : ((backTo cpos (starEach [a] X.env)).all (fun x => !x.1) && (backToKw cpos (keywordEach [] X.env)).all (fun x => x.1.isSome) && decide ([a].length + ([] : List Keyword).length + (if ([] : List Keyword).isEmpty then 0 else 1) < 30)) = true := by rfl)
    (hline : (apos.endLine == cpos.line) = true := by rfl) (hs : starEach [a] X.env = (false, eval a X.env) :: starEach [] X.env := by rfl) (hplain : (backTo cpos (starEach [] X.env)).any (·.1) = false := by rfl)
    (hsw : swapsWith (.Call (.Attribute (.Name x px) "extend" apos) [a] [] cpos) none pos.line X.env = pure false := by rfl) :
    PS X (.Expr (.Call (.Attribute (.Name x px) "extend" apos) [a] [] cpos) pos) (tS X.K W (extS i fa)) :=
  PS.weak (ps_expr (pe_bm PySem.F.plainAttrs_list PySem.F.slot_list_extend PySem.F.type_list_extend mt_extend (pe_var hN hv hd hcd) (pa_cons he pa_nil hs) hbase hfew hline hs hplain) hsw) ext_D
/-- name[k] = e -/
def stoS (i : Nat) (fk f : En → Res D) : En → Res Fl := fun e => match e[i]? with
  | some (.own xs) => rb (f e) fun d => rb (fk e) fun k => match k with
    | .int j => (match ixN xs.length j with
      | some m => if d.lf then .ok (.nx (e.set i (.own (xs.set m d)))) else .bad
      | none => .bad)
    | _ => .bad
  | _ => .bad
theorem sto_D {i : Nat} {fk : En → Res D} : ∀ Z σ H, tS K W (stoS i fk f) Z σ H → tAsg (tD K W f) (gSub (tVar i) (tD K W fk) rSetL) Z σ H := by
  rintro Z σ H ⟨G, e, he, hf⟩
  unfold stoS at hf
  split at hf
  · rename_i xs hx
    obtain ⟨c, vs, e1, e2, e3⟩ := he.at_ i _ hx
    refine st_expr he hf fun d v H1 _ s1 r1 hk => ?_
    have he1 := he.keep s1
    refine ⟨.ref c, e1, st_expr he1 hk fun k u H2 _ s2 r2 hk2 => ?_⟩
    cases k with
    | int j =>
      cases r2
      simp only at hk2
      split at hk2
      · rename_i m hm
        split at hk2
        · rename_i hl
          have he2 := he1.keep s2
          have l := e3.length
          refine ⟨c, vs, j, m, rfl, rfl, s2.keep _ _ (s1.keep _ _ e2 (fun _ z => nomatch z)) (fun _ z => nomatch z), by rw [← l]; exact hm, hk2 σ _ (he2.chg i hx rfl rfl e1 ⟨c, vs.set m v, rfl, upd_same, ?_⟩)⟩
          have r3 := he.lift (s1.trans s2) (d := d) (by rw [hl]; rfl) (r1.mono s2)
          exact (e3.mono (he.hide_mono (s1.trans s2))).set m r3
        · exact hk2.elim
      · exact hk2.elim
    | _ => exact (hk2 : False).elim
  · exact hf.elim
theorem pds_sto (i : Nat) {x : Str} {px spos : Pos} {fk : En → Res D} (he : PE X a (tD X.K W f)) (hk : PE X b (tD X.K W fk)) (hN : X.N[i]? = some x := by rfl) (hv : Vis X.env.scope x := by first | exact Or.inl rfl | exact Or.inr (Or.inl rfl) | exact Or.inr (Or.inr rfl)) (hd : (x == ("__debug__" : Str)) = false := by decide) (hcd : (x == ("__classdict__" : Str)) = false := by decide)
    (ha : ∀ v, assign (.Subscript (.Name x px) b spos) X.env v = (do
      let ov ← holding [v] (eval (.Name x px) X.env)
      let iv ← holding [v, ov] (eval b X.env)
      standAt spos
      holding [v, ov, iv] (setItem ov iv v)
      release [v, ov, iv] []) := by intro _; rfl)
    (hs : swapsWithSole [.Subscript (.Name x px) b spos] a pos.line X.env = pure false := by rfl) (hw : swappedStores [.Subscript (.Name x px) b spos] a X.env = pure none := by rfl) (h1 : (assignEach [.Subscript (.Name x px) b spos] X.env).map (·.2) = [assign (.Subscript (.Name x px) b spos) X.env] := by rfl) :
    PS X (.Assign [.Subscript (.Name x px) b spos] a pos) (tS X.K W (stoS i fk f)) := PS.weak (ps_asg he (pg_sub (pe_var hN hv hd hcd) hk set_list ha) hs hw h1) sto_D
/-- return name, the name owns a list -/
theorem pds_retO (i : Nat) {x : Str} {px : Pos} (hN : X.N[i]? = some x := by rfl) (hv : Vis X.env.scope x := by first | exact Or.inl rfl | exact Or.inr (Or.inl rfl) | exact Or.inr (Or.inr rfl)) (hd : (x == ("__debug__" : Str)) = false := by decide) (hcd : (x == ("__classdict__" : Str)) = false := by decide) :
    PS X (.Return (some (.Name x px)) pos) (tS X.K W (retO i)) := by
  refine PS.weak (ps_ret (pe_var hN hv hd hcd)) ?_
  rintro Z σ H ⟨G, e, he, hf⟩
  unfold retO at hf
  split at hf
  · rename_i xs hx
    obtain ⟨c, vs, e1, e2, e3⟩ := he.at_ i _ hx
    refine ⟨.ref c, e1, ?_⟩
    have oc : owns σ e c := ⟨i, _, hx, rfl, e1⟩
    refine hf c vs H ?_ he.same e2 ?_
    · exact he.g.free (hide_yes oc)
    · refine e3.mono (hide_sub fun b hb => ?_)
      subst hb
      exact oc
  · exact hf.elim
end
end FM

set_option Elab.async false
set_option linter.all false
set_option maxRecDepth 100000
/-! FM8: how many rules are in a tuple, by a set of at most four tuples of ints and texts. -/
namespace FM
open PySem PySem.Spec PyProof.Rows L2
def keyO : D → Option Key
  | .int i => some (.inl i)
  | .str l => some (.inr (S l))
  | _ => none
def keysO : D → Option (List Key)
  | .tup ds => ds.mapM keyO
  | _ => none
/-- the members of a set, in the order in which they came -/
noncomputable def addAll : List (List Key) → List (List Key) → List (List Key)
  | acc, [] => acc
  | acc, k :: r => addAll (open Classical in if k ∈ acc then acc else acc ++ [k]) r
noncomputable def lenSetR : D → Option D
  | .tup ds => match ds.mapM keysO with
    | some ks => if ks.length ≤ 4 then some (.int ((addAll [] ks).length : Nat)) else none
    | none => none
  | _ => none
section
variable {P : Program} {w : World} {A : Around} {E : Value → Shared → Prop} {s : Shared}
abbrev kh (P : Program) (w : World) (k : List Key) : Int := tupleKeyHash (mixKind P w) k
abbrev IsK (P : Program) (w : World) (h : Heap) (k : List Key) (a : Addr) : Prop := IsTupleKey (mixKind P w) h k a
/-- a value without an address -/
def plainV : Value → Bool
  | .int .. => true
  | .str .. => true
  | _ => false
theorem items_plain {k : List Key} {vs : List Value} (h : ItemsAre (mixKind P w) k vs) : ∀ v ∈ vs, plainV v = true := by
  induction h with
  | nil => intro v hv; cases hv
  | cons h1 _ ih =>
    intro v hv
    rcases List.mem_cons.mp hv with rfl | hv
    · rcases keyIs_shape h1 with ⟨i, t, _, rfl⟩ | ⟨x, t, _, rfl⟩ <;> rfl
    · exact ih v hv
theorem class_plain (n : Nat) {v : Value} (h : plainV v = true) : ofAClassStatement n v = pure false := by
  cases v with
  | int i t => cases n <;> rfl
  | str i t => cases n <;> rfl
  | _ => cases h
theorem byv_plain (n : Nat) {v : Value} (h : plainV v = true) : ∃ b, hashByValue n v = pure b := by
  cases v with
  | int i t => cases n <;> exact ⟨_, rfl⟩
  | str i t => cases n <;> exact ⟨_, rfl⟩
  | _ => cases h
theorem class_tup {k : List Key} {b : Addr} {Q : Bool → Shared → Prop} (hk : IsK P w s.heap k b) (h : Q false s) : wpAny (model P w) A (ofAClassStatement 8 (.ref b)) Q E s := by
  have hT := hk.typeIs
  obtain ⟨o, items, n, ho, _, hd, hi⟩ := hk
  unfold ofAClassStatement
  refine wpAny_bind (wpAny_typeOf hT ?_)
  dsimp only
  have e : (("tuple" : String) == "tuple") = true := by decide
  simp only [e, if_true, Bool.not_true, Bool.false_eq_true, if_false]
  try refine wpAny_bind (wpAny_pure ?_)
  try simp only [Bool.not_true, Bool.false_eq_true, if_false]
  refine wpAny_bind (wpAny_seqItems ho hd ?_)
  refine wpAny_bind ?_
  show wpAny _ _ (forIn items _ _) _ _ s
  rw [← Array.forIn_toList]
  refine wpAny_forIn_list _ (fun rest r s' => r.1 = none ∧ s' = s ∧ ∀ v ∈ rest, plainV v = true) _ ?_ ?_ _ _ ⟨rfl, rfl, items_plain hi⟩
  · rintro v rest r s' ⟨hr, rfl, hall⟩
    rw [class_plain 7 (hall v List.mem_cons_self)]
    refine wpAny_bind (wpAny_pure ?_)
    simp only [Bool.false_eq_true, if_false]
    exact wpAny_pure ⟨rfl, rfl, fun u hu => hall u (List.mem_cons_of_mem _ hu)⟩
  · rintro ⟨r1, r2⟩ s' ⟨hr, rfl, _⟩
    simp only at hr
    subst hr
    exact wpAny_pure h
theorem byv_tup {k : List Key} {b : Addr} {Q : Bool → Shared → Prop} (hk : IsK P w s.heap k b) (h : ∀ y, Q y s) : wpAny (model P w) A (hashByValue 8 (.ref b)) Q E s := by
  have hT := hk.typeIs
  obtain ⟨o, items, n, ho, _, hd, hi⟩ := hk
  unfold hashByValue
  refine wpAny_bind (wpAny_specialOf hT F.slot_tuple_hash.lookup ?_)
  refine wpAny_bind (wpAny_seqItems ho hd ?_)
  refine wpAny_bind ?_
  show wpAny _ _ (forIn items _ _) _ _ s
  rw [← Array.forIn_toList]
  refine wpAny_forIn_list _ (fun rest r s' => (r.1 = none ∨ r.1 = some false) ∧ s' = s ∧ ∀ v ∈ rest, plainV v = true) _ ?_ ?_ _ _ ⟨.inl rfl, rfl, items_plain hi⟩
  · rintro v rest r s' ⟨hr, rfl, hall⟩
    obtain ⟨y, e⟩ := byv_plain 7 (hall v List.mem_cons_self)
    rw [e]
    refine wpAny_bind (wpAny_pure ?_)
    cases y with
    | false =>
      simp only [Bool.not_false, if_true]
      exact wpAny_pure (wpAny_pure (h _))
    | true =>
      simp only [Bool.not_true, Bool.false_eq_true, if_false]
      exact wpAny_pure ⟨.inl rfl, rfl, fun u hu => hall u (List.mem_cons_of_mem _ hu)⟩
  · rintro ⟨r1, r2⟩ s' ⟨hr, rfl, _⟩
    simp only at hr
    rcases hr with rfl | rfl <;> exact wpAny_pure (h _)
theorem unseen_tup {k : List Key} {b : Addr} {Q : Bool → Shared → Prop} (hk : IsK P w s.heap k b) {ys : List Value} (hy : ∀ y ∈ ys, ∃ k' c, y = Value.ref c ∧ IsK P w s.heap k' c) (h : Q false s) :
    wpAny (model P w) A (searchCouldBeSeen (.ref b) ys) Q E s := by
  unfold searchCouldBeSeen
  refine wpAny_bind ?_
  refine wpAny_forIn_list _ (fun rest r s' => r.1 = none ∧ s' = s ∧ ∀ y ∈ rest, ∃ k' c, y = Value.ref c ∧ IsK P w s.heap k' c) _ ?_ ?_ _ _ ⟨rfl, rfl, hy⟩
  · rintro v rest r s' ⟨hr, rfl, hall⟩
    obtain ⟨k', c, rfl, hc⟩ := hall v List.mem_cons_self
    have rest' : ∀ y ∈ rest, ∃ k' c, y = Value.ref c ∧ IsK P w s'.heap k' c := fun u hu => hall u (List.mem_cons_of_mem _ hu)
    dsimp only
    by_cases hv : (b == c || (carriedByValue (.ref b) && carriedByValue (.ref c))) = true
    · exact wp_if_pos hv (wpAny_pure ⟨rfl, rfl, rest'⟩)
    · refine wp_if_neg hv ?_
      refine wpAny_bind (wpAny_eqIsQuiet_tuple hk ?_)
      simp only [Bool.not_true, Bool.false_eq_true, if_false]
      refine wpAny_bind (wpAny_eqIsQuiet_tuple hc ?_)
      simp only [Bool.not_true, Bool.false_eq_true, if_false]
      refine wpAny_bind (class_tup hk ?_)
      simp only [Bool.false_eq_true, if_false]
      refine wpAny_bind (class_tup hc ?_)
      simp only [Bool.false_eq_true, if_false]
      exact wpAny_pure ⟨rfl, rfl, rest'⟩
  · rintro ⟨r1, r2⟩ s' ⟨hr, rfl, _⟩
    simp only at hr
    subst hr
    exact wpAny_pure h
/-- a small set of rules: never laid anew -/
structure Small (P : Program) (w : World) (h : Heap) (a : Addr) (L : List (Addr × List Key)) (es : Array (Int × Value)) (ep : Nat) (t : SetTable) : Prop where
  ob : ∃ o, h.get? a = some o ∧ o.ExactSet ∧ o.data = .set es ep t
  rows : es.toList = L.map fun p => (kh P w p.2, Value.ref p.1)
  tab : TabOk t (L.map fun p => kh P w p.2)
  tup : ∀ p ∈ L, IsK P w h p.2 p.1
  m7 : t.mask = 7
  few : L.length ≤ 4
variable {a : Addr} {L : List (Addr × List Key)} {es : Array (Int × Value)} {ep : Nat} {t : SetTable}
theorem Small.size {h : Heap} (R : Small P w h a L es ep t) : es.size = L.length := by
  have h := congrArg List.length R.rows
  simpa using h
theorem Small.fits {h : Heap} (R : Small P w h a L es ep t) : t.fits es.size = true := by
  have h1 := R.tab.sz
  have h2 := R.size
  have h3 := R.few
  have h4 := R.m7
  rw [List.length_map] at h1
  unfold SetTable.fits SetTable.fill
  rw [R.tab.dm, Bool.and_eq_true, beq_iff_eq, decide_eq_true_eq]
  show t.place.size = es.size ∧ t.place.size + 0 ≤ t.mask
  omega
theorem Small.entry {h : Heap} (R : Small P w h a L es ep t) {i : Nat} {p : Addr × List Key} (hp : L[i]? = some p) : es[i]? = some (kh P w p.2, Value.ref p.1) := by
  rw [← Array.getElem?_toList, R.rows, List.getElem?_map, hp]
  rfl
theorem Small.keep {h h' : Heap} (R : Small P w h a L es ep t) (hk : ∀ b o, h.get? b = some o → h'.get? b = some o) : Small P w h' a L es ep t := by
  obtain ⟨o, ho, r⟩ := R.ob
  exact ⟨⟨o, hk a o ho, r⟩, R.rows, R.tab, fun p hp => by
    obtain ⟨o, items, n, h1, h2⟩ := R.tup p hp
    exact ⟨o, items, n, hk _ o h1, h2⟩, R.m7, R.few⟩
/-- where the way stands after c steps -/
abbrev st (t : SetTable) (h : Int) (c : Nat) : SetTable.Probe := nth t.mask (runAt t.mask (SetTable.bits h % (t.mask + 1)) (SetTable.bits h)) c
theorem st_dummy (t : SetTable) (h : Int) (c : Nat) : (st t h c).dummy = none := by
  have key : ∀ (n : Nat) (p : SetTable.Probe), p.dummy = none → (nth t.mask p n).dummy = none := by
    intro n
    induction n with
    | zero => intro p h; exact h
    | succ n ih =>
      intro p h
      refine ih (adv t.mask p) ?_
      unfold adv
      split <;> exact h
  exact key c _ rfl
theorem st_add (t : SetTable) (h : Int) (c q : Nat) : nth t.mask (st t h c) q = st t h (c + q) := (nth_add t.mask c _ q).symm
/-- the search of a key: it is found, or the first free slot of its way is -/
theorem seek (R : Small P w s.heap a L es ep t) {x : Addr} {k : List Key} (hx : IsK P w s.heap k x) (hu : A.units < cLine) {K : Nat} (hKf : K < 10 * SetTable.turns t.mask)
    (hK : way t.mask (kh P w k) K ∉ t.place.toList) (hKb : ∀ c, c < K → way t.mask (kh P w k) c ∈ t.place.toList) {Q : SetFound → Shared → Prop}
    (hin : k ∈ L.map (·.2) → Q (.there none) s) (hout : k ∉ L.map (·.2) → Q (.free (way t.mask (kh P w k) K) false) s) :
    ∀ (f c : Nat) (at0 : Option SetTable.Probe), at0.getD (t.probeStart (kh P w k)) = st t (kh P w k) c → c ≤ K → K - c < f →
      (∀ (i : Nat) p, L[i]? = some p → p.2 = k → ∃ c', c ≤ c' ∧ c' < K ∧ t.place.toList[i]? = some (way t.mask (kh P w k) c')) →
      wpAny (model P w) A (setSearchFrom a (.ref x) (kh P w k) true f at0) Q E s := by
  obtain ⟨o, ho, hex, hd⟩ := R.ob
  have gw : ¬ t.gaveWay = true := by unfold SetTable.gaveWay; rw [R.m7]; decide
  have hashAt : ∀ (i : Nat) p, L[i]? = some p → (es[i]?.map (·.1)).getD 0 = kh P w p.2 := fun i p hp => by rw [R.entry hp]; rfl
  intro f
  induction f with
  | zero => intro c at0 _ _ hf; exact absurd hf (Nat.not_lt_zero _)
  | succ f ih =>
    intro c at0 hst hc hf hre
    rw [setSearchFrom_succ]
    refine wpAny_bind (wpAny_setState_of ho hd R.fits ?_)
    dsimp only
    refine wp_if_neg gw ?_
    try refine wpAny_bind (wpAny_pure ?_)
    have e1 : ∀ q, (nth t.mask (st t (kh P w k) c) q).j = way t.mask (kh P w k) (c + q) := fun q => congrArg SetTable.Probe.j (st_add t _ c q)
    have spec := go_spec t R.tab.ris R.tab.dm (fun i => (es[i]?.map (·.1)).getD 0) (kh P w k) (10 * SetTable.turns t.mask) (K - c) _ (st_dummy t (kh P w k) c) (by omega)
      (fun q hq => by rw [e1]; exact hKb (c + q) (by omega)) (by rw [e1, show c + (K - c) = K by omega]; exact hK)
    have past : ∀ (q : Nat), (∀ (k' i' : Nat), k' < q → t.place.toList[i']? = some (nth t.mask (st t (kh P w k) c) k').j → (es[i']?.map (·.1)).getD 0 ≠ kh P w k) → ∀ (i0 : Nat) p0 c', L[i0]? = some p0 → p0.2 = k → c ≤ c' → t.place.toList[i0]? = some (way t.mask (kh P w k) c') → c + q ≤ c' := by
      intro q hno i0 p0 c' h0 hk0 a1 a3
      rcases Nat.lt_or_ge c' (c + q) with z | z
      · refine absurd ?_ (hno (c' - c) i0 (by omega) (by rw [e1, show c + (c' - c) = c' by omega]; exact a3))
        rw [hashAt i0 p0 h0, hk0]
      · exact z
    rcases spec with ⟨q, i, hq, hi, hh, hno, hpr⟩ | ⟨hno, hpr⟩
    · have hpr' : t.probe (fun i => (es[i]?.map (·.1)).getD 0) (kh P w k) (at0.getD (t.probeStart (kh P w k))) = some (.candidate (way t.mask (kh P w k) (c + q)) i (st t (kh P w k) (c + (q + 1)))) := by
        rw [hst, ← e1, ← st_add]
        exact hpr
      rw [hpr']
      dsimp only
      rw [e1] at hi
      have hil : i < L.length := by
        have h1 : i < t.place.toList.length := (List.getElem?_eq_some_iff.mp hi).1
        have h2 := R.tab.sz
        rw [List.length_map] at h2
        rw [Array.length_toList] at h1
        omega
      obtain ⟨p, hp⟩ : ∃ p, L[i]? = some p := ⟨_, List.getElem?_eq_getElem hil⟩
      have hmem : p ∈ L := List.mem_of_getElem? hp
      have rest : wpAny (model P w) A (searchRest a (.ref x) (kh P w k) true f es t (way t.mask (kh P w k) (c + q)) i (st t (kh P w k) (c + (q + 1)))) Q E s := by
        unfold searchRest
        rw [R.entry hp]
        dsimp only
        refine wpAny_bind (wpAny_holding (wpAny_eqBool_tuple hu (R.tup p hmem) hx ?_))
        refine wpAny_bind (wpAny_setState_of ho hd R.fits ?_)
        dsimp only
        by_cases hkk : p.2 = k
        · refine wp_if_pos (by simp [hkk]) ?_
          exact wpAny_pure (hin (List.mem_map.mpr ⟨p, hmem, hkk⟩))
        · refine wp_if_neg (by simp [hkk]) ?_
          try refine wpAny_bind (wpAny_pure ?_)
          rw [sameMem]
          dsimp only
          have hsl : t.slot (way t.mask (kh P w k) (c + q)) = .live i := slot_live R.tab.ris hi
          simp only [if_true, hsl, R.entry hp]
          refine wpAny_bind (wpAny_isSame_ref_self (wpAny_bind (wpAny_pure ?_)))
          simp only [if_true]
          refine wp_if_neg (by simp [hkk]) ?_
          refine ih (c + (q + 1)) _ rfl (by omega) (by omega) fun i0 p0 h0 hk0 => ?_
          obtain ⟨c', a1, a2, a3⟩ := hre i0 p0 h0 hk0
          refine ⟨c', ?_, a2, a3⟩
          have hge := past q hno i0 p0 c' h0 hk0 a1 a3
          rcases Nat.lt_or_ge (c + q) c' with y | y
          · omega
          · have ec : c' = c + q := Nat.le_antisymm y hge
            rw [ec] at a3
            have s0 := slot_live R.tab.ris a3
            rw [hsl] at s0
            injection s0 with s0
            rw [← s0, hp] at h0
            exact absurd ((congrArg Prod.snd (Option.some.inj h0)).trans hk0) hkk
      by_cases hl : t.led = true
      · refine wp_if_neg (by simp [hl]) ?_
        try refine wpAny_bind (wpAny_pure ?_)
        exact rest
      · refine wp_if_pos (by simp [hl]) ?_
        refine wpAny_bind (unseen_tup hx (fun y hy => ?_) ?_)
        · obtain ⟨e, he, ee⟩ := List.mem_map.mp hy
          have he1 : e ∈ es ∧ e.1 = kh P w k := by simpa using he
          have he2 : e ∈ es.toList := by simpa using he1.1
          rw [R.rows] at he2
          obtain ⟨p2, hp2, e2⟩ := List.mem_map.mp he2
          exact ⟨p2.2, p2.1, by rw [← ee, ← e2], R.tup p2 hp2⟩
        · refine wp_if_neg (by decide) ?_
          try refine wpAny_bind (wpAny_pure ?_)
          exact rest
    · have hpr' : t.probe (fun i => (es[i]?.map (·.1)).getD 0) (kh P w k) (at0.getD (t.probeStart (kh P w k))) = some (.empty (way t.mask (kh P w k) K) none) := by
        have e2 : way t.mask (kh P w k) K = (nth t.mask (st t (kh P w k) c) (K - c)).j := by
          rw [e1, show c + (K - c) = K by omega]
        rw [hst, e2]
        exact hpr
      rw [hpr']
      dsimp only
      refine wpAny_pure (hout fun hm => ?_)
      obtain ⟨p0, h0, hk0⟩ := List.mem_map.mp hm
      obtain ⟨i0, hi0, e0⟩ := List.getElem_of_mem h0
      have h00 : L[i0]? = some p0 := by rw [List.getElem?_eq_getElem hi0, e0]
      obtain ⟨c', a1, a2, a3⟩ := hre i0 p0 h00 hk0
      have := past (K - c) hno i0 p0 c' h00 hk0 a1 a3
      omega
theorem isK_but {h h' : Heap} {k : List Key} {a b : Addr} {o : Obj} {es : Array (Int × Value)} {ep : Nat} {t : SetTable} (hb : IsK P w h k b) (ho : h.get? a = some o) (hd : o.data = .set es ep t) (hs : Heap.SameBut a h h') : IsK P w h' k b := by
  obtain ⟨o', items, n, ho', hc, hd', hi⟩ := hb
  have hne : b ≠ a := by
    rintro rfl
    obtain rfl : o' = o := Option.some.inj (ho'.symm.trans ho)
    rw [hd] at hd'
    exact nomatch hd'
  exact ⟨o', items, n, (hs.2 b hne).trans ho', hc, hd', hi⟩
/-- adding a rule to the small set -/
theorem small_add (R : Small P w s.heap a L es ep t) {x : Addr} {k : List Key} (hx : IsK P w s.heap k x) (hu : A.units < cLine) (hfew : L.length + 1 ≤ 4) {Q : Bool → Shared → Prop}
    (hQ : ∀ b h' L' es' ep' t', Heap.SameBut a s.heap h' → Small P w h' a L' es' ep' t' → (k ∈ L.map (·.2) → L' = L) → (k ∉ L.map (·.2) → L'.Perm ((x, k) :: L)) → Q b { s with heap := h' }) :
    wpAny (model P w) A (setAddHashed a (.ref x) (kh P w k)) Q E s := by
  obtain ⟨o, ho, hex, hd⟩ := R.ob
  have h7 := R.m7
  obtain ⟨K, hKf, hK, hKb⟩ := R.tab.first (by rw [List.length_map]; omega) (kh P w k)
  have hbig : K < 100000 := by
    unfold SetTable.turns at hKf
    omega
  unfold setAddHashed
  refine wpAny_holding ?_
  rw [show (100000 : Nat) = 99999 + 1 from rfl, setAddHashedIn_succ]
  refine wpAny_bind (wpAny_setState_of ho hd R.fits ?_)
  dsimp only
  refine wp_if_neg (by simp [byScan, Value.scannable]) ?_
  try refine wpAny_bind (wpAny_pure ?_)
  unfold setSearch
  refine wpAny_bind (seek R hx hu hKf hK hKb (fun hm => ?_) (fun hm => ?_) 100000 0 none rfl (Nat.zero_le _) (by omega) fun i p hp hk => ?_)
  · dsimp only
    exact wpAny_pure (hQ false s.heap L es ep t (Heap.SameBut.refl a s.heap) R (fun _ => rfl) fun z => absurd hm z)
  · dsimp only
    refine wpAny_bind (wpAny_setState_of ho hd R.fits ?_)
    dsimp only
    obtain ⟨q1, q2, q3, q4, q5, q6, q7, q8, q9⟩ := R.tab.put hK hKb
    generalize hpt : t.put (way t.mask (kh P w k) K) = pt at q1 q3 q4 q5 q6 q7 q8 q9 ⊢
    obtain ⟨t1, p⟩ := pt
    dsimp only at q1 q3 q4 q5 q6 q7 q8 q9 ⊢
    subst q1
    have hin : (SetTable.insertAt es (SetTable.below t.place (way t.mask (kh P w k) K)) (kh P w k, Value.ref x)).toList = (L.take (SetTable.below t.place (way t.mask (kh P w k) K)) ++ (x, k) :: L.drop (SetTable.below t.place (way t.mask (kh P w k) K))).map fun p => (kh P w p.2, Value.ref p.1) := by
      rw [SetTable.toList_insertAt, R.rows, List.map_append, List.map_cons, List.map_take, List.map_drop]
    generalize hpp : SetTable.below t.place (way t.mask (kh P w k) K) = p at q2 q3 hin ⊢
    have pm := put_perm L p (x, k)
    have hlen : (L.take p ++ (x, k) :: L.drop p).length = L.length + 1 := pm.length_eq
    have hhs : (L.take p ++ (x, k) :: L.drop p).map (fun p => kh P w p.2) = (L.map fun p => kh P w p.2).take p ++ kh P w k :: (L.map fun p => kh P w p.2).drop p := by
      rw [List.map_append, List.map_cons, List.map_take, List.map_drop]
    rw [← hhs] at q3
    have hes : (SetTable.insertAt es p (kh P w k, Value.ref x)).size = L.length + 1 := by
      have h := congrArg List.length hin
      rw [Array.length_toList, List.length_map, hlen] at h
      exact h
    generalize SetTable.insertAt es p (kh P w k, Value.ref x) = es1 at hin hes ⊢
    generalize L.take p ++ (x, k) :: L.drop p = L1 at pm hlen q3 hin
    have fin : ∀ t2 : SetTable, t2 = t1 ∨ t2 = { t1 with plain := false } → wpAny (model P w) A (do
        storeSet a es1 t2
        if !false && t2.tooFull then setRelay a (SetTable.grown (es.size + 1))
        return true) Q E s := fun t2 ht2 => by
      have hm2 : t2.mask = 7 := by rcases ht2 with e | e <;> (rw [e]; show t1.mask = 7; rw [q4, h7])
      have hf2 : t2.fill = L.length + 1 := by rcases ht2 with e | e <;> (rw [e]; show t1.fill = L.length + 1; rw [q9, List.length_map])
      have T2 : TabOk t2 (L1.map fun p => kh P w p.2) := by
        rcases ht2 with rfl | rfl
        · exact q3
        · exact ⟨q3.ris, q3.dm, q3.sz, q3.mok, q3.bd, q3.reach⟩
      refine wpAny_bind (wpAny_storeSet_of ho hd ?_ (by rw [hes, sizeLine_eq]; omega))
      have sb : Heap.SameBut a s.heap (s.heap.update a (Obj.putSet es1 t2)) := Heap.SameBut.update ..
      have ho1 := store_at (es' := es1) (t' := t2) ho hd
      generalize s.heap.update a (Obj.putSet es1 t2) = h1 at sb ho1 ⊢
      have nf : ¬ (!false && t2.tooFull) = true := by
        unfold SetTable.tooFull
        rw [hf2, hm2]
        simp
        omega
      first
        | refine wp_if_neg nf ?_
        | (refine wpAny_bind ?_; refine wp_if_neg nf ?_; refine wpAny_pure ?_)
      refine wpAny_pure (hQ true h1 L1 es1 (ep + 1) t2 sb ⟨⟨_, ho1, ⟨hex.1, hex.2.1, hex.2.2⟩, rfl⟩, hin, T2, fun q hq => ?_, hm2, by omega⟩ (fun z => absurd z hm) fun _ => pm)
      rcases List.mem_cons.mp (pm.mem_iff.mp hq) with e | hq
      · rw [e]; exact isK_but hx ho hd sb
      · exact isK_but (R.tup q hq) ho hd sb
    cases hpl : t1.plain with
    | true =>
      refine wpAny_bind ?_
      refine byv_tup hx fun y => ?_
      cases y with
      | true => exact fin _ (.inl rfl)
      | false => exact fin _ (.inr rfl)
    | false =>
      refine wpAny_bind ?_
      refine wpAny_pure ?_
      exact fin _ (.inl rfl)
  · have hi : (L.map fun p => kh P w p.2)[i]? = some (kh P w k) := by rw [List.getElem?_map, hp, ← hk] <;> rfl
    have hil : i < t.place.toList.length := by
      have h1 : i < L.length := (List.getElem?_eq_some_iff.mp hp).1
      have h2 := R.tab.sz
      rw [List.length_map] at h2
      rw [Array.length_toList]
      omega
    have hj := List.getElem?_eq_getElem hil
    obtain ⟨c, hc, e⟩ := R.tab.before hK hi hj
    exact ⟨c, Nat.zero_le _, hc, by rw [hj, e]⟩
end
theorem addAll_old : ∀ {l acc : List (List Key)} {k : List Key}, k ∈ addAll acc l → addAll acc (l ++ [k]) = addAll acc l
  | [], acc, k, h => by
    have h' : k ∈ acc := h
    show addAll acc [k] = addAll acc []
    unfold addAll
    rw [if_pos h']
    rfl
  | a :: l, acc, k, h => by
    rw [List.cons_append]
    unfold addAll at h ⊢
    exact addAll_old h
theorem addAll_fresh : ∀ {l acc : List (List Key)} {k : List Key}, k ∉ addAll acc l → addAll acc (l ++ [k]) = addAll acc l ++ [k]
  | [], acc, k, h => by
    have h' : k ∉ acc := h
    show addAll acc [k] = addAll acc [] ++ [k]
    unfold addAll
    rw [if_neg h']
    rfl
  | a :: l, acc, k, h => by
    rw [List.cons_append]
    unfold addAll at h ⊢
    exact addAll_fresh h
/-- what the set has got from the first i rules -/
structure Has (ks : List (Addr × List Key)) (i : Nat) (L : List (Addr × List Key)) : Prop where
  mem : ∀ k, k ∈ L.map (·.2) ↔ k ∈ addAll [] ((ks.map (·.2)).take i)
  len : L.length = (addAll [] ((ks.map (·.2)).take i)).length
  few : L.length ≤ i
  sub : ∀ p ∈ L, p ∈ ks
theorem Has.zero (ks : List (Addr × List Key)) : Has ks 0 [] := ⟨fun k => by simp [addAll], by simp [addAll], Nat.le_refl _, fun p h => by cases h⟩
theorem Has.step {ks L L' : List (Addr × List Key)} {i : Nat} {p : Addr × List Key} (g : Has ks i L) (h : ks[i]? = some p) (c1 : p.2 ∈ L.map (·.2) → L' = L) (c2 : p.2 ∉ L.map (·.2) → L'.Perm (p :: L)) : Has ks (i + 1) L' := by
  have e : (ks.map (·.2)).take (i + 1) = (ks.map (·.2)).take i ++ [p.2] := by
    rw [List.take_succ, List.getElem?_map, h]; rfl
  by_cases hm : p.2 ∈ L.map (·.2)
  · rw [c1 hm]
    have := (g.mem p.2).mp hm
    exact ⟨fun k => by rw [e, addAll_old this]; exact g.mem k, by rw [e, addAll_old this]; exact g.len, Nat.le_succ_of_le g.few, g.sub⟩
  · have pm := c2 hm
    have hn : p.2 ∉ addAll [] ((ks.map (·.2)).take i) := fun z => hm ((g.mem p.2).mpr z)
    refine ⟨fun k => ?_, ?_, ?_, fun q hq => ?_⟩
    · rw [e, addAll_fresh hn, (pm.map (·.2)).mem_iff, List.map_cons, List.mem_cons, List.mem_append, g.mem k, List.mem_singleton, or_comm]
    · rw [e, addAll_fresh hn, pm.length_eq, List.length_cons, List.length_append, g.len]; rfl
    · rw [pm.length_eq, List.length_cons]; exact Nat.succ_le_succ g.few
    · rcases List.mem_cons.mp (pm.mem_iff.mp hq) with rfl | z
      · exact List.mem_of_getElem? h
      · exact g.sub q z
section
variable {P : Program} {w : World} {A : Around} {E : Value → Shared → Prop} {s : Shared}
theorem isK_keep {h h' : Heap} {k : List Key} {b : Addr} (x : IsK P w h k b) (hk : ∀ c o, h.get? c = some o → h'.get? c = some o) : IsK P w h' k b := by
  obtain ⟨o, items, n, ho, r⟩ := x
  exact ⟨o, items, n, hk b o ho, r⟩
theorem small_new {h : Heap} {a : Addr} (ho : h.get? a = some { cls := .type "set", dict := none, data := .set #[] 0 (.fresh 0 0 (!w.params.followText "set-order")) }) : Small P w h a [] #[] 0 (.fresh 0 0 (!w.params.followText "set-order")) where
  ob := ⟨_, ho, ⟨rfl, rfl, rfl⟩, rfl⟩
  rows := rfl
  tab := ⟨List.Pairwise.nil, rfl, rfl, .inl rfl, fun x hx => (by cases hx), fun i h j hi => (by simp at hi)⟩
  tup := fun p hp => (by cases hp)
  m7 := rfl
  few := Nat.zero_le _
/-- the loop that fills the set -/
theorem small_loop {I : Addr} {fp wr : List Addr} {G : Array GenState → Array GenState → Prop} {n : Nat} {Pv : Nat → Value → Prop} {St : Nat → Shared → Prop} {R : Result → Shared → Prop}
    (W : WalksS P w A.in1 I fp wr G n Pv St) (Z : Addr) (hSf : Z ∉ fp) (ks : List (Addr × List Key)) (hn : n = ks.length) (hfew : ks.length ≤ 4) (hval : ∀ i v, Pv i v → ∃ p, ks[i]? = some p ∧ v = .ref p.1)
    (h0 : Heap) (hk : ∀ p ∈ ks, IsK P w h0 p.2 p.1) (hS0 : h0.get? Z = none) (hw0 : ∀ b ∈ wr, h0.get? b = none) (hu : A.in1.units < cLine) :
    ∀ (k i : Nat) (s : Shared), n - i = k → i ≤ n → St i s → (∀ b o, h0.get? b = some o → s.heap.get? b = some o) → (∃ L es ep t, Small P w s.heap Z L es ep t ∧ Has ks i L) →
      (∀ s' L es ep t, Moved (Z :: wr) G s s' → Small P w s'.heap Z L es ep t → Has ks n L → (∀ b o, h0.get? b = some o → s'.heap.get? b = some o) → R (.ok (.ret .none)) s') →
      codeAny (model P w) A (.builtin "set.update.loop" ⟨[.ref Z, .ref I], []⟩) R s := by
  have hSw : Z ∉ wr := fun h => hSf (W.sub _ h)
  have hsub : ∀ b ∈ wr, b ∈ Z :: wr := fun b hb => List.mem_cons_of_mem _ hb
  have keepM : ∀ {s s' : Shared}, Moved wr G s s' → (∀ b o, h0.get? b = some o → s.heap.get? b = some o) → ∀ b o, h0.get? b = some o → s'.heap.get? b = some o := fun hm hkp b o e =>
    hm.heap b o (fun hb => by rw [hw0 b hb] at e; cases e) (hkp b o e)
  have keepS : ∀ {s s' : Shared} {L : List (Addr × List Key)} {es ep t}, Moved wr G s s' → (∀ b o, h0.get? b = some o → s'.heap.get? b = some o) → (∀ p ∈ L, p ∈ ks) → Small P w s.heap Z L es ep t → Small P w s'.heap Z L es ep t := fun hm hkp hs R => by
    obtain ⟨o, ho, r⟩ := R.ob
    exact ⟨⟨o, hm.heap Z o hSw ho, r⟩, R.rows, R.tab, fun p hp => isK_keep (hk p (hs p hp)) hkp, R.m7, R.few⟩
  intro k
  induction k with
  | zero =>
    intro i s hk' hi hst hkp ⟨L, es, ep, t, hS, g⟩ hR
    have hin : i = n := by omega
    subst hin
    refine codeAny_builtin F.entry_set_update_loop ?_
    rw [Around.under_plainId F.plain_set_update_loop _]
    show wpAny _ A.in1 (pyNext (.ref I) >>= _) _ _ s
    refine wpAny_bind (W.done s _ _ hst fun s' hm => ?_)
    show wpAny _ A.in1 (ret Value.none) _ _ s'
    have hkp' := keepM hm hkp
    exact wpAny_pure (hR s' L es ep t (hm.mono hsub) (keepS hm hkp' g.sub hS) g hkp')
  | succ k ih =>
    intro i s hk' hi hst hkp ⟨L, es, ep, t, hS, g⟩ hR
    have hlt : i < n := by omega
    refine codeAny_builtin F.entry_set_update_loop ?_
    rw [Around.under_plainId F.plain_set_update_loop _]
    show wpAny _ A.in1 (pyNext (.ref I) >>= _) _ _ s
    refine wpAny_bind (W.item i s _ _ hlt hst fun v s' hP hst' hm => ?_)
    obtain ⟨p, hp, rfl⟩ := hval i v hP
    have hkp' := keepM hm hkp
    have hS' := keepS hm hkp' g.sub hS
    have hx : IsK P w s'.heap p.2 p.1 := isK_keep (hk p (List.mem_of_getElem? hp)) hkp'
    show wpAny _ A.in1 (holding [Value.ref p.1] (setAdd Z (.ref p.1)) >>= _) _ _ s'
    refine wpAny_bind (wpAny_holding ?_)
    unfold setAdd
    refine wpAny_holding ?_
    refine wpAny_bind (wpAny_pyHash_tuple hu hx ?_)
    refine small_add (s := { s' with toks := s'.toks + (p.2.length + 1) }) hS' hx hu (by have := g.few; omega) fun b h' L' es' ep' t' hsb hS2 c1 c2 => ?_
    have g' : Has ks (i + 1) L' := g.step hp c1 c2
    have hkp2 : ∀ b o, h0.get? b = some o → h'.get? b = some o := fun b o e => (hsb.2 b (fun z => by rw [z, hS0] at e; cases e)).trans (hkp' b o e)
    refine wpAny_pure ⟨plainId_quiet F.plain_set_update_loop _, ih (i + 1) _ (by omega) hlt (W.frame _ s' _ _ hst' (Nat.le_add_right _ _) fun b hb o e => ?_) hkp2 ⟨L', es', ep', t', hS2, g'⟩ fun s'' L2 es2 ep2 t2 hm'' hS'' g'' hkp'' => ?_⟩
    · rw [hsb.2 b (fun h : b = Z => hSf (by rw [← h]; exact hb))]; exact e
    · refine hR s'' L2 es2 ep2 t2 (Moved.trans W.gtrans ((hm.mono hsub).then_heap (Nat.le_add_right _ _) fun b o hb e => ?_) hm'') hS'' g'' hkp''
      rw [hsb.2 b (fun h : b = Z => hb (by rw [h]; exact List.mem_cons_self))]; exact e
set_option maxHeartbeats 3200000 in
/-- set(xs), xs a tuple of at most four such tuples -/
theorem call_set_small {l : Addr} {items : Array Value} (ks : List (Addr × List Key)) {Q : Value → Shared → Prop} (hh : A.handled = none) (hl : s.heap.IsTuple l items) (hit : items.toList = ks.map fun p => Value.ref p.1)
    (hk : ∀ p ∈ ks, IsK P w s.heap p.2 p.1) (hfew : ks.length ≤ 4) (hu : A.units + 3 < cLine)
    (h : ∀ (h' : Heap) (tk : Nat) L es ep t, Small P w h' s.heap.objs.size L es ep t → Has ks ks.length L → (∀ b o, s.heap.get? b = some o → h'.get? b = some o) → Q (.ref s.heap.objs.size) { s with heap := h', toks := tk }) :
    wpAny (model P w) A (call (.type "set") [.ref l]) Q E s := by
  have hisz : items.size = ks.length := by
    have q := congrArg List.length hit
    rw [Array.length_toList, List.length_map] at q
    exact q
  obtain ⟨c, tl, hmro⟩ := F.called_set.mro
  have hmade := F.called_set.made
  have hsub := F.called_set.sub
  refine wpAny_call (codeAny_of_tree ?_)
  show wpAny _ _ (callAny (.type "set") _) _ _ _
  refine wpAny_pure ⟨Code.quiet_builtin _ (by decide +kernel), codeAny_builtin F.entry_type_call ?_⟩
  rw [Around.under_plain (weight_type_call_type "set" [.ref l] []) rfl]
  have h1 := F.called_set.notType
  have h2 := F.called_set.canCreate
  have hct := F.typeCall_set_1 (.ref l)
  repeat (any_goals (first | assumption | wp_step))
  refine codeAny_mono (code_set_led1 (.ref l) (E := E) (Q₁ := fun obj s₁ => obj = .ref s.heap.objs.size ∧ s₁ = { s with heap := s.heap.push { cls := .type "set", dict := none, data := .set #[] 0 (.fresh 0 0 (!w.params.followText "set-order")) } }) ⟨rfl, rfl⟩) fun r s₁ hr => ?_
  cases r with
  | error e => exact hr
  | ok fl =>
    cases fl with
    | ret obj =>
      obtain ⟨rfl, rfl⟩ := hr
      have hS : (s.heap.push { cls := .type "set", dict := none, data := .set #[] 0 (.fresh 0 0 (!w.params.followText "set-order")) }).get? s.heap.objs.size = some { cls := .type "set", dict := none, data := .set #[] 0 (.fresh 0 0 (!w.params.followText "set-order")) } := Heap.get?_push_size _ rfl
      have hT : Shared.TypeIs { s with heap := s.heap.push { cls := .type "set", dict := none, data := .set #[] 0 (.fresh 0 0 (!w.params.followText "set-order")) } } (.ref s.heap.objs.size) "set" := ⟨_, hS, rfl⟩
      have hli := F.called_set.init.lookup
      have hbi := F.called_set.init.bind (.ref s.heap.objs.size)
      repeat (any_goals (first | assumption | wp_step))
      refine codeAny_mono (codeAny_call_builtin (R := wants (fun r s₂ => r = .none ∧ ∃ h' tk L es ep t, s₂ = { s with heap := h', toks := tk } ∧ Small P w h' s.heap.objs.size L es ep t ∧ Has ks ks.length L ∧
          (∀ b o, s.heap.get? b = some o → h'.get? b = some o)) E) F.called_set.init.plain F.entry_set_init (check_set_init_1 hT ?_)) fun r₂ s₂ hr₂ => ?_
      · obtain ⟨ol, hol, hcl, nl, hdl⟩ := hl
        obtain ⟨ocls, odict, odata, oslots⟩ := ol
        simp only at hcl hdl
        subst hcl; subst hdl
        have hol' : (s.heap.push { cls := .type "set", dict := none, data := .set #[] 0 (.fresh 0 0 (!w.params.followText "set-order")) }).get? l = some { cls := .type "tuple", dict := odict, data := .seq items nl, slots := oslots } := Heap.get?_push_of_some _ hol
        have hsls := F.sub_tuple_set
        have hslf := F.sub_tuple_frozenset
        have hne : (Value.type "tuple" == Value.type "dict") = false := by decide
        have hl1 : (s.heap.push { cls := .type "set", dict := none, data := .set #[] 0 (.fresh 0 0 (!w.params.followText "set-order")) }).IsTuple l items := ⟨_, hol', rfl, nl, rfl⟩
        unfold Builtin.«set.__init__» noKeywords Builtin.Frozenset.updateFrom
        generalize hPI : pyIter = PI
        wp_walk
        subst hPI
        refine wpAny_pyIter_tuple hl1 ?_
        refine wpAny_bind (wpAny_runValue ?_)
        have hlS : l < s.heap.objs.size := Heap.lt_size hol
        have hh3 : A.in1.in1.in1.handled = none := by simp [hh]
        have hneI : l ≠ (s.heap.push { cls := .type "set", dict := none, data := .set #[] 0 (.fresh 0 0 (!w.params.followText "set-order")) }).objs.size := by
          rw [Heap.size_push]; exact Nat.ne_of_lt (Nat.lt_succ_of_lt hlS)
        have hSf : s.heap.objs.size ∉ [(s.heap.push { cls := .type "set", dict := none, data := .set #[] 0 (.fresh 0 0 (!w.params.followText "set-order")) }).objs.size, l] := by
          rw [Heap.size_push]; simp only [List.mem_cons, List.mem_singleton, List.not_mem_nil, or_false, not_or]
          exact ⟨Nat.ne_of_lt (Nat.lt_succ_self _), Nat.ne_of_gt hlS⟩
        have hval : ∀ (i : Nat) (v : Value), items[i]? = some v → ∃ p, ks[i]? = some p ∧ v = .ref p.1 := fun i v hv => by
          have q : items.toList[i]? = some v := by rw [Array.getElem?_toList]; exact hv
          rw [hit, List.getElem?_map] at q
          cases hq : ks[i]? with
          | none => rw [hq] at q; cases q
          | some p =>
            rw [hq] at q
            exact ⟨p, rfl, (Option.some.inj q).symm⟩
        have none_of : ∀ b, s.heap.objs.size ≤ b → s.heap.get? b = none := fun b hb => by
          cases q : s.heap.get? b with
          | none => rfl
          | some o => exact absurd (Nat.lt_of_lt_of_le (Heap.lt_size q) hb) (Nat.lt_irrefl _)
        refine small_loop ((Walks.tuple hh3 _ l hneI items).toS) s.heap.objs.size
          hSf ks hisz hfew hval s.heap hk (none_of _ (Nat.le_refl _)) (fun b hb => none_of b (by
            rw [List.mem_singleton.mp hb, Heap.size_push]
            exact Nat.le_succ _)) hu (items.size - 0) 0 _ (by omega) (Nat.zero_le _)
          ⟨⟨_, Heap.get?_push_size _ rfl, rfl, rfl⟩, (hl1.push _)⟩ (fun b o e => Heap.get?_push_of_some _ (Heap.get?_push_of_some _ e)) ?hS0 ?hR
        case hS0 => exact ⟨[], #[], 0, _, small_new (Heap.get?_push_of_some _ hS), Has.zero ks⟩
        case hR =>
          intro s' L es ep t hm hS' g' hkp
          obtain ⟨h', g2, d', tk', os'⟩ := s'
          have eg : g2 = s.gens := hm.gens
          have ed : d' = s.drawn := hm.drawn
          have eo : os' = s.os := hm.os
          subst eg; subst ed; subst eo
          show wpAny _ _ _ _ _ _
          refine wpAny_pure ?_
          show wpAny _ _ (ret Value.none) _ _ _
          rw [hisz] at g'
          exact wpAny_pure ⟨rfl, h', tk', L, es, ep, t, rfl, hS', g', hkp⟩
      · cases r₂ with
        | error e => exact hr₂
        | ok fl₂ =>
          cases fl₂ with
          | ret r =>
            obtain ⟨rfl, h', tk, L, es, ep, t, rfl, hS', g', hk'⟩ := hr₂
            repeat (any_goals (first | assumption | wp_step))
            exact h _ _ _ _ _ _ hS' g' hk'
          | _ => exact hr₂.elim
    | _ => exact hr.elim
end
theorem keys_vals {K : PySem.W.Frag} {H : Hp} : ∀ {ds : List D} {xs : List V} {k : List Key}, RpAll K H ds xs → ds.mapM keyO = some k → xs = k.map kV
  | [], xs, k, r, e => by
    cases e
    exact r
  | d :: ds, xs, k, r, e => by
    obtain ⟨v, r', rfl, h1, h2⟩ := r
    rw [List.mapM_cons] at e
    cases hd : keyO d with
    | none => rw [hd] at e; cases e
    | some a =>
      rw [hd] at e
      cases hr : ds.mapM keyO with
      | none => rw [hr] at e; cases e
      | some k' =>
        rw [hr] at e
        cases e
        rw [keys_vals h2 hr]
        cases d <;> simp only [keyO, Option.some.injEq, reduceCtorEq] at hd
        · subst hd; rw [show v = V.int _ from h1]; rfl
        · subst hd; rw [show v = V.str _ from h1]; rfl
theorem tups_of {K : PySem.W.Frag} {H : Hp} : ∀ {ds : List D} {xs : List V} {kk : List (List Key)}, RpAll K H ds xs → ds.mapM keysO = some kk → ∃ ps : List (Addr × List Key), ps.map (·.2) = kk ∧ xs = ps.map (fun p => V.ref p.1) ∧ ∀ p ∈ ps, SqT K H p.1 (p.2.map kV)
  | [], xs, kk, r, e => by
    cases e
    exact ⟨[], rfl, r, fun p h => by cases h⟩
  | d :: ds, xs, kk, r, e => by
    obtain ⟨v, r', rfl, h1, h2⟩ := r
    rw [List.mapM_cons] at e
    cases hd : keysO d with
    | none => rw [hd] at e; cases e
    | some a =>
      rw [hd] at e
      cases hr : ds.mapM keysO with
      | none => rw [hr] at e; cases e
      | some k' =>
        rw [hr] at e
        cases e
        obtain ⟨ps, e1, e2, e3⟩ := tups_of h2 hr
        cases d <;> simp only [keysO, reduceCtorEq] at hd
        obtain ⟨b, ys, rfl, q, rr⟩ := h1
        have := keys_vals rr hd
        subst this
        refine ⟨(b, a) :: ps, by rw [List.map_cons, e1], by rw [List.map_cons, e2], fun p hp => ?_⟩
        rcases List.mem_cons.mp hp with rfl | hp
        · exact q
        · exact e3 p hp
theorem refs_vals : ∀ {ps : List (Addr × List Key)} {us : List Value}, Vals (ps.map fun p => V.ref p.1) us → us = ps.map fun p => Value.ref p.1
  | [], _, .nil => rfl
  | p :: ps, _, .cons r t => by
    cases r
    rw [refs_vals t]
    rfl
theorem pd_lenSetR {X : Cx} {W : Wx} {k : Nat} {a : Expr} {f : En → Res D} {p p2 q pos : Pos} (hr : Room k X.A) (hm : X.mg "len" = none) (hm2 : X.mg "set" = none) (ha : PE X a (tD X.K W f)) (hg : Gl X "len" := by rfl) (hg2 : Gl X "set" := by rfl) (hc : X.calm = true := by rfl)
    (na : starEach [a] X.env = (false, eval a X.env) :: starEach [] X.env := by rfl) : PE X (.Call (.Name "len" p) [.Call (.Name "set" p2) [a] [] q] [] pos) (tD X.K W (uopF lenSetR f)) := by
  refine PE.weak (t := tUn (fun x H Q => ∃ (l : Addr) (ps : List (Addr × List Key)), x = .ref l ∧ SqT X.K H l (ps.map fun p => V.ref p.1) ∧ (∀ p ∈ ps, SqT X.K H p.1 (p.2.map kV)) ∧ ps.length ≤ 4 ∧ Q (.int ((addAll [] (ps.map (·.2))).length : Nat)) H) (tD X.K W f)) ?_ (tD_un fun x H Q d z r hz q => ?_)
  · refine ⟨fun pins s σ H Q I h => ?_⟩
    refine Call_ (ld_blt I hg hm boot_len ?_)
    refine PyProof.Rows.callWith_builtin1 (PyProof.Rows.args_cons ?_ rfl) rfl rfl
    refine Call_ (ld_blt I hg2 hm2 boot_set ?_)
    refine PyProof.Rows.callWith_type1 (PyProof.Rows.args_cons (thn (ha.run pins s σ H _ I h) fun v s1 ⟨x, H1, I1, r1, q1⟩ => PyProof.Rows.args_nil ?_) na) na rfl
    obtain ⟨l, ps, rfl, hq, hps, hl, q1⟩ := q1
    cases r1
    obtain ⟨its, r, pl, hz⟩ := I1.tuple hq
    have hits := refs_vals r
    refine call_set_small ps (I1.ok.hd hc) pl (by simpa using hits) (fun p hp => ?_) hl (by have := hr.un; omega) fun h' tk L es ep t hS g hk => ?_
    · obtain ⟨us, r2, ⟨o, ho, hcl, n, hd⟩, _⟩ := I1.tuple (hps p hp)
      exact ⟨o, us.toArray, n, ho, hcl, hd, items_are r2⟩
    · refine PyProof.Rows.args_nil ?_
      obtain ⟨o, ho, hex, hd⟩ := hS.ob
      have I2 : Inv X pins σ H1 { s1 with heap := h', toks := tk } := I1.kept fun b o e => hk b o e
      have hsz : es.size = (addAll [] (ps.map (·.2))).length := by
        rw [hS.size, g.len, List.take_of_length_le (by simp)]
      exact call_len_set ho hex hd hS.fits (by rw [hS.size]; have := hS.few; omega) ⟨.int _, H1, I2.tok _, ⟨_, by rw [hsz]⟩, q1⟩
  · unfold lenSetR at hz
    split at hz
    · rename_i ds
      split at hz
      · rename_i kk hkk
        split at hz
        · rename_i hl
          cases hz
          obtain ⟨b, ys, rfl, q2, rr⟩ := r
          obtain ⟨ps, e1, e2, e3⟩ := tups_of rr hkk
          subst e1
          subst e2
          exact ⟨b, ps, rfl, q2, e3, by simpa using hl, q _ H (Same.refl H) rfl⟩
        · cases hz
      · cases hz
    · cases hz
end FM

set_option Elab.async false
set_option linter.all false
set_option maxRecDepth 100000
/-! FM9: enumerate over tuples and texts, zip of two tuples. -/
namespace FM
open PySem PySem.Spec PyProof.Rows L2
/-! ### enumerate begins: one argument -/
set_option maxHeartbeats 1000000 in
theorem meets_enum1 {v : Value} {o : Obj} {Z : Heap → Prop} (B : Begins v o Z) :
    Meets (Builtin.«enumerate.__new__» ⟨[.type "enumerate", v], []⟩) (fun _ R s => Z s.heap ∧
      R (.ok (.ret (.ref (s.heap.push o).objs.size))) { s with heap := (s.heap.push o).push { cls := .type "enumerate", data := .fields #[.none, .bool false, .ref s.heap.objs.size, rawInt 0, .none, .none] } }) :=
  .of_wp fun prog w A R s h => by
    obtain ⟨hp, g, d, tk, os⟩ := s
    obtain ⟨h1, h⟩ := h
    have hsub := sub_enumerate
    have q1 : ∀ {A' : Around} {E : Value → Shared → Prop} {Q : Value → Shared → Prop}, Q (.ref hp.objs.size) ⟨hp.push o, g, d, tk, os⟩ → wpAny (model prog w) A' (pyIter v) Q E ⟨hp, g, d, tk, os⟩ :=
      fun q => B.iter prog w _ _ ⟨hp, g, d, tk, os⟩ _ h1 q
    wp_walk using q1
    refine wpAny_stack_any fun st => wpAny_pure ?_
    split
    · rename_i c _ _ _ _ _
      cases (c == Value.type "enumerate")
      · wp_walk using q1
        exact ⟨_, rfl, h⟩
      · wp_walk using q1
        exact ⟨_, rfl, h⟩
    · wp_walk using q1
      exact ⟨_, rfl, h⟩
theorem call_enum1 {prog : Program} {w : World} {A : Around} {E : Value → Shared → Prop} {s : Shared} {v : Value} {o : Obj} {Z : Heap → Prop} {Q : Value → Shared → Prop} (B : Begins v o Z) (h1 : Z s.heap)
    (h : ∀ h', IsEnum h' (s.heap.objs.size + 1) s.heap.objs.size 0 .none → h'.get? s.heap.objs.size = some o → h'.objs.size = s.heap.objs.size + 2 →
      (∀ b o, s.heap.get? b = some o → h'.get? b = some o) → Q (.ref (s.heap.objs.size + 1)) { s with heap := h' }) :
    wpAny (model prog w) A (call (.type "enumerate") [v]) Q E s := by
  refine callType_new F.called_enumerate (by decide) (F.typeCall_enumerate_1 _) (F.newCall_enumerate_1 _) (fun obj => F.args_object_init_2 obj _) F.entry_enumerate_new (meets_enum1 B) ⟨h1, ?_⟩
  have hz : (s.heap.push o).objs.size = s.heap.objs.size + 1 := Heap.size_push ..
  show _ ∧ _
  rw [hz]
  have he : IsEnum ((s.heap.push o).push { cls := .type "enumerate", data := .fields #[.none, .bool false, .ref s.heap.objs.size, rawInt 0, .none, .none] }) (s.heap.objs.size + 1) s.heap.objs.size 0 .none := by
    have := Heap.get?_push_size (s.heap.push o) (o := { cls := .type "enumerate", data := .fields #[.none, .bool false, .ref s.heap.objs.size, rawInt 0, .none, .none] }) rfl
    rw [hz] at this; exact this
  exact ⟨⟨_, he, rfl⟩, h _ he (Heap.get?_push_of_some _ (Heap.get?_push_size _ B.free)) (by rw [Heap.size_push, hz]) fun b o x => Heap.get?_push_of_some _ (Heap.get?_push_of_some _ x)⟩
/-! ### the turns -/
/-- a tuple's items, or a text's signs, each in a new pair behind its number -/
def Ien (n : Nat) (G : Hp → Prop) (W : Hp → Nat → V → Prop) : It :=
  ⟨fun i H => i < n ∧ G H, fun i H v H' => ∃ T x, v = .ref T ∧ H T = none ∧ H' = upd H T (.tup [.int (i : Nat), x]) ∧ W H i x, fun i H => n ≤ i ∧ G H⟩
theorem turn_enumG {P : Program} {w : World} {K : PySem.W.Frag} {elts : List Expr} {kk : Nat} {tpos : Pos} {n : Nat} {G : Hp → Prop} {W : Hp → Nat → V → Prop} {fp0 : List Addr} {St : Nat → Heap → Prop} {Pv : Shared → Nat → Value → Prop} (e it : Addr) (hne : e ≠ it) (hef : e ∉ fp0) (hif : it ∈ fp0)
    (hobj : ∀ i h, St i h → ∃ o, h.get? it = some o ∧ ∀ v, o.data ≠ .cell v)
    (hkeep : ∀ i h h', St i h → (∀ o, h.get? it = some o → h'.get? it = some o) → St i h')
    (D : ∀ (X : Cx), X.prog = P → X.w = w → X.K = K → X.calm = true → ∀ (pins : List (Addr × Obj)) (s : Shared) (σ : L2.St) (H : Hp), Inv X pins σ H s → H it = none → G H → ∃ (Sx : Nat → Heap → Prop), Draws P w X.A.in1 it fp0 n (fun i u => ∃ x, RelV x u ∧ W H i x) Sx ∧ (∀ i, St i s.heap → Sx i s.heap) ∧ ∀ i h, Sx i h → St i h) :
    Turn P w K (.Tuple elts kk tpos) (Ien n G W) [e, it] e (fun i h => (∃ old, IsEnum h e it ((i : Nat) : Int) old) ∧ St i h ∧ i ≤ n) where
  mem := by simp
  obj := fun i h st b hb => by
    obtain ⟨⟨old, he⟩, hs, _⟩ := st
    have e' : b = e ∨ b = it := by simpa using hb
    rcases e' with z | z
    · rw [z]; exact ⟨_, he, fun v q => nomatch q⟩
    · rw [z]; exact hobj i h hs
  keep := fun i h h' st k => let ⟨⟨old, he⟩, hi, hn⟩ := st; ⟨⟨old, k e (by simp) _ he⟩, hkeep i h h' hi fun o q => k it (by simp) o q, hn⟩
  item := by
    intro X hP hw hK hc i pins s σ H E I hf st hg
    obtain ⟨⟨old, he⟩, hs, _⟩ := st
    obtain ⟨hi, hG⟩ := hg
    obtain ⟨Sx, d, sx1, sx2⟩ := D X hP hw hK hc pins s σ H I (hf it (by simp)).1 hG
    subst hP hw hK
    have hel : e < s.heap.objs.size := Heap.lt_size he
    have hil : it < s.heap.objs.size := by obtain ⟨_, q, _⟩ := hobj i _ hs; exact Heap.lt_size q
    refine wpAny_pyNext_enum_itemD d he (sx1 i hs) hi hne hef fun u h' tk hu ho hs' hT hsz hk => ?_
    obtain ⟨x, ru, hx⟩ := hu
    refine ⟨_, rfl, wpAny_letOwnedTupleGo_enum (s := { s with heap := h', toks := tk + 1 }) ho fun h'' he' sb => ?_⟩
    have hT2 : h''.get? s.heap.objs.size = some { cls := .type "tuple", data := .seq #[.int i tk, u] } := (sb.2 _ (Nat.ne_of_gt hel)).trans hT
    have new : ObjOk X.prog X.w (upd H s.heap.objs.size (.tup [.int (i : Nat), x])) h'' s.heap.objs.size (.tup [.int (i : Nat), x]) :=
      ⟨by show 2 ≤ sizeLine; decide, [.int i tk, u], .cons ⟨_, rfl⟩ (.cons ru .nil), ⟨_, hT2, rfl, _, rfl⟩⟩
    have I1 : Inv X pins σ (upd H s.heap.objs.size (.tup [.int (i : Nat), x])) { s with heap := h'', toks := tk + 1 } :=
      I.turnedNew (ch := [e, it]) (fun b ob hb q => (sb.2 b (fun z => hb (by simp [z]))).trans (hk b ob (fun z => hb (by simp [z])) (fun z => hb (by simp [z])) q)) hf (Nat.le_refl _) new
    refine ⟨.ref s.heap.objs.size, _, I1, rfl, ⟨_, x, rfl, I.hok.fresh (Nat.le_refl _), rfl, hx⟩, ⟨⟨u, ?_⟩, hkeep _ _ _ (sx2 _ _ hs') fun o q => (sb.2 it (Ne.symm hne)).trans q, hi⟩, fun b hb => ?_⟩
    · have e1 : ((i + 1 : Nat) : Int) = (i : Int) + 1 := by omega
      rw [e1]; exact he'
    · have hb' : b < s.heap.objs.size := by
        have e' : b = e ∨ b = it := by simpa using hb
        rcases e' with z | z
        · rw [z]; exact hel
        · rw [z]; exact hil
      rw [upd_ne (Nat.ne_of_lt hb')]
      exact (hf b hb).1
  done := by
    intro X hP hw hK hc i pins s σ H E I hf st hg
    obtain ⟨⟨old, he⟩, hs, hn⟩ := st
    obtain ⟨hi, hG⟩ := hg
    obtain ⟨Sx, d, sx1, sx2⟩ := D X hP hw hK hc pins s σ H I (hf it (by simp)).1 hG
    subst hP hw hK
    have : i = n := by omega
    subst this
    obtain ⟨f0, f1, f2, f3, f4, f5⟩ := hf it (by simp)
    exact wpAny_pyNext_enum_endD d he (sx1 _ hs) fun h' eb => ⟨rfl, I.turned (t' := s.toks) (fun b o hb q => eb b o hb q) f0 f1 f3 f4 f5⟩
  self := fun A i s Q E st h => let ⟨⟨_, he⟩, _⟩ := st; wpAny_pyIter_enum he h

theorem draws_mono {prog : Program} {w : World} {A : Around} {it : Addr} {fp : List Addr} {n : Nat} {P P' : Nat → Value → Prop} {St : Nat → Heap → Prop} (d : Draws prog w A it fp n P St) (h : ∀ i v, i < n → P i v → P' i v) : Draws prog w A it fp n P' St where
  live := d.live
  frame := d.frame
  item := fun i s Q E hi st hQ => d.item i s Q E hi st fun x h' tk hp => hQ x h' tk (h i x hi hp)
  done := d.done
theorem turn_enumT {P : Program} {w : World} {K : PySem.W.Frag} {elts : List Expr} {kk : Nat} {tpos : Pos} (a e it : Addr) (xs : List V) (hne : e ≠ it) (hea : e ≠ a) (hai : a ≠ it) :
    Turn P w K (.Tuple elts kk tpos) (Ien xs.length (fun H => SqT K H a xs) (fun _ i x => xs[i]? = some x)) [e, it] e (fun i h => (∃ old, IsEnum h e it ((i : Nat) : Int) old) ∧ h.IsTupleIter it a i ∧ i ≤ xs.length) := by
  refine turn_enumG (fp0 := [it, a]) (Pv := fun _ _ _ => True) e it hne (by simp [hne, hea]) (by simp) (fun i h st => ?_) (fun i h h' st k => st.at fun o q => k o q) fun X hP hw hK hc pins s σ H I hn hG => ?_
  · obtain ⟨o, ho, hc, hd⟩ := st
    exact ⟨o, ho, fun v q => by rw [hd] at q; cases q⟩
  · subst hP hw hK
    obtain ⟨its, rv, p, hz⟩ := I.tuple hG
    have hl := rv.length
    have d := Draws.tuple (prog := X.prog) (w := X.w) (A := X.A.in1) (by have := I.ok.hd hc; simpa using this) it a hai its.toArray
    have hs : its.toArray.size = xs.length := by simp [hl]
    rw [hs] at d
    refine ⟨_, draws_mono d fun i u hi hu => ?_, fun i st => ⟨st, p⟩, fun i h st => st.1⟩
    obtain ⟨v, hv, r⟩ := rv.get (List.getElem?_eq_getElem hi)
    have : its.toArray[i]? = some v := by simpa using hv
    rw [this] at hu
    cases hu
    exact ⟨xs[i], r, List.getElem?_eq_getElem hi⟩
theorem turn_enumS {P : Program} {w : World} {K : PySem.W.Frag} {elts : List Expr} {kk : Nat} {tpos : Pos} (e it : Addr) (l : List Nat) (t : Tok) (hne : e ≠ it) :
    Turn P w K (.Tuple elts kk tpos) (Ien l.length (fun _ => True) (fun _ i x => ∃ c, l[i]? = some c ∧ x = .str (S [c]))) [e, it] e (fun i h => (∃ old, IsEnum h e it ((i : Nat) : Int) old) ∧ h.IsStrIter it (strIterType (S l)) (S l) t i ∧ i ≤ l.length) := by
  refine turn_enumG (fp0 := [it]) (Pv := fun _ _ _ => True) e it hne (by simp [hne]) (by simp) (fun i h st => ?_) (fun i h h' st k => let ⟨o, ho, r⟩ := st; ⟨o, k o ho, r⟩) fun X hP hw hK hc pins s σ H I hn hG => ?_
  · obtain ⟨o, ho, hc, hd⟩ := st
    exact ⟨o, ho, fun v q => by rw [hd] at q; cases q⟩
  · subst hP hw hK
    have d := Draws.text (prog := X.prog) (w := X.w) (A := X.A.in1) (by have := I.ok.hd hc; simpa using this) it (S l) t
    have hs : (S l).cps.size = l.length := by simp
    rw [hs] at d
    refine ⟨_, draws_mono d fun i u hi hu => ?_, fun i st => st, fun i h st => st⟩
    obtain ⟨c, k, hc, rfl⟩ := hu
    exact ⟨.str (S [c]), ⟨k, rfl⟩, c, by simpa using hc, rfl⟩
def iEnumT (K : PySem.W.Frag) (ta : TA) : TI := fun σ H R => ta σ H fun vs H1 => ∃ a xs, vs = [.ref a] ∧ SqT K H1 a xs ∧ R (Ien xs.length (fun H => SqT K H a xs) (fun _ i x => xs[i]? = some x)) H1
def iEnumS (ta : TA) : TI := fun σ H R => ta σ H fun vs H1 => ∃ l, vs = [.str (S l)] ∧ R (Ien l.length (fun _ => True) (fun _ i x => ∃ c, l[i]? = some c ∧ x = .str (S [c]))) H1
section
variable {X : Cx} {e : Expr} {ta : TA} {p pos tpos : Pos} {elts : List Expr} {kk : Nat}
theorem fp_new {pins : List (Addr × Obj)} {σ : L2.St} {H : Hp} {s : Shared} (I : Inv X pins σ H s) : ∀ b ∈ [s.heap.objs.size + 1, s.heap.objs.size], FpOk X pins H b := fun b hb => by
  have hle : s.heap.objs.size ≤ b := by
    have e' : b = s.heap.objs.size + 1 ∨ b = s.heap.objs.size := by simpa using hb
    rcases e' with z | z
    · rw [z]; exact Nat.le_add_right _ _
    · rw [z]; exact Nat.le_refl _
  exact I.fpOk hle (I.hok.fresh hle)
theorem pi_enumT (hg : Gl X "enumerate") (hm : X.mg "enumerate" = none) (ha : PA X [e] ta) (hs : starEach [e] X.env = [(false, eval e X.env)] := by rfl) :
    PI X (.Tuple elts kk tpos) (.Call (.Name "enumerate" p) [e] [] pos) (iEnumT X.K ta) := by
  refine ⟨fun pins s σ H R I h => ?_⟩
  refine Call_ (ld_blt I hg hm boot_enumerate (PyProof.Rows.callWith_type1 (thn (ha.run pos pins s σ H _ I h) fun us s1 ⟨vs, H1, I1, r1, q1⟩ => ?_) hs rfl))
  obtain ⟨a, xs, ex, hq, q⟩ := q1
  subst ex
  cases r1 with
  | cons r rr =>
    cases rr
    cases r
    obtain ⟨its, rv, p', hz⟩ := I1.tuple hq
    have hlt : a < s1.heap.objs.size := by obtain ⟨_, q, _⟩ := p'; exact Heap.lt_size q
    refine call_enum1 (begins_tuple a its.toArray) p' fun h' he hit hsz hk => wpAny_pyIter_enum he ?_
    have I2 : Inv X pins σ H1 { s1 with heap := h' } := I1.kept (t' := s1.toks) hk
    exact ⟨s1.heap.objs.size + 1, [s1.heap.objs.size + 1, s1.heap.objs.size], _, _, H1, rfl, I2, turn_enumT a (s1.heap.objs.size + 1) s1.heap.objs.size xs (Nat.succ_ne_self _) (Nat.ne_of_gt (Nat.lt_succ_of_lt hlt)) (Nat.ne_of_lt hlt), ⟨⟨.none, he⟩, ⟨_, hit, rfl, rfl⟩, Nat.zero_le _⟩, fp_new I1, q⟩
theorem pi_enumS (hg : Gl X "enumerate") (hm : X.mg "enumerate" = none) (ha : PA X [e] ta) (hs : starEach [e] X.env = [(false, eval e X.env)] := by rfl) :
    PI X (.Tuple elts kk tpos) (.Call (.Name "enumerate" p) [e] [] pos) (iEnumS ta) := by
  refine ⟨fun pins s σ H R I h => ?_⟩
  refine Call_ (ld_blt I hg hm boot_enumerate (PyProof.Rows.callWith_type1 (thn (ha.run pos pins s σ H _ I h) fun us s1 ⟨vs, H1, I1, r1, q1⟩ => ?_) hs rfl))
  obtain ⟨l, ex, q⟩ := q1
  subst ex
  cases r1 with
  | cons r rr =>
    cases rr
    obtain ⟨t, rfl⟩ := r
    refine call_enum1 (begins_text (S l) t) trivial fun h' he hit hsz hk => wpAny_pyIter_enum he ?_
    have I2 : Inv X pins σ H1 { s1 with heap := h' } := I1.kept (t' := s1.toks) hk
    exact ⟨s1.heap.objs.size + 1, [s1.heap.objs.size + 1, s1.heap.objs.size], _, _, H1, rfl, I2, turn_enumS (s1.heap.objs.size + 1) s1.heap.objs.size l t (Nat.succ_ne_self _), ⟨⟨.none, he⟩, ⟨_, hit, rfl, rfl⟩, Nat.zero_le _⟩, fp_new I1, q⟩
end
/-! ### on plain data -/
def enumD (ds : List D) : List D := ds.zipIdx.map fun p => .tup [.int (p.2 : Nat), p.1]
theorem enumD_len (ds : List D) : (enumD ds).length = ds.length := by simp [enumD]
theorem enumD_get {ds : List D} {i : Nat} {d : D} (h : (enumD ds)[i]? = some d) : ∃ x, ds[i]? = some x ∧ d = .tup [.int (i : Nat), x] := by
  simp only [enumD, List.getElem?_map, List.getElem?_zipIdx] at h
  cases hx : ds[i]? with
  | none => rw [hx] at h; cases h
  | some x => rw [hx] at h; simp at h; exact ⟨x, rfl, h.symm⟩
section
variable {K : PySem.W.Frag}
theorem pair_rp {H : Hp} {T : Addr} {i : Nat} {x : V} {d : D} (h : H T = none) (r : Rp K H d x) : Rp K (upd H T (.tup [.int (i : Nat), x])) (.tup [.int (i : Nat), d]) (.ref T) :=
  ⟨T, _, rfl, SqT.of upd_same, RpAll.cons rfl (RpAll.cons (r.mono (same_new h)) RpAll.nil)⟩
theorem it_enumG {F : Hp} {n : Nat} {G : Hp → Prop} {W : Hp → Nat → V → Prop} {ds : List D} (hn : n = ds.length) (hG : ∀ H, Same F H → G H) (hW : ∀ H i x d, Same F H → ds[i]? = some d → W H i x → Rp K H d x) : ItOk K (Ien n G W) F (enumD ds) := by
  intro H s
  refine ⟨fun i d hd => ?_, fun i hi => ⟨by rw [hn]; rw [enumD_len] at hi; exact hi, hG H s⟩⟩
  obtain ⟨x, hx, rfl⟩ := enumD_get hd
  refine ⟨⟨by rw [hn]; exact (List.getElem?_eq_some_iff.mp hx).1, hG H s⟩, fun v H' ⟨T, y, e1, e2, e3, e4⟩ => ?_⟩
  subst e1 e3
  exact ⟨same_new e2, pair_rp e2 (hW H i y x s hx e4)⟩
theorem it_enumT {F : Hp} {a : Addr} {xs : List V} {ds : List D} (h : SqT K F a xs) (r : RpAll K F ds xs) : ItOk K (Ien xs.length (fun H => SqT K H a xs) (fun _ i x => xs[i]? = some x)) F (enumD ds) := by
  refine it_enumG r.length.symm (fun H s => Same.sqT s h) fun H i x d s hd hx => ?_
  obtain ⟨v, hv, hr⟩ := r.get hd
  rw [hv] at hx
  cases hx
  exact hr.mono s
theorem it_enumS {F : Hp} (l : List Nat) : ItOk K (Ien l.length (fun _ => True) (fun _ i x => ∃ c, l[i]? = some c ∧ x = .str (S [c]))) F (enumD (chD l)) := by
  refine it_enumG (by simp [chD]) (fun _ _ => trivial) fun H i x d s hd hx => ?_
  obtain ⟨c, hc, rfl⟩ := hx
  simp [chD, hc] at hd
  subst hd
  rfl
theorem it_enumL {F : Hp} {a : Addr} {xs : List V} {ds : List D} (h : SqL K F a xs) (r : RpAll K F ds xs) : ItOk K (Ite K a) F (enumD ds) := by
  intro H s
  refine ⟨fun i d hd => ?_, fun i hi => ⟨xs, s.seq h, by rw [← r.length]; rw [enumD_len] at hi; exact hi⟩⟩
  obtain ⟨x, hx, rfl⟩ := enumD_get hd
  obtain ⟨v, hv, hr⟩ := r.get hx
  refine ⟨⟨xs, v, s.seq h, hv⟩, fun u H' ⟨T, y, e1, e2, e3, e4⟩ => ?_⟩
  subst e1 e3
  have := e4 xs (s.seq h)
  rw [hv] at this
  cases this
  exact ⟨same_new e2, pair_rp e2 (hr.mono s)⟩
def enumTup : D → Res (List D)
  | .tup xs => .ok (enumD xs)
  | _ => .bad
def enumStr : D → Res (List D)
  | .str l => .ok (enumD (chD l))
  | _ => .bad
def varEnum (i : Nat) : En → Res (List D) := fun e => match e[i]? with
  | some (.dat (.lst xs)) => .ok (enumD xs)
  | _ => .bad
variable {X : Cx} {W : Wx} {ex : Expr} {p pos tpos : Pos} {elts : List Expr} {kk : Nat} {f : En → Res D}
theorem pit_enumStr (hg : Gl X "enumerate") (hm : X.mg "enumerate" = none) (ha : PE X ex (tD X.K W f)) (hs : starEach [ex] X.env = (false, eval ex X.env) :: starEach [] X.env := by rfl) : PI X (.Tuple elts kk tpos) (.Call (.Name "enumerate" p) [ex] [] pos) (tI X.K W (itF enumStr f)) := by
  refine PI.weak (pi_enumS hg hm (pa_cons ha pa_nil hs) hs) ?_
  rintro σ H R ⟨e, he, hf⟩
  refine ⟨e, he, ?_⟩
  unfold itF at hf
  cases h1 : f e with
  | bad => rw [h1] at hf; exact hf
  | exc c => rw [h1] at hf; exact hf
  | ok d =>
    rw [h1, rb_ok] at hf
    intro v H1 s1 r1
    cases d with
    | str l =>
      cases r1
      exact ⟨l, rfl, hf _ H1 s1 (it_enumS l)⟩
    | _ => exact (hf : False).elim
theorem pif_enumStr (hg : Gl X "enumerate") (hm : X.mg "enumerate" = none) (ha : PE X ex (tD X.K W f)) (hs : starEach [ex] X.env = (false, eval ex X.env) :: starEach [] X.env := by rfl) : PI X (.Tuple elts kk tpos) (.Call (.Name "enumerate" p) [ex] [] pos) (tIF X.K W (itF enumStr f)) := by
  refine PI.weak (pi_enumS hg hm (pa_cons ha pa_nil hs) hs) ?_
  rintro σ H R ⟨G, e, he, hf⟩
  refine ⟨e, he.env, ?_⟩
  unfold itF at hf
  cases h1 : f e with
  | bad => rw [h1] at hf; exact hf
  | exc c => rw [h1] at hf; exact fun H' s => hf H' (he.same.trans s)
  | ok d =>
    rw [h1, rb_ok] at hf
    intro v H1 s1 r1
    cases d with
    | str l =>
      cases r1
      exact ⟨l, rfl, hf _ H1 _ (he.grow s1).2 (he.grow s1).1 (it_enumS l)⟩
    | _ => exact (hf : False).elim
theorem pif_enumTup (hg : Gl X "enumerate") (hm : X.mg "enumerate" = none) (ha : PE X ex (tD X.K W f)) (hs : starEach [ex] X.env = (false, eval ex X.env) :: starEach [] X.env := by rfl) : PI X (.Tuple elts kk tpos) (.Call (.Name "enumerate" p) [ex] [] pos) (tIF X.K W (lfG enumTup f)) := by
  refine PI.weak (pi_enumT hg hm (pa_cons ha pa_nil hs) hs) ?_
  rintro σ H R ⟨G, e, he, hf⟩
  refine ⟨e, he.env, ?_⟩
  unfold lfG at hf
  cases h1 : f e with
  | bad => rw [h1] at hf; exact hf
  | exc c => rw [h1] at hf; exact fun H' s => hf H' (he.same.trans s)
  | ok d =>
    rw [h1, rb_ok] at hf
    intro v H1 s1 r1
    split at hf
    · rename_i hl
      have r2 := he.lift s1 hl r1
      cases d with
      | tup xs =>
        obtain ⟨a, vs, rfl, h2, h3⟩ := r2
        exact ⟨a, vs, rfl, Same.sqT (hide_same _) h2, hf _ H1 _ (he.grow s1).2 (he.grow s1).1 (it_enumT h2 h3)⟩
      | _ => exact (hf : False).elim
    · exact hf.elim
theorem pif_enumVar (hm : X.mg "enumerate" = none) (i : Nat) {x : Str} {px : Pos} (hN : X.N[i]? = some x := by rfl) (hv : Vis X.env.scope x := by first | exact Or.inl rfl | exact Or.inr (Or.inl rfl) | exact Or.inr (Or.inr rfl)) (hd : (x == ("__debug__" : Str)) = false := by decide)
    (hcd : (x == ("__classdict__" : Str)) = false := by decide) (hs : starEach [.Name x px] X.env = (false, eval (.Name x px) X.env) :: starEach [] X.env := by rfl) (hg : Gl X "enumerate" := by rfl) : PI X (.Tuple elts kk tpos) (.Call (.Name "enumerate" p) [.Name x px] [] pos) (tIF X.K W (varEnum i)) := by
  refine PI.weak (pi_enum hg hm (pa_cons (pe_var hN hv hd hcd) pa_nil hs) hs) ?_
  rintro σ H R ⟨G, e, he, hf⟩
  unfold varEnum at hf
  split at hf
  · rename_i xs hx
    obtain ⟨v, e1, a, vs, rfl, h2, h3⟩ := he.at_ i _ hx
    exact ⟨_, e1, a, vs, rfl, (hide_same _).seq h2, hf _ H _ (he.grow (Same.refl H)).2 (he.grow (Same.refl H)).1 (it_enumL h2 h3)⟩
  · exact hf.elim
end
end FM

set_option Elab.async false
set_option linter.all false
set_option maxRecDepth 100000
/-! FM10: zip of two tuples, strip, text times int, isinstance of (int, str). -/
namespace FM
open PySem PySem.Spec PyProof.Rows L2
/-! ### zip -/
def zipD (xs ys : List D) : List D := (xs.zip ys).map fun p => .tup [p.1, p.2]
def asZip : List D → Res (List D)
  | [.tup xs, .tup ys] => .ok (zipD xs ys)
  | _ => .bad
section
variable {K : PySem.W.Frag}
theorem zipD_get {xs ys : List D} {i : Nat} {d : D} (h : (zipD xs ys)[i]? = some d) : ∃ x y, xs[i]? = some x ∧ ys[i]? = some y ∧ d = .tup [x, y] := by
  simp only [zipD, List.getElem?_map, List.getElem?_zip_eq_some, Option.map_eq_some_iff] at h
  obtain ⟨⟨x, y⟩, ⟨h1, h2⟩, rfl⟩ := h
  exact ⟨x, y, h1, h2, rfl⟩
theorem it_zip {F : Hp} {a b : Addr} {xs ys : List V} {ds es : List D} (h : SqT K F a xs) (r : RpAll K F ds xs) (h2 : SqT K F b ys) (r2 : RpAll K F es ys) : ItOk K (RZ.ItzT K a b) F (zipD ds es) := by
  intro H s
  refine ⟨fun i d hd => ?_, fun i hi => ⟨xs, ys, Same.sqT s h, Same.sqT s h2, ?_⟩⟩
  · obtain ⟨x, y, hx, hy, rfl⟩ := zipD_get hd
    obtain ⟨v, hv, hr⟩ := r.get hx
    obtain ⟨v2, hv2, hr2⟩ := r2.get hy
    refine ⟨⟨xs, ys, v, v2, Same.sqT s h, Same.sqT s h2, hv, hv2⟩, fun u H' ⟨T, p, q, e1, e2, e3, e4, e5⟩ => ?_⟩
    subst e1 e3
    have z1 := e4 xs (Same.sqT s h)
    have z2 := e5 ys (Same.sqT s h2)
    rw [hv] at z1
    rw [hv2] at z2
    cases z1
    cases z2
    exact ⟨same_new e2, T, _, rfl, SqT.of upd_same, RpAll.cons ((hr.mono s).mono (same_new e2)) (RpAll.cons ((hr2.mono s).mono (same_new e2)) RpAll.nil)⟩
  · have l1 := r.length
    have l2 := r2.length
    simp only [zipD, List.length_map, List.length_zip] at hi
    omega
variable {X : Cx} {W : Wx} {e1 e2 : Expr} {p pos tpos : Pos} {elts : List Expr} {kk : Nat} {f : En → Res (List D)}
theorem pit_zip (hg : Gl X "zip") (hm : X.mg "zip" = none) (ha : PA X [e1, e2] (tDs X.K W f)) (hs : starEach [e1, e2] X.env = (false, eval e1 X.env) :: starEach [e2] X.env := by rfl) (hpl : (backTo pos (starEach [e2] X.env)).any (·.1) = false := by rfl) :
    PI X (.Tuple elts kk tpos) (.Call (.Name "zip" p) [e1, e2] [] pos) (tI X.K W (itF asZip f)) := by
  refine PI.weak (RZ.pi_zipA hg hm ha hs hpl) ?_
  rintro σ H R ⟨e, he, hf⟩
  refine ⟨e, he, ?_⟩
  unfold itF at hf
  cases h1 : f e with
  | bad => rw [h1] at hf; exact hf
  | exc c => rw [h1] at hf; exact hf
  | ok ds =>
    rw [h1, rb_ok] at hf
    intro vs H1 s1 r1
    unfold asZip at hf
    split at hf
    · rename_i xs ys
      obtain ⟨v, r, rfl, ⟨a, us, rfl, h2, h3⟩, v2, r', rfl, ⟨b, us2, rfl, h4, h5⟩, rr⟩ := r1
      cases rr
      exact ⟨a, b, us, us2, rfl, .inr ⟨h2, h4, hf _ H1 s1 (it_zip h2 h3 h4 h5)⟩⟩
    · exact hf.elim
end
/-! ### strip -/
def stripO : D → D → Option D
  | .str a, .str b => if a.length ≤ 1000000 then some (.str (Txt.stripChars (S a) (S b)).cps.toList) else none
  | _, _ => none
section
variable {X : Cx} {W : Wx} {a ex : Expr} {apos pos : Pos} {f fb : En → Res D}
theorem pd_strip (ha : PE X a (tD X.K W f)) (hb : PE X ex (tD X.K W fb)) (hs : starEach [ex] X.env = [(false, eval ex X.env)] := by rfl) (hbase : attributeBase a "strip" X.env (eval a X.env) = eval a X.env := by rfl) (hline : (apos.endLine == pos.line) = true := by rfl) :
    PE X (.Call (.Attribute a "strip" apos) [ex] [] pos) (tD X.K W (bopS stripO f fb)) := by
  refine PE.weak (pe_m1 F.slot_str_strip F.type_str_strip mt_stripChars ha hb hs hbase hline) ?_
  rintro σ H Q ⟨e, he, hf⟩
  refine ⟨e, he, ?_⟩
  unfold bopS at hf
  cases h1 : f e with
  | bad => rw [h1] at hf; exact hf
  | exc c => rw [h1] at hf; exact hf
  | ok d =>
    rw [h1, rb_ok] at hf
    intro v H1 s1 r1
    by_cases hS : isS d = true
    rotate_left
    · rw [if_neg hS] at hf; exact hf.elim
    rw [if_pos hS] at hf
    cases d with
    | str l =>
      cases r1
      refine ⟨⟨_, rfl⟩, e, he.mono s1, ?_⟩
      cases h2 : fb e with
      | bad => rw [h2] at hf; exact hf.elim
      | exc c => rw [h2] at hf; exact fun H' q => hf H' (s1.trans q)
      | ok d2 =>
        rw [h2, rb_ok] at hf
        intro v2 H2 s2 r2
        cases d2 with
        | str m =>
          cases r2
          by_cases hl : l.length ≤ 1000000
          · have hz : stripO (.str l) (.str m) = some (.str (Txt.stripChars (S l) (S m)).cps.toList) := by simp only [stripO]; rw [if_pos hl]
            rw [hz] at hf
            refine ⟨S l, S m, rfl, rfl, ?_, hf _ H2 (s1.trans s2) ?_⟩
            · rw [sizeLine_eq]
              have : (S l).length = l.length := by simp [Str.length]
              omega
            · show _ = V.str (S _)
              rw [S_toList]
          · have hz : stripO (.str l) (.str m) = none := by simp only [stripO]; rw [if_neg hl]
            rw [hz] at hf
            exact hf.elim
        | _ => exact (hf : False).elim
    | _ => cases hS
end
/-! ### a text times an int -/
def mulS : D → D → Option D
  | .str l, .int n => if 0 ≤ n ∧ n ≤ 1000 ∧ l.length ≤ 1000 then some (.str (List.replicate n.toNat l).flatten) else none
  | _, _ => none
theorem foldl_cps (l : List Nat) : ∀ (m : Nat) (acc : List Nat), (List.replicate m (S l).cps).foldl (· ++ ·) acc.toArray = (acc ++ (List.replicate m l).flatten).toArray
  | 0, acc => by simp
  | m + 1, acc => by
    rw [List.replicate_succ, List.foldl_cons, List.replicate_succ, List.flatten_cons, ← List.append_assoc]
    have : acc.toArray ++ (S l).cps = (acc ++ l).toArray := by simp [S]
    rw [this]
    exact foldl_cps l m (acc ++ l)
def rMulT : R2 := fun x y H Q => ∃ (l : List Nat) (n : Int), x = .str (S l) ∧ y = .int n ∧ 0 ≤ n ∧ n ≤ 1000 ∧ l.length ≤ 1000 ∧ Q (.str (S (List.replicate n.toNat l).flatten)) H
theorem op_mulT {X : Cx} : OpR X (binaryOp .Mult) rMulT := by
  intro pins s σ H x y v u Q I rx ry h
  obtain ⟨l, n, rfl, rfl, h0, h1, h2, q⟩ := h
  obtain ⟨t, rfl⟩ := rx
  obtain ⟨t2, rfl⟩ := ry
  have hlen : (S l).length = l.length := by simp [Str.length]
  have hflat : (List.replicate n.toNat l).flatten.length = n.toNat * l.length := by simp
  have hmul : n.toNat * l.length ≤ 1000 * 1000 := Nat.mul_le_mul (by omega) h2
  have hz : l.length * n.toNat ≤ 1000000 := by rw [Nat.mul_comm]; exact hmul
  refine PySem.P.mul_str (by
    rw [decide_eq_false (by omega), decide_eq_false (by omega)]; rfl) (fun a b c => ?_) (fun a b => ?_) ?_
  · have h3 : (1 : Int) ≤ n := by omega
    have h4 : (9223372036854775807 : Int) / 1000 ≤ (2 ^ 63 - 1) / n := by
      have e : (2 ^ 63 - 1 : Int) = 9223372036854775807 := by decide
      rw [e]
      have : n * (9223372036854775807 / 1000) ≤ 9223372036854775807 := by
        have : (9223372036854775807 : Int) / 1000 = 9223372036854775 := by decide
        rw [this]
        have := Int.mul_le_mul_of_nonneg_right h1 (show (0 : Int) ≤ 9223372036854775 by decide)
        omega
      exact (Int.le_ediv_iff_mul_le (by omega)).mpr (by rw [Int.mul_comm]; exact this)
    rw [hlen] at c
    have e : (9223372036854775807 : Int) / 1000 = 9223372036854775 := by decide
    rw [e] at h4
    omega
  · rw [hlen]
    simp [Builtin.Str.tooLong, sizeLine]
    omega
  · have fl := foldl_cps l n.toNat []
    rw [List.nil_append] at fl
    by_cases c1 : n < 1
    · rw [if_pos c1]
      have : n = 0 := by omega
      subst this
      exact ⟨by decide, .str Str.empty, H, I.tok _, ⟨_, rfl⟩, q⟩
    · rw [if_neg c1]
      by_cases c2 : (n == 1 || (S l).length == 0) = true
      · rw [if_pos c2]
        refine ⟨.str (S l), H, I, ⟨_, rfl⟩, ?_⟩
        have : (List.replicate n.toNat l).flatten = l := by
          rw [hlen] at c2
          simp at c2
          rcases c2 with rfl | rfl
          · simp
          · simp
        rw [this] at q
        exact q
      · rw [if_neg c2]
        have e : (⟨(List.replicate n.toNat (S l).cps).foldl (· ++ ·) #[]⟩ : Str) = S (List.replicate n.toNat l).flatten := by
          show (⟨_⟩ : Str) = ⟨_⟩
          rw [show (#[] : Array Nat) = ([] : List Nat).toArray from rfl, fl]
        rw [e]
        refine ⟨?_, .str _, H, I.tok _, ⟨_, rfl⟩, q⟩
        have : (S (List.replicate n.toNat l).flatten).length = n.toNat * l.length := by simp [Str.length]
        first | (rw [this, sizeLine_eq]; omega) | (simp; omega)
section
variable {X : Cx} {W : Wx} {a b : Expr} {pos : Pos} {f fb : En → Res D}
theorem pd_mulS (ha : PE X a (tD X.K W f)) (hb : PE X b (tD X.K W fb)) : PE X (.BinOp a .Mult b pos) (tD X.K W (bopF mulS f fb)) := by
  refine pd_op op_mulT (fun x y H Q d d2 z r1 r2 hz q => ?_) ha hb
  unfold mulS at hz
  split at hz
  · split at hz
    · rename_i h
      cases hz
      cases r1
      cases r2
      exact ⟨_, _, rfl, rfl, h.1, h.2.1, h.2.2, q _ H (Same.refl H) rfl⟩
    · cases hz
  · cases hz
end
/-! ### isinstance(x, (int, str)) -/
def isiIS : D → Option D
  | .bl _ => some (.bl true)
  | .int _ => some (.bl true)
  | .str _ => some (.bl true)
  | _ => some (.bl false)
theorem kitB_is {K : PySem.W.Frag} (d : D) : PySem.W.kitAny K (.type (tyD d)) [.type "int", .type "str"] = some (match d with | .bl _ => true | .int _ => true | .str _ => true | _ => false) := by
  have k1 := kit_int
  have k2 := kit_str
  unfold kitAll at k1 k2
  simp only [Bool.and_eq_true, decide_eq_true_eq] at k1 k2
  obtain ⟨⟨⟨⟨⟨a1, a2⟩, a3⟩, a4⟩, a5⟩, a6⟩ := k1
  obtain ⟨⟨⟨⟨⟨b1, b2⟩, b3⟩, b4⟩, b5⟩, b6⟩ := k2
  cases d with
  | non => exact kitAny_cons (kit_ty a1) (fun _ => kitAny_cons (kit_ty b1) (fun _ => kitAny_nil) (fun h => by cases h)) (fun h => by cases h)
  | bl b => exact kitAny_cons (kit_ty a2) (fun h => by cases h) (fun _ => rfl)
  | int b => exact kitAny_cons (kit_ty a3) (fun h => by cases h) (fun _ => rfl)
  | str b => exact kitAny_cons (kit_ty a4) (fun _ => kitAny_cons (kit_ty b4) (fun h => by cases h) (fun _ => rfl)) (fun _ => rfl)
  | tup b => exact kitAny_cons (kit_ty a5) (fun _ => kitAny_cons (kit_ty b5) (fun _ => kitAny_nil) (fun h => by cases h)) (fun h => by cases h)
  | lst b => exact kitAny_cons (kit_ty a6) (fun _ => kitAny_cons (kit_ty b6) (fun _ => kitAny_nil) (fun h => by cases h)) (fun h => by cases h)
section
variable {X : Cx} {W : Wx} {a : Expr} {p pos p2 p3 tp : Pos} {x1 : Nat} {f : En → Res D}
theorem pd_isiIS (hm : X.mg "isinstance" = none) (hi : X.mg "int" = none) (hs : X.mg "str" = none) (ha : PE X a (tD X.K W f)) (hg : Gl X "isinstance" := by rfl) (hg2 : Gl X "int" := by rfl) (hg3 : Gl X "str" := by rfl)
    (he : starEach [a, .Tuple [.Name "int" p2, .Name "str" p3] x1 tp] X.env = (false, eval a X.env) :: starEach [.Tuple [.Name "int" p2, .Name "str" p3] x1 tp] X.env := by rfl)
    (he2 : starEach [.Tuple [.Name "int" p2, .Name "str" p3] x1 tp] X.env = (false, eval (.Tuple [.Name "int" p2, .Name "str" p3] x1 tp) X.env) :: starEach [] X.env := by rfl)
    (he3 : starEach [.Name "int" p2, .Name "str" p3] X.env = (false, eval (.Name "int" p2) X.env) :: starEach [.Name "str" p3] X.env := by rfl) (he4 : starEach [.Name "str" p3] X.env = (false, eval (.Name "str" p3) X.env) :: starEach [] X.env := by rfl)
    (hpl : (backTo pos (starEach [.Tuple [.Name "int" p2, .Name "str" p3] x1 tp] X.env)).any (·.1) = false := by rfl) :
    PE X (.Call (.Name "isinstance" p) [a, .Tuple [.Name "int" p2, .Name "str" p3] x1 tp] [] pos) (tD X.K W (uopF isiIS f)) := by
  have n1 : PE X (.Name "int" p2) (tC (.ty "int")) := pe_bltn hg2 hi PyProof.Rows.boot_int rfl (by decide) (by decide)
  have n2 : PE X (.Name "str" p3) (tC (.ty "str")) := pe_bltn hg3 hs PyProof.Rows.boot_str rfl (by decide) (by decide)
  refine PE.weak (pe_callB call_isiT hg hm PyProof.Rows.boot_isinstance (pa_cons ha (pa_cons (pe_tup (pa_cons n1 (pa_cons n2 pa_nil he4) he3)) pa_nil he2) he) (by decide) (by decide) he hpl) ?_
  rintro σ H Q ⟨e, he, hf⟩
  refine ⟨e, he, ?_⟩
  unfold uopF at hf
  cases h1 : f e with
  | bad => rw [h1] at hf; exact hf
  | exc c => rw [h1] at hf; exact hf
  | ok d =>
    rw [h1, rb_ok] at hf
    intro v H1 s1 r1
    refine ⟨by rw [sizeLine_eq]; decide, fun q hq => ?_⟩
    refine ⟨v, q, [.ty "int", .ty "str"], .type (tyD d), [.type "int", .type "str"], _, rfl, upd_same, .cons (.ty "int") (.cons (.ty "str") .nil), tyX_of (r1.mono (same_new hq)), kitB_is d, ?_⟩
    cases d <;> exact hf _ _ (s1.trans (same_new hq)) rfl
end
end FM

set_option Elab.async false
set_option linter.all false
set_option maxRecDepth 100000
/-! FM11: sorted. -/
namespace FM
open PySem PySem.Spec PyProof.Rows L2
section
variable {X : Cx} {pins : List (Addr × Obj)} {σ : L2.St} {H : Hp} {s : Shared}
mutual
theorem Rp.reads (I : Inv X pins σ H s) : ∀ {d : D} {x : V} {u : Value}, d.lf = true → Rp X.K H d x → RelV x u → Reads s.heap u (toPy d) []
  | .non, _, _, _, r, q => by cases r; cases q; exact .none
  | .bl b, _, _, _, r, q => by cases r; cases q; exact .bool b
  | .int i, _, _, _, r, q => by cases r; obtain ⟨t, rfl⟩ := q; exact .int i t
  | .str l, _, _, _, r, q => by cases r; obtain ⟨t, rfl⟩ := q; exact .str (S l) t
  | .lst ds, _, _, h, _, _ => by simp [D.lf] at h
  | .tup ds, _, _, h, r, q => by
    obtain ⟨a, xs, rfl, h1, h2⟩ := r
    cases q
    obtain ⟨its, rv, ⟨o, ho, hc, n, hd⟩, _⟩ := I.tuple h1
    exact .tuple ho hc hd (by simpa using RpAll.reads I (by simpa [D.lf] using h) h2 rv)
theorem RpAll.reads (I : Inv X pins σ H s) : ∀ {ds : List D} {xs : List V} {us : List Value}, lfAll ds = true → RpAll X.K H ds xs → Vals xs us → ReadsAll s.heap us (toPyAll ds) []
  | [], _, _, _, r, q => by cases r; cases q; exact .nil
  | d :: ds, _, _, h, r, q => by
    obtain ⟨v, r', rfl, h1, h2⟩ := r
    cases q with
    | cons q1 q2 =>
      simp only [lfAll, Bool.and_eq_true] at h
      exact ReadsAll.cons (as := []) (bs := []) (Rp.reads I h.1 h1 q1) (RpAll.reads I h.2 h2 q2)
end
end
noncomputable def leD : D → D → Bool := PySem.W.dataLe false toPy
structure OkSort (ds : List D) : Prop where
  lf : lfAll ds = true
  al : PySem.W.AllAlike (ds.map toPy)
  so : PySem.W.Sortable (ds.map toPy)
  dp : ∀ d ∈ ds, (toPy d).depth ≤ 4
  ln : ds.length ≤ 1000000
noncomputable def sortD : D → Option (List D)
  | .lst ds => open Classical in if OkSort ds then some (ds.mergeSort leD) else none
  | _ => none
theorem each_vals {K : PySem.W.Frag} {H : Hp} : ∀ {bs : List (V × D)} {out : List Value}, PySem.W.EachIs (fun u p => RelV p.1 u ∧ Rp K H p.2 p.1) out bs → Vals (bs.map (·.1)) out ∧ RpAll K H (bs.map (·.2)) (bs.map (·.1))
  | _, _, .nil => ⟨.nil, rfl⟩
  | _, _, .cons h t => by
    obtain ⟨h1, h2⟩ := each_vals t
    exact ⟨.cons h.1 h1, RpAll.cons h.2 h2⟩
theorem each_of {K : PySem.W.Frag} {H : Hp} : ∀ {ds : List D} {xs : List V} {us : List Value}, RpAll K H ds xs → Vals xs us → PySem.W.EachIs (fun u p => RelV p.1 u ∧ Rp K H p.2 p.1) us (xs.zip ds)
  | [], _, _, r, q => by cases r; cases q; exact .nil
  | d :: ds, _, _, r, q => by
    obtain ⟨v, r', rfl, h1, h2⟩ := r
    cases q with
    | cons q1 q2 => exact .cons ⟨q1, h1⟩ (each_of h2 q2)
theorem zip_snd {K : PySem.W.Frag} {H : Hp} {ds : List D} {xs : List V} (r : RpAll K H ds xs) : (xs.zip ds).map (·.2) = ds := by
  have := r.length
  exact List.map_snd_zip (by omega)
theorem sort_snd {bs : List (V × D)} : (bs.mergeSort (PySem.W.dataLe false fun p => toPy p.2)).map (·.2) = (bs.map (·.2)).mergeSort leD := by
  rw [List.map_mergeSort]
  intro a _ b _
  rfl
def rSortD (K : PySem.W.Frag) : List V → Hp → VK → Prop := fun vs H Q => ∃ (a : Addr) (xs : List V) (ds : List D), vs = [.ref a] ∧ SqL K H a xs ∧ RpAll K H ds xs ∧ OkSort ds ∧ ∀ ys p, RpAll K H (ds.mergeSort leD) ys → H p = none → Q (.ref p) (upd H p (.lst ys))
theorem cr_sortD {X : Cx} {k : Nat} (hr : Room k X.A) : CallR X (.builtin "sorted") (rSortD X.K) := by
  intro pins s σ H vs us Q I r h
  obtain ⟨a, xs, ds, rfl, hs, hd, ok, q⟩ := h
  obtain ⟨its, rv, hl, hz⟩ := I.list hs
  obtain rfl := Vals.ref1 r
  have l1 := hd.length
  have l2 := rv.length
  have e0 := each_of hd rv
  have ez : ((xs.zip ds).map fun p => toPy p.2) = ds.map toPy := by
    rw [← zip_snd hd, List.map_map]
    congr 1
    rw [zip_snd hd]
  refine PySem.W.sorted_data (enc := fun p : V × D => toPy p.2) hl.isList e0 (PySem.W.EachIs.of_zip (by rw [e0.length]) fun p hp => ?_) (by rw [ez]; exact ok.al) (by rw [ez]; exact ok.so) (by rw [← e0.length]; rw [← l2]; exact hz) (fun p hp => ?_) fun out ho he => ?_
  · have h1 := e0.zip p hp
    refine ⟨[], Rp.reads I ?_ h1.2 h1.1⟩
    have hm : p.2.2 ∈ ds := (List.of_mem_zip (List.of_mem_zip hp).2).2
    exact lfAll_iff.mp ok.lf _ hm
  · have hm : p.2 ∈ ds := (List.of_mem_zip hp).2
    have := ok.dp p.2 hm
    have := hr.un
    show X.A.units + 2 + (toPy p.2).depth < _
    omega
  · obtain ⟨ep, he'⟩ := PyProof.Rows.sortedAll_at s.heap its out.toArray
    obtain ⟨v1, v2⟩ := each_vals he
    rw [sort_snd, zip_snd hd] at v2
    have hlen := v1.length
    refine ⟨.ref _, upd H (s.heap.objs.size + 1) (.lst _), I.laid (t' := s.toks) (fun _ _ => PyProof.Rows.sortedAll_old) (Nat.le_succ _) ⟨?_, out, ep, v1, by simpa using he'⟩, rfl, q _ _ v2 (I.hok.fresh (Nat.le_succ _))⟩
    rw [hlen, ho, ← e0.length, ← l2]
    exact hz
noncomputable def sortDs : List D → Option (List D)
  | [d] => sortD d
  | _ => none
section
variable {X : Cx} {W : Wx} {k : Nat} {e : Expr} {es : List Expr} {p pos : Pos} {fa : En → Res (List D)}
theorem pn_sorted (hr : Room k X.A) (hm : X.mg "sorted" = none) (ha : PA X (e :: es) (tDs X.K W fa)) (hg : Gl X "sorted" := by rfl) (he : starEach (e :: es) X.env = (false, eval e X.env) :: starEach es X.env := by rfl) (hpl : (backTo pos (starEach es X.env)).any (·.1) = false := by rfl) :
    PE X (.Call (.Name "sorted" p) (e :: es) [] pos) (tN X.K W (callF sortDs fa)) := by
  refine PE.weak (pe_callB (cr_sortD hr) hg hm (by decide +kernel) ha (by decide) (by decide) he hpl) (tN_call fun xs H Q ds z r hz q => ?_)
  unfold sortDs at hz
  split at hz
  · rename_i d
    unfold sortD at hz
    split at hz
    · split at hz
      · rename_i ok
        cases hz
        obtain ⟨v, r', rfl, ⟨a, ys, rfl, h1, h2⟩, rr⟩ := r
        cases rr
        exact ⟨a, ys, _, rfl, h1, h2, ok, fun zs p hz hp => q p zs _ hp (same_new hp) upd_same (hz.mono (same_hide1 hp))⟩
      · cases hz
    · cases hz
  · cases hz
end
end FM

set_option Elab.async false
set_option linter.all false
set_option maxRecDepth 100000
/-! FM12: sorted(found, key=lambda mark: mark[:3]). -/
namespace FM
open PySem PySem.Spec PyProof.Rows L2
abbrev lamArgs (pm : Pos) : Arguments := { posonlyargs := [], args := [{ arg := "mark", annotation := none, pos := pm }], vararg := none, kwonlyargs := [], kw_defaults := [], kwarg := none, defaults := [] }
abbrev lamBody (j : Nat) (p1 p2 p3 p4 : Pos) : Expr := .Subscript (.Name "mark" p1) (.Slice none (some (.Constant (.int 3) j p2)) none p3) p4
abbrev lamScope : Scope := { kind := .function, names := [("mark", .local)], isGenerator := false, isCoroutine := false, more := [] }
section
variable {prog : Program} {w : World} {A : Around} {s : Shared}
/-- the key of a mark: its first three items -/
theorem lam_key {f c' a : Addr} {q : Str} {pm0 p1 p2 p3 p4 : Pos} {j : Nat} {pm ctv : Value} {items : List Value} {ks : List PyData} (hroom : A.depth < recursionLimit) (hlim : s.heap.NoLimit)
    (ho : s.heap.get? f = some (PySem.W.kla_obj "<lambda>" q (lamArgs pm0) (lamBody j p1 p2 p3 p4) lamScope [] pm c' ctv)) (hcd : s.heap.CodeRec (.ref c') q) (ht : IsTup s.heap a items.toArray) (hl : items.length = 4) (hr : ReadsAll s.heap (items.take 3) ks []) :
    wpAny (model prog w) A (call (.ref f) [.ref a]) (PySem.W.KeyPure (.tuple ks) s) (fun _ _ => False) s := by
  refine wpAny_call (PySem.W.kla_callFunE hroom ho rfl rfl rfl rfl hcd ?_)
  have hb : bindArgs (PySem.W.kla_fn "<lambda>" q (lamArgs pm0) (lamBody j p1 p2 p3 p4) lamScope [] pm (.ref c') ctv) ⟨[.ref a], []⟩ = pure [(("mark" : Str), Value.ref a)] := rfl
  rw [hb]
  refine wpAny_pure (wpAny_newFunctionEnv (fun x hx => ?_) (fun x hx => ?_) (fun h₁ hns hsb => ⟨hlim.fresh _ hsb, ?_⟩) rfl)
  · have : x = (("mark" : Str), NameKind.local) := by simpa using hx
    subst this
    intro z
    cases z
  · have : x = (("mark" : Str), Value.ref a) := by simpa using hx
    subst this
    rfl
  · have kp : ∀ b o, s.heap.get? b = some o → h₁.get? b = some o := fun b o e => hsb.extBut b o (Nat.ne_of_lt (Heap.lt_size e)) (Heap.get?_push_of_some _ e)
    refine PySem.W.kla_codeExpr ?_
    refine Subscript_ (wpAny_Name (wpAny_loadName_local rfl rfl hns (v := .ref a) rfl ?_) (by decide))
    refine wpAny_Slice ?_
    rw [evalPart_none]
    refine wpAny_pure ?_
    rw [evalPart_some]
    refine wpAny_Constant_int ?_
    refine wpAny_pure ?_
    obtain ⟨o, ho2, hc, n, hd⟩ := ht
    dsimp only [List.length_cons, List.length_nil]
    have ht2 : IsTup (h₁.push { cls := .type "slice", data := .fields #[.none, .int 3 (s.toks + (0 + 1)), .none] }) a items.toArray := ⟨o, Heap.get?_push_of_some _ (kp _ _ ho2), hc, n, hd⟩
    refine tail_any (T := "tuple") (ops := [.ref h₁.objs.size, .ref a]) (ht2.typeIs) PyProof.Rows.slot_tuple_getitem.lookup (HT.getItem_tuple_cut (lo := none) (hi := some 3) ht2 (Heap.IsSliceOf.new ..) .none (.int 3 _) ?_ ?_ (by rw [List.size_toArray, sizeLine_eq]; omega)) (by with_unfolding_all rfl)
    · rw [List.size_toArray, hl]
      decide
    · have e3 : (List.take (HT.sIx items.toArray.size items.toArray.size (some 3) - HT.sIx items.toArray.size 0 none) (List.drop (HT.sIx items.toArray.size 0 none) items.toArray.toList)) = items.take 3 := by
        rw [List.size_toArray, hl]
        rfl
      rw [e3]
      refine ⟨_, _, rfl, fun b o e => Heap.get?_push_of_some _ (Heap.get?_push_of_some _ (kp b o e)), ?_⟩
      refine Reads.tuple (Heap.get?_push_size _ rfl) rfl rfl ?_
      exact PyProof.Rows.ReadsAll.keeps (fun b o e => Heap.get?_push_of_some _ (Heap.get?_push_of_some _ (kp b o e))) (by simpa using hr)
end
/-- the table got a row: a code object that is new -/
theorem same_row {H : Hp} {P c' : Addr} {ps : Array Value} {pos : Pos} (hP : H P = some (.tbl ps)) (ht : TriplesOk ps.toList) (ha : ∀ (pos : Pos) (cv : Value), codeAmong pos ps.toList = some cv → ∃ c, cv = .ref c ∧ H c = some (LamX.CodeO c q0)) (nC : H c' = none) :
    Same H (upd (upd H P (.tbl (ps ++ #[rawInt pos.line, rawInt pos.col, .ref c']))) c' (LamX.CodeO c' q0)) := by
  have old : ∀ b o, H b = some o → (∀ ps, o ≠ .tbl ps) → upd (upd H P (.tbl (ps ++ #[rawInt pos.line, rawInt pos.col, .ref c']))) c' (LamX.CodeO c' q0) b = some o := fun b o e n => by
    rw [upd_ne (ne_of_none e nC), upd_ne (fun z => n ps (Option.some.inj (e.symm.trans (by rw [z]; exact hP))))]
    exact e
  have eL : (ps ++ #[rawInt pos.line, rawInt pos.col, .ref c']).toList = ps.toList ++ [rawInt pos.line, rawInt pos.col, .ref c'] := by simp
  refine ⟨old, fun b qs e => ?_, fun P' t => ?_⟩
  · by_cases hb : b = P
    · subst hb
      exact ⟨_, by rw [upd_ne (ne_of_none e nC), upd_same]⟩
    · exact ⟨qs, by rw [upd_ne (ne_of_none e nC), upd_ne hb]; exact e⟩
  · by_cases hb : P' = P
    · subst hb
      refine ⟨_, by rw [upd_ne (ne_of_none hP nC), upd_same], by rw [eL]; exact PySem.TriplesOk_snoc _ _ _ _ ht, fun p cv hc => ?_⟩
      rw [eL] at hc
      rcases LamX.among_app _ ht hc with z | z
      · obtain ⟨c, e1, e2⟩ := ha p cv z
        exact ⟨c, e1, old _ _ e2 LamX.codeO_ne⟩
      · exact ⟨c', z, upd_same⟩
    · obtain ⟨qs, e, ok, codes⟩ := t
      refine ⟨qs, by rw [upd_ne (ne_of_none e nC), upd_ne hb]; exact e, ok, fun p cv hc => ?_⟩
      obtain ⟨c, e1, e2⟩ := codes p cv hc
      exact ⟨c, e1, old _ _ e2 LamX.codeO_ne⟩
/-- the lambda is made -/
theorem lam_mk {X : Cx} {pins : List (Addr × Obj)} {σ : L2.St} {H : Hp} {s : Shared} {c P : Addr} {params : Arguments} {body : Expr} {pos : Pos} {E : Value → Shared → Prop} {Q : Value → Shared → Prop} (I : Inv X pins σ H s) (TB : LamX.TabB X.base X.mg c P) (hcode : X.env.code = .ref c)
    (hq : X.env.qual ++ "<lambda>" = q0) (hT : LamX.TabS H P q0) (hdef : defaultsOf params X.env = ([], []))
    (h : ∀ (f c' : Addr) (pm ctv : Value) (H1 : Hp) (s' : Shared), Inv X pins σ H1 s' → Same H H1 → s'.heap.get? f = some (PySem.W.kla_obj "<lambda>" q0 params body lamScope [] pm c' ctv) → s'.heap.CodeRec (.ref c') q0 → Q (.ref f) s') :
    wpAny (model X.prog X.w) X.A (eval (.Lambda params body lamScope pos) X.env) Q E s := by
  obtain ⟨ps, hP, ht, ha⟩ := hT
  refine PySem.W.kla_eval hdef ?_
  rw [hq]
  have bP : s.heap.BuiltinsAt X.mg P := TB.bm.keeps I.bk
  have hP' : s.heap.get? P = some { cls := .none, data := .fields ps } := I.hok P _ hP
  have hcl : closureFor lamScope X.env = pure [] := rfl
  cases hc : codeAmong pos ps.toList with
  | none =>
    refine PySem.W.kla_makeFunction (mg := X.mg) (c := c) (P := P) (ps := ps) hcl I.ok.glob (I.mod.glob.keeps I.bk) hcode (TB.code.keeps I.bk) hP' ht hc TB.gP bP fun c' ctv h' tk hx hge hlt hrec htb => ?_
    obtain ⟨c2, oc, vs, t, e2, hoc, hd, hv⟩ := hrec
    cases e2
    have nC : H c' = none := I.hok.fresh hge
    have I1 := LamX.inv_table (t' := tk) (more := #[rawInt pos.line, rawInt pos.col, .ref c']) (h' := h'.push (PySem.W.kla_obj "<lambda>" q0 params body lamScope [] ((X.mg "__name__").getD .none) c' ctv)) I hP
      (fun b o hb e => Heap.get?_push_of_some _ (hx b o hb e)) (Heap.get?_push_of_some _ htb) hge ⟨oc, vs, t, Heap.get?_push_of_some _ hoc, hd, hv⟩
    exact h h'.objs.size c' _ ctv _ _ I1 (same_row hP ht ha nC) (Heap.get?_push_size _ rfl) ⟨c', oc, vs, t, rfl, Heap.get?_push_of_some _ hoc, hd, hv⟩
  | some cv =>
    obtain ⟨c', e, hco⟩ := ha pos cv hc
    subst e
    refine PySem.W.kla_makeFunctionHit (mg := X.mg) (c := c) (P := P) (ps := ps) hcl I.ok.glob (I.mod.glob.keeps I.bk) hcode (TB.code.keeps I.bk) hP' ht hc bP fun ctv h' tk hx hsz => ?_
    have I1 : Inv X pins σ H { s with heap := h'.push (PySem.W.kla_obj "<lambda>" q0 params body lamScope [] ((X.mg "__name__").getD .none) c' ctv), toks := tk } := I.kept fun b o e => Heap.get?_push_of_some _ (hx b o e)
    obtain ⟨⟨oc, vs, t, hoc, hdc, hvc⟩, _, _⟩ := I1.hok c' _ hco
    exact h h'.objs.size c' _ ctv H _ I1 (Same.refl H) (Heap.get?_push_size _ rfl) ⟨c', oc, vs, t, rfl, hoc, hdc, hvc⟩
/-! ### sorted by the first three items -/
def keyP : D → PyData
  | .tup ds => .tuple (toPyAll (ds.take 3))
  | _ => .none
noncomputable def leK : D → D → Bool := PySem.W.dataLe false keyP
structure OkSortK (ds : List D) : Prop where
  four : ∀ d ∈ ds, ∃ a b c e, d = .tup [a, b, c, e] ∧ a.lf = true ∧ b.lf = true ∧ c.lf = true
  al : PySem.W.AllAlike (ds.map keyP)
  dp : ∀ d ∈ ds, (keyP d).depth ≤ 4
  ln : ds.length ≤ 1000000
noncomputable def sortK : D → Option (List D)
  | .lst ds => open Classical in if OkSortK ds then some (ds.mergeSort leK) else none
  | _ => none
def uopN (g : D → Option (List D)) (f : En → Res D) : En → Res (List D) := fun e => rb (f e) fun x => ofO (g x)
theorem sort_sndK {bs : List (V × D)} : (bs.mergeSort (PySem.W.dataLe false fun p => keyP p.2)).map (·.2) = (bs.map (·.2)).mergeSort leK := by
  rw [List.map_mergeSort]
  intro a _ b _
  rfl
theorem room_in {k : Nat} {A : Around} (hr : Room k A) : A.in1.in1.depth < recursionLimit := by
  have := hr.dp
  show A.depth < _
  omega
theorem sort_key {X : Cx} {k : Nat} {pins : List (Addr × Obj)} {σ : L2.St} {H : Hp} {s : Shared} {a f c' : Addr} {xs : List V} {ds : List D} {pm ctv : Value} {pm0 p1 p2 p3 p4 : Pos} {j : Nat} {Q : VK} (hr : Room k X.A) (I : Inv X pins σ H s) (hs : SqL X.K H a xs) (hd : RpAll X.K H ds xs) (ok : OkSortK ds)
    (hf : s.heap.get? f = some (PySem.W.kla_obj "<lambda>" q0 (lamArgs pm0) (lamBody j p1 p2 p3 p4) lamScope [] pm c' ctv)) (hcd : s.heap.CodeRec (.ref c') q0)
    (q : ∀ ys p, RpAll X.K H (ds.mergeSort leK) ys → H p = none → Q (.ref p) (upd H p (.lst ys))) :
    wpAny (model X.prog X.w) X.A (call (.builtin "sorted") [.ref a] [(Str.ofString "key", .ref f)]) (EP X pins σ Q) X.xe s := by
  obtain ⟨its, rv, hl, hz⟩ := I.list hs
  have l1 := hd.length
  have l2 := rv.length
  have e0 := each_of hd rv
  have ez : ((xs.zip ds).map fun p => keyP p.2) = ds.map keyP := by
    rw [← zip_snd hd, List.map_map]
    congr 1
    rw [zip_snd hd]
  refine PySem.W.sorted_key_data (fun p : V × D => keyP p.2) (b := false) hl.isList e0 (by rw [ez]; exact ok.al) ?_ (by rw [← e0.length]; rw [← l2]; exact hz) (fun p hp => ?_) (PyProof.Rows.ksk_s1 _ _) (fun _ => PyProof.Rows.ksk_l1 _ _) (fun x => PyProof.Rows.ksk_t1 _ _) (fun v x hR hx h tk kp => ?_) fun out c h' tk kp fr ho hlen he => ?_
  · refine .inl fun d hdm => ?_
    rw [ez] at hdm
    obtain ⟨m, hm, rfl⟩ := List.mem_map.mp hdm
    obtain ⟨a1, b1, c1, d1, rfl, _⟩ := ok.four m hm
    exact ⟨toPy a1, [toPy b1, toPy c1], rfl⟩
  · have hm : p.2 ∈ ds := (List.of_mem_zip hp).2
    have := ok.dp p.2 hm
    have := hr.un
    show X.A.units + 2 + (keyP p.2).depth < _
    omega
  · obtain ⟨x, d⟩ := x
    have hm : d ∈ ds := (List.of_mem_zip hx).2
    obtain ⟨a1, b1, c1, d1, rfl, f1, f2, f3⟩ := ok.four d hm
    obtain ⟨r1, ⟨t, ys, e1, h1, h2⟩⟩ := hR
    have e1 : x = .ref t := e1
    subst e1
    obtain rfl : v = Value.ref t := r1
    obtain ⟨us, ru, ⟨o, ho, hc, n, hdt⟩, _⟩ := I.tuple h1
    obtain ⟨y1, z1, rfl, q1, y2, z2, rfl, q2, y3, z3, rfl, q3, y4, z4, rfl, q4, e5⟩ := h2
    cases e5
    obtain ⟨u1, u2, u3, u4, rfl, s1, s2, s3, s4⟩ : ∃ u1 u2 u3 u4, us = [u1, u2, u3, u4] ∧ RelV y1 u1 ∧ RelV y2 u2 ∧ RelV y3 u3 ∧ RelV y4 u4 := by
      cases ru with
      | cons s1 ru => cases ru with
        | cons s2 ru => cases ru with
          | cons s3 ru => cases ru with
            | cons s4 ru => cases ru; exact ⟨_, _, _, _, rfl, s1, s2, s3, s4⟩
    obtain ⟨c2, oc, vs, tt, e2, hoc, hdc, hvc⟩ := hcd
    refine lam_key (s := { s with heap := h, toks := tk }) (items := [u1, u2, u3, u4]) (room_in hr) (I.nolimit.keeps kp) (kp _ _ hf) ⟨c2, oc, vs, tt, e2, kp _ _ hoc, hdc, hvc⟩ ⟨o, kp _ _ ho, hc, n, hdt⟩ rfl ?_
    have rd : ReadsAll s.heap [u1, u2, u3] (toPyAll [a1, b1, c1]) [] := RpAll.reads I (by simp [lfAll, f1, f2, f3]) (RpAll.cons q1 (RpAll.cons q2 (RpAll.cons q3 RpAll.nil))) (.cons s1 (.cons s2 (.cons s3 .nil)))
    exact PyProof.Rows.ReadsAll.keeps kp rd
  · obtain ⟨v1, v2⟩ := each_vals he
    rw [sort_sndK, zip_snd hd] at v2
    have hlen2 := v1.length
    refine ⟨.ref _, upd H (s.heap.objs.size + 1) (.lst _), I.laid (t' := tk) kp (Nat.le_succ _) ⟨?_, out, c, v1, ho⟩, rfl, q _ _ v2 (I.hok.fresh (Nat.le_succ _))⟩
    rw [hlen2, hlen, ← e0.length, ← l2]
    exact hz
section
variable {X : Cx} {W : Wx} {k : Nat} {e : Expr} {p pos lpos kpos pm0 p1 p2 p3 p4 : Pos} {j : Nat} {f : En → Res D} {c P : Addr}
theorem pn_sortedK (hr : Room k X.A) (hP : TabAt X.K P) (TB : LamX.TabB X.base X.mg c P) (hcode : X.env.code = .ref c) (hq : X.env.qual ++ "<lambda>" = q0) (hm : X.mg "sorted" = none) (ha : PE X e (tD X.K W f)) (hg : Gl X "sorted" := by rfl)
    (hs : starEach [e] X.env = (false, eval e X.env) :: starEach [] X.env := by rfl)
    (he : backTo pos (starEach [e] X.env) = (false, eval e X.env) :: backTo pos (starEach [] X.env) := by rfl) (hpl : (backTo pos (starEach [e] X.env)).any (·.1) = false := by rfl) :
    PE X (.Call (.Name "sorted" p) [e] [⟨some "key", .Lambda (lamArgs pm0) (lamBody j p1 p2 p3 p4) lamScope lpos, kpos⟩] pos) (tN X.K W (uopN sortK f)) := by
  refine ⟨fun pins s σ H Q I h => ?_⟩
  obtain ⟨en, hen, hf⟩ := h
  have hbs : bootBuiltins "sorted" = some (.builtin "sorted") := by decide +kernel
  refine wpAny_Call_Name_kw (ld_blt I hg hm hbs ?_ (by decide) (by decide))
  unfold uopN at hf
  refine PyProof.Rows.callWith_kw (thn ((pa_cons ha pa_nil hs).run pos pins s σ H (fun vs H1 => Same H H1 ∧ ∃ a xs ds, f en = .ok (.lst ds) ∧ vs = [.ref a] ∧ SqL X.K H1 a xs ∧ RpAll X.K H1 ds xs ∧ OkSortK ds) I ⟨en, hen, ?_⟩) fun us s1 ⟨vs, H1, I1, r1, q1⟩ => ?_) he hpl rfl rfl
  · cases h1 : f en with
    | bad => rw [h1] at hf; exact hf
    | exc c => rw [h1] at hf; exact hf
    | ok d =>
      rw [h1, rb_ok] at hf
      intro v H1 s1 r1
      cases d with
      | lst ds =>
        obtain ⟨a, xs, rfl, h2, h3⟩ := r1
        refine ⟨s1, a, xs, ds, rfl, rfl, h2, h3, ?_⟩
        by_cases ok : OkSortK ds
        · exact ok
        · have : sortK (.lst ds) = none := by unfold sortK; simp only; rw [if_neg ok]
          rw [this] at hf
          exact hf.elim
      | _ => exact (hf : False).elim
  · obtain ⟨sm, a, xs, ds, hfe, rfl, hsq, hrp, ok⟩ := q1
    rw [hfe, rb_ok] at hf
    have hsk : sortK (.lst ds) = some (ds.mergeSort leK) := by unfold sortK; simp only; rw [if_pos ok]
    rw [hsk] at hf
    obtain rfl := Vals.ref1 r1
    show wpAny _ _ (evalAll ((do let v ← eval (.Lambda (lamArgs pm0) (lamBody j p1 p2 p3 p4) lamScope lpos) X.env; standAt pos; pure v) :: [])) _ _ s1
    refine wpAny_evalAll_cons (wpAny_bind (lam_mk I1 TB hcode hq (hen.tab.mono sm P hP) rfl fun f c' pm ctv H2 s2 I2 sm2 hlf hcd => wpAny_bind (wpAny_standAt (wpAny_pure (wpAny_evalAll_nil ?_)))))
    exact sort_key hr I2 (sm2.seq hsq) (hrp.mono sm2) ok hlf hcd fun ys p hy hp => hf p ys _ ((sm.trans sm2).free hp) ((sm.trans sm2).trans (same_new hp)) upd_same (hy.mono (same_hide1 hp))
end
end FM

set_option Elab.async false
set_option linter.all false
set_option maxRecDepth 100000
/-! FM13: dicts with tuples of ints and texts as keys. -/
namespace FM
open PySem PySem.Spec PyProof.Rows L2
inductive RpK (K : PySem.W.Frag) (H : Hp) : List (List Key × D) → List (List Key × V) → Prop
  | nil : RpK K H [] []
  | cons {k : List Key} {d : D} {v : V} {r : List (List Key × D)} {s : List (List Key × V)} : Rp K H d v → RpK K H r s → RpK K H ((k, d) :: r) ((k, v) :: s)
section
variable {K : PySem.W.Frag} {H : Hp}
theorem RpK.of : ∀ {kvs : List (List Key × D)} {ws : List (List Key × V)}, ws.map (·.1) = kvs.map (·.1) → RpAll K H (kvs.map (·.2)) (ws.map (·.2)) → RpK K H kvs ws
  | [], [], _, _ => .nil
  | [], _ :: _, h, _ => by cases h
  | _ :: _, [], h, _ => by cases h
  | (k, d) :: r, (k', v) :: s, h, q => by
    simp only [List.map_cons, List.cons.injEq] at h
    obtain ⟨rfl, h⟩ := h
    obtain ⟨v', r', e, q1, q2⟩ := q
    simp only [List.map_cons, List.cons.injEq] at e
    obtain ⟨rfl, rfl⟩ := e
    exact .cons q1 (RpK.of h q2)
theorem RpK.to {kvs : List (List Key × D)} {ws : List (List Key × V)} (h : RpK K H kvs ws) : ws.map (·.1) = kvs.map (·.1) ∧ RpAll K H (kvs.map (·.2)) (ws.map (·.2)) := by
  induction h with
  | nil => exact ⟨rfl, rfl⟩
  | cons h1 _ ih => exact ⟨by simp [ih.1], RpAll.cons h1 ih.2⟩
theorem RpK.len {kvs : List (List Key × D)} {ws : List (List Key × V)} (h : RpK K H kvs ws) : kvs.length = ws.length := by
  induction h with
  | nil => rfl
  | cons h1 _ ih => simp [ih]
def putD (kvs : List (List Key × D)) (k : List Key) (d : D) : List (List Key × D) :=
  if (kvs.any fun kv => decide (kv.1 = k)) = true then kvs.map (fun kv => if kv.1 = k then (kv.1, d) else kv) else kvs ++ [(k, d)]
def getK (kvs : List (List Key × D)) (k : List Key) : Option D := (kvs.find? fun kv => decide (kv.1 = k)).map (·.2)
theorem RpK.any {kvs : List (List Key × D)} {ws : List (List Key × V)} {k : List Key} (h : RpK K H kvs ws) : (ws.any fun kv => decide (kv.1 = k)) = (kvs.any fun kv => decide (kv.1 = k)) := by
  induction h with
  | nil => rfl
  | cons h1 _ ih => simp only [List.any_cons, ih]
theorem RpK.map {kvs : List (List Key × D)} {ws : List (List Key × V)} {k : List Key} {d : D} {v : V} (r : Rp K H d v) (h : RpK K H kvs ws) : RpK K H (kvs.map (fun kv => if kv.1 = k then (kv.1, d) else kv)) (ws.map (fun kv => if kv.1 = k then (kv.1, v) else kv)) := by
  induction h with
  | nil => exact .nil
  | @cons k' d' v' _ _ h1 _ ih =>
    simp only [List.map_cons]
    by_cases e : k' = k
    · rw [if_pos e, if_pos e]; exact .cons r ih
    · rw [if_neg e, if_neg e]; exact .cons h1 ih
theorem RpK.snoc {kvs : List (List Key × D)} {ws : List (List Key × V)} {k : List Key} {d : D} {v : V} (r : Rp K H d v) (h : RpK K H kvs ws) : RpK K H (kvs ++ [(k, d)]) (ws ++ [(k, v)]) := by
  induction h with
  | nil => exact .cons r .nil
  | cons h1 _ ih => exact .cons h1 ih
theorem RpK.put {kvs : List (List Key × D)} {ws : List (List Key × V)} {k : List Key} {d : D} {v : V} (r : Rp K H d v) (h : RpK K H kvs ws) : RpK K H (putD kvs k d) (putK ws k v) := by
  unfold putD putK
  rw [h.any]
  split
  · exact h.map r
  · exact h.snoc r
theorem RpK.get {kvs : List (List Key × D)} {ws : List (List Key × V)} {k : List Key} {d : D} (h : RpK K H kvs ws) (e : getK kvs k = some d) : ∃ v, valV ws k = some v ∧ Rp K H d v := by
  induction h with
  | nil => cases e
  | @cons k' d' v' _ _ h1 _ ih =>
    by_cases q : k' = k
    · have : getK ((k', d') :: _) k = some d := e
      simp only [getK, List.find?_cons, decide_eq_true q, Option.map_some, Option.some.injEq] at this
      subst this
      exact ⟨v', valV_pos q, h1⟩
    · rw [valV_neg q]
      apply ih
      have : getK ((k', d') :: _) k = some d := e
      simp only [getK, List.find?_cons, decide_eq_false q] at this
      exact this
theorem RpK.mono {H' : Hp} (s : Same H H') {kvs : List (List Key × D)} {ws : List (List Key × V)} (h : RpK K H kvs ws) : RpK K H' kvs ws := by
  induction h with
  | nil => exact .nil
  | cons h1 _ ih => exact .cons (h1.mono s) ih
end
section
variable {K : PySem.W.Frag} {X : Cx} {W : Wx} {k : Nat}
/-- name = {} -/
def asgD (i : Nat) : En → Res Fl := fun e => .ok (.nx (e.set i (.dct [])))
theorem asgD_D {i : Nat} : ∀ Z σ H, tS K W (asgD i) Z σ H → tAsg tDNewT (gName i) Z σ H := by
  rintro Z σ H ⟨G, e, he, hf⟩ p hp
  exact hf _ _ (he.setO (same_new hp) i hp ⟨_, upd_same⟩ rfl ⟨p, [], rfl, upd_same, rfl, rfl⟩)
theorem pds_newD (i : Nat) {x : Str} {px dpos pos : Pos} (hN : X.N.Nodup) (hi : X.N[i]? = some x := by rfl) (hx : Loc X.env.scope x := by first | exact .inl rfl | exact .inr rfl) (hf : X.fn x = true ∨ X.env.scope.names.lookup x = some .local := by first | exact .inl rfl | exact .inr rfl)
    (hs : swapsWithSole [.Name x px] (.Dict [] [] dpos) pos.line X.env = pure false := by rfl) (hw : swappedStores [.Name x px] (.Dict [] [] dpos) X.env = pure none := by rfl) : PS X (.Assign [.Name x px] (.Dict [] [] dpos) pos) (tS X.K W (asgD i)) :=
  PS.weak (ps_asg pe_dnewT (pg_name hN hi hx hf) hs hw) asgD_D
/-- name[a, b, c] = e -/
def putS (i : Nat) (fk : En → Res (List D)) (f : En → Res D) : En → Res Fl := fun e => match e[i]? with
  | some (.dct kvs) => rb (f e) fun d => rb (fk e) fun ks => match ks.mapM keyO with
    | some k => if kvs.length ≤ 1000000 ∧ ks.length ≤ 1000 ∧ d.lf = true then .ok (.nx (e.set i (.dct (putD kvs k d)))) else .bad
    | none => .bad
  | _ => .bad
theorem st_args {G H : Hp} {σ : L2.St} {e : En} {f : En → Res (List D)} {Z : Ends} {Q : List V → Hp → Prop} {k : List D → Res Fl} (he : StOk K G H σ e) (hf : FinS K W G Z (rb (f e) k))
    (hq : ∀ ds vs H', f e = .ok ds → Same H H' → RpAll K H' ds vs → FinS K W G Z (k ds) → Q vs H') : tDs K W f σ H Q := by
  refine ⟨e, he.env, ?_⟩
  cases h1 : f e with
  | bad => rw [h1] at hf; exact hf
  | exc c => rw [h1] at hf; exact fun H' s => hf σ H' (he.same.trans s)
  | ok ds =>
    rw [h1, rb_ok] at hf
    exact fun vs H' s r => hq ds vs H' h1 s r hf
theorem put_D {i : Nat} {fk : En → Res (List D)} {f : En → Res D} : ∀ Z σ H, tS K W (putS i fk f) Z σ H → sDPut (tVar i) (tTup (tDs K W fk)) (tD K W f) Z σ H := by
  rintro Z σ H ⟨G, e, he, hf⟩
  unfold putS at hf
  split at hf
  · rename_i kvs hx
    obtain ⟨c, ws, e1, e2, e3, e4⟩ := he.at_ i _ hx
    refine st_expr he hf fun d v H1 _ s1 r1 hk => ?_
    have he1 := he.keep s1
    refine ⟨.ref c, e1, st_args he1 hk fun ks us H2 _ s2 r2 hk2 => ?_⟩
    split at hk2
    · rename_i kk hkk
      split at hk2
      · rename_i hl
        have he2 := he1.keep s2
        have hu := keys_vals r2 hkk
        subst hu
        have lk := r2.length
        refine ⟨by rw [← lk, sizeLine_eq]; omega, fun p hp => ?_⟩
        have s3 : Same H2 (upd H2 p (.tup (kk.map kV))) := same_new hp
        have he3 := he2.keep s3
        have sa := (s1.trans s2).trans s3
        have rk := RpK.of e3 (e4.mono (he.hide_mono sa))
        have rl := he.lift sa (d := d) (by rw [hl.2.2]; rfl) ((r1.mono s2).mono s3)
        have lw := rk.len
        refine ⟨c, _, rfl, DPut.t (sa.keep _ _ e2 (fun _ z => nomatch z)) upd_same (by rw [← lw, sizeLine_eq]; omega), hk2 σ _ (he3.chg i hx rfl rfl e1 ⟨c, _, rfl, upd_same, ?_⟩)⟩
        exact (rk.put rl).to
      · exact hk2.elim
    · exact hk2.elim
  · exact hf.elim
theorem pds_putD (hr : Room k X.A) (i : Nat) {x : Str} {px pos spos tpos : Pos} {es : List Expr} {x1 : Nat} {value : Expr} {fk : En → Res (List D)} {f : En → Res D} (he : PE X value (tD X.K W f)) (hk : PA X es (tDs X.K W fk)) (hN : X.N[i]? = some x := by rfl) (hv : Vis X.env.scope x := by first | exact Or.inl rfl | exact Or.inr (Or.inl rfl) | exact Or.inr (Or.inr rfl)) (hd : (x == ("__debug__" : Str)) = false := by decide) (hcd : (x == ("__classdict__" : Str)) = false := by decide)
    (hs : swapsWith value (some (.Subscript (.Name x px) (.Tuple es x1 tpos) spos)) pos.line X.env = pure false := by rfl) : PS X (.Assign [.Subscript (.Name x px) (.Tuple es x1 tpos) spos] value pos) (tS X.K W (putS i fk f)) :=
  PS.weak (ps_dput (hu_of hr) (pe_var hN hv hd hcd) (pe_tup hk) he hs) put_D
end
/-! ### name[key] -/
def dgetF (i : Nat) (fk : En → Res D) : En → Res D := fun e => match e[i]? with
  | some (.dct kvs) => rb (fk e) fun d => match keysO d with
    | some k => ofO (getK kvs k)
    | none => .bad
  | _ => .bad
section
variable {X : Cx} {W : Wx} {k : Nat}
theorem dgetT {pins : List (Addr × Obj)} {σ : L2.St} {H : Hp} {s : Shared} {a b : Addr} {ws : List (List Key × V)} {kk : List Key} {v : V} {A : Around} {E : Value → Shared → Prop} {Q : Value → Shared → Prop} (hu : A.units + 1 < cLine) (I : Inv X pins σ H s) (e : H a = some (.dT ws)) (eb : SqT X.K H b (kk.map kV)) (l : valV ws kk = some v) (h : ∀ w' s', Inv X pins σ H s' → RelV v w' → Q w' s') :
    s.TypeIs (.ref a) "dict" ∧ wpAny (model X.prog X.w) A (getItem (.ref a) (.ref b)) Q E s := by
  obtain ⟨z, hd, xs, rel, dd⟩ := dt_of I.hok e
  obtain ⟨w', hw, rw'⟩ := RelO.some_of (v := v) (o := (atKey xs kk).map (·.2)) (by rw [← l]; exact rel.val kk)
  obtain ⟨p, hp, hp2⟩ := Option.map_eq_some_iff.mp hw
  obtain ⟨us, r2, ⟨o, ho, hc, n, hdd⟩, _⟩ := I.tuple eb
  have key : IsTupleKey (mixKind X.prog X.w) s.heap kk b := ⟨o, us.toArray, n, ho, hc, hdd, items_are r2⟩
  refine ⟨dd.typeIs, wpAny_getItem_heap (tupleKind_room_in1 hu) key dd hp ?_⟩
  rw [hp2]
  exact h w' _ (I.tok _) rw'
theorem pd_dget (hr : Room k X.A) (i : Nat) {x : Str} {px pos : Pos} {ex : Expr} {fk : En → Res D} (hk : PE X ex (tD X.K W fk)) (hs : NoSl ex) (hN : X.N[i]? = some x := by rfl) (hv : Vis X.env.scope x := by first | exact Or.inl rfl | exact Or.inr (Or.inl rfl) | exact Or.inr (Or.inr rfl)) (hd : (x == ("__debug__" : Str)) = false := by decide)
    (hcd : (x == ("__classdict__" : Str)) = false := by decide) : PE X (.Subscript (.Name x px) ex pos) (tD X.K W (dgetF i fk)) := by
  refine ⟨fun pins s σ H Q I h => ?_⟩
  obtain ⟨e, he, hf⟩ := h
  unfold dgetF at hf
  split at hf
  · rename_i kvs hx
    obtain ⟨c, ws, e1, e2, e3, e4⟩ := he.at_ i _ hx
    refine subD_of PySem.F.slot_dict_getitem.lookup hs (thn ((pe_var (pos := px) hN hv hd hcd).run pins s σ H (fun v H1 => v = .ref c ∧ H1 = H) I ⟨_, e1, rfl, rfl⟩) fun u s1 ⟨y, H1, I1, rx, q1⟩ => ?_)
    obtain ⟨ey, eH⟩ := q1
    subst ey eH
    obtain rfl : u = Value.ref c := rx
    refine thn (hk.run pins s1 σ H1 (fun y H2 => ∃ (b : Addr) (kk : List Key) (d : D), y = .ref b ∧ Same H1 H2 ∧ SqT X.K H2 b (kk.map kV) ∧ getK kvs kk = some d ∧ ∀ v H', Same H1 H' → Rp X.K H' d v → Q v H') I1 ⟨e, he, ?_⟩) fun iv s2 ⟨y, H2, I2, ry, q2⟩ => ?_
    · cases h1 : fk e with
      | bad => rw [h1] at hf; exact hf
      | exc c => rw [h1] at hf; exact hf
      | ok d =>
        rw [h1, rb_ok] at hf
        intro v H2 s2 r2
        split at hf
        · rename_i kk hkk
          cases d <;> simp only [keysO, reduceCtorEq] at hkk
          obtain ⟨b, ys, rfl, h2, h3⟩ := r2
          have := keys_vals h3 hkk
          subst this
          cases hg : getK kvs kk with
          | none => rw [hg] at hf; exact hf.elim
          | some d => rw [hg] at hf; exact ⟨b, kk, d, rfl, s2, h2, hg, hf⟩
        · exact hf.elim
    · obtain ⟨b, kk, d, rfl, sm, hsq, hg, hq⟩ := q2
      obtain rfl : iv = Value.ref b := ry
      have rk := (RpK.of e3 e4).mono sm
      obtain ⟨v, hv1, hv2⟩ := rk.get hg
      exact dgetT (hu_of hr) I2 (sm.keep _ _ e2 (fun _ z => nomatch z)) hsq hv1 fun w' s3 I3 rw' => ⟨v, H2, I3, rw', hq v H2 sm hv2⟩
  · exact hf.elim
end
/-! ### sorted(name) of a dict -/
def keyD1 : Key → D
  | .inl i => .int i
  | .inr x => .str x.cps.toList
def keyD (k : List Key) : D := .tup (k.map keyD1)
theorem keyD_all {K : PySem.W.Frag} {H : Hp} : ∀ k : List Key, RpAll K H (k.map keyD1) (k.map kV)
  | [] => rfl
  | .inl i :: r => RpAll.cons rfl (keyD_all r)
  | .inr x :: r => RpAll.cons (show V.str x = V.str (S x.cps.toList) by rw [S_toList]) (keyD_all r)
theorem keyD_rp {K : PySem.W.Frag} {H : Hp} {b : Addr} {k : List Key} (h : H b = some (.tup (k.map kV))) : Rp K H (keyD k) (.ref b) := ⟨b, _, rfl, SqT.of h, keyD_all k⟩
theorem keyD_lf (k : List Key) : (keyD k).lf = true := by
  have : ∀ k : List Key, lfAll (k.map keyD1) = true := fun k => by
    induction k with
    | nil => rfl
    | cons a r ih => cases a <;> simp [lfAll, keyD1, D.lf, ih]
  simp [keyD, D.lf, this]
noncomputable def sortDct (i : Nat) : En → Res (List D) := fun e => match e[i]? with
  | some (.dct kvs) => open Classical in if OkSort (kvs.map fun p => keyD p.1) then .ok ((kvs.map fun p => keyD p.1).mergeSort leD) else .bad
  | _ => .bad
theorem kt_rel {K : PySem.W.Frag} {H : Hp} : ∀ {ws : List (List Key × V)} {xs : List (List Key × Addr × Value)}, KT H ws xs → RpAll K H (ws.map fun p => keyD p.1) (xs.map fun x => V.ref x.2.1) ∧ Vals (xs.map fun x => V.ref x.2.1) (xs.map fun x => Value.ref x.2.1)
  | _, _, .nil => ⟨rfl, .nil⟩
  | _, _, .cons h t => by
    obtain ⟨h1, h2⟩ := kt_rel t
    exact ⟨RpAll.cons (keyD_rp h.2.1) h1, .cons rfl h2⟩
theorem sort_dct {X : Cx} {k : Nat} {pins : List (Addr × Obj)} {σ : L2.St} {H : Hp} {s : Shared} {a : Addr} {ws : List (List Key × V)} {Q : VK} (hr : Room k X.A) (hc : X.calm = true) (I : Inv X pins σ H s) (e : H a = some (.dT ws)) (ok : OkSort (ws.map fun p => keyD p.1))
    (q : ∀ ys p, RpAll X.K H ((ws.map fun p => keyD p.1).mergeSort leD) ys → H p = none → Q (.ref p) (upd H p (.lst ys))) :
    wpAny (model X.prog X.w) X.A (call (.builtin "sorted") [.ref a]) (EP X pins σ Q) X.xe s := by
  obtain ⟨z, hsm, xs, rel, o, es, ep, ho, hx, hdt, he, hn⟩ := (show ObjOk X.prog X.w H s.heap a (.dT ws) from I.hok a _ e)
  have l1 : es.size = xs.length := size_of_entries he
  have l2 : ws.length = xs.length := Paired.length rel
  obtain ⟨hd, rv⟩ := kt_rel (K := X.K) rel
  refine Calls.call_function_entry PyProof.Rows.kind_sorted PyProof.Rows.plain_sorted PyProof.Rows.entry_sorted (PyProof.Rows.args_sorted1 _) ?_
  unfold Builtin.«sorted»
  refine wpAny_bind (m := checkCount "sorted" 1 1 _) (wpAny_pure ?_)
  refine wpAny_bind (PySem.W.kdu_collect (A := X.A.in1) (kdl_raw hsm hx hdt) (I.ok.hd hc) ho (by omega) fun h' tk acc kp it => ?_)
  have ea : acc.toList = xs.map fun x => Value.ref x.2.1 := by
    have hl : acc.toList.length = xs.length := by rw [Array.length_toList, it.1]; exact l1
    apply List.ext_getElem?
    intro j
    rw [List.getElem?_map]
    cases hj : acc.toList[j]? with
    | none =>
      have h1 := List.getElem?_eq_none_iff.mp hj
      rw [List.getElem?_eq_none (by omega)]
      rfl
    | some v =>
      obtain ⟨en, hen, hv⟩ := it.2 j v (by rw [← Array.getElem?_toList]; exact hj)
      have qe := entry_at he j
      rw [hen] at qe
      cases hb : xs[j]? with
      | none => rw [hb] at qe; cases qe
      | some b =>
        rw [hb] at qe
        have e2 : en = entryOfKey (tupleKind (mixKind X.prog X.w)) b := Option.some.inj qe
        rw [hv, e2]
        rfl
  have I1 : Inv X pins σ H { s with heap := h', toks := tk } := I.kept kp
  have hal : acc.toList.length = ws.length := by rw [ea, List.length_map, l2]
  have hln : ws.length ≤ 1000000 := by have := ok.ln; simpa using this
  refine wpAny_bind (wpAny_newList ?_ (by rw [hal, sizeLine_eq]; omega))
  have hoL : (h'.push (seqObj "list" acc.toList.toArray 0)).get? h'.objs.size = some (seqObj "list" acc.toList.toArray 0) := Heap.get?_push_size _ rfl
  show wpAny _ _ _ _ _ { s with heap := h'.push (seqObj "list" acc.toList.toArray 0), toks := tk }
  rw [← ea] at rv
  have e0 := each_of hd rv
  have ez : (((xs.map fun x => V.ref x.2.1).zip (ws.map fun p => keyD p.1)).map fun p => toPy p.2) = (ws.map fun p => keyD p.1).map toPy := by
    rw [← zip_snd hd, List.map_map]
    congr 1
    rw [zip_snd hd]
  have kp2 : ∀ b o, s.heap.get? b = some o → (h'.push (seqObj "list" acc.toList.toArray 0)).get? b = some o := fun b o q => Heap.get?_push_of_some _ (kp b o q)
  have er : PySem.W.EachIs (fun v (p : V × D) => ∃ as, Reads (h'.push (seqObj "list" acc.toList.toArray 0)) v (toPy p.2) as ∧ h'.objs.size ∉ as) acc.toList ((xs.map fun x => V.ref x.2.1).zip (ws.map fun p => keyD p.1)) := by
    refine PySem.W.EachIs.of_zip (by rw [e0.length]) fun p hp => ?_
    have h1 := e0.zip p hp
    refine ⟨[], ?_, by simp⟩
    have hm : p.2.2 ∈ (ws.map fun p => keyD p.1) := (List.of_mem_zip (List.of_mem_zip hp).2).2
    exact PyProof.Rows.Reads.keeps kp2 (Rp.reads I (lfAll_iff.mp ok.lf _ hm) h1.2 h1.1)
  refine wpAny_bind (wpAny_holding (PySem.W.list_sort_data (s := { s with heap := h'.push (seqObj "list" acc.toList.toArray 0), toks := tk }) (enc := fun p : V × D => toPy p.2) hoL e0 er (by rw [ez]; exact ok.al) (by rw [ez]; exact ok.so) (by rw [← e0.length, hal, sizeLine_eq]; omega) (fun p hp => ?_) fun out hlo heo => ?_))
  · have hm : p.2 ∈ (ws.map fun p => keyD p.1) := (List.of_mem_zip hp).2
    have := ok.dp p.2 hm
    have := hr.un
    show X.A.units + 1 + 1 + (toPy p.2).depth < _
    omega
  · obtain ⟨v1, v2⟩ := each_vals heo
    rw [sort_snd, zip_snd hd] at v2
    obtain ⟨e', he'⟩ := PyProof.Rows.sortedHeap_at (vs := acc.toList) (out := out.toArray) hoL
    have hlen2 := v1.length
    refine wpAny_pure ⟨_, rfl, .ref h'.objs.size, upd H h'.objs.size (.lst _), I1.laid (t' := tk) (fun b u e => ?_) (Nat.le_refl _) ⟨?_, out, e', v1, by simpa using he'⟩, rfl, q _ _ v2 (I1.hok.fresh (Nat.le_refl _))⟩
    · have hb : b < h'.objs.size := Heap.lt_size e
      rw [PyProof.Rows.sortedHeap_old (Nat.ne_of_lt hb) (by rw [size_push']; exact Nat.lt_succ_of_lt hb)]
      exact Heap.get?_push_of_some _ e
    · rw [hlen2, hlo, ← e0.length, hal, sizeLine_eq]; omega
section
variable {X : Cx} {W : Wx} {k : Nat} {p pos : Pos}
theorem pn_sortDct (hr : Room k X.A) (hc : X.calm = true) (hm : X.mg "sorted" = none) (i : Nat) {x : Str} {px : Pos} (hg : Gl X "sorted" := by rfl) (hN : X.N[i]? = some x := by rfl) (hv : Vis X.env.scope x := by first | exact Or.inl rfl | exact Or.inr (Or.inl rfl) | exact Or.inr (Or.inr rfl)) (hd : (x == ("__debug__" : Str)) = false := by decide)
    (hcd : (x == ("__classdict__" : Str)) = false := by decide) (he : starEach [.Name x px] X.env = (false, eval (.Name x px) X.env) :: starEach [] X.env := by rfl) (hpl : (backTo pos (starEach [] X.env)).any (·.1) = false := by rfl) :
    PE X (.Call (.Name "sorted" p) [.Name x px] [] pos) (tN X.K W (sortDct i)) := by
  have cr : CallR X (.builtin "sorted") (fun vs H Q => ∃ (a : Addr) (ws : List (List Key × V)), vs = [.ref a] ∧ H a = some (.dT ws) ∧ OkSort (ws.map fun p => keyD p.1) ∧ ∀ ys p, RpAll X.K H ((ws.map fun p => keyD p.1).mergeSort leD) ys → H p = none → Q (.ref p) (upd H p (.lst ys))) := by
    intro pins s σ H vs us Q I r h
    obtain ⟨a, ws, rfl, h1, h2, h3⟩ := h
    obtain rfl := Vals.ref1 r
    exact sort_dct hr hc I h1 h2 h3
  refine PE.weak (pe_callB cr hg hm (by decide +kernel) (pa_cons (pe_var hN hv hd hcd) pa_nil he) (by decide) (by decide) he hpl) ?_
  rintro σ H Q ⟨e, hen, hf⟩
  unfold sortDct at hf
  split at hf
  · rename_i kvs hx
    obtain ⟨c, ws, e1, e2, e3, e4⟩ := hen.at_ i _ hx
    have ek : (ws.map fun p => keyD p.1) = kvs.map fun p => keyD p.1 := by
      have := congrArg (List.map keyD) e3
      simpa [List.map_map, Function.comp_def] using this
    split at hf
    · rename_i ok
      refine ⟨_, e1, c, ws, rfl, e2, by rw [ek]; exact ok, fun ys p hy hp => ?_⟩
      rw [ek] at hy
      exact hf p ys _ hp (same_new hp) upd_same (hy.mono (same_hide1 hp))
    · exact hf.elim
  · exact hf.elim
end
end FM

set_option Elab.async false
set_option linter.all false
set_option maxRecDepth 100000
/-! FM14: a def with a lambda, a def that calls itself. -/
namespace FM
open PySem PySem.Spec PyProof.Rows L2
section
variable {P : Program} {w : World} {K : PySem.W.Frag} {mg : Str → Option Value} {base : Heap}
/-- a def whose code object has the table -/
structure DefTab (K : PySem.W.Frag) (mg : Str → Option Value) (base : Heap) (x : Str) (st : Stmt) (ps : List Str) : Prop where
  ex : ∃ (f c T : Addr) (oc : Value) (od an : Option Addr) (kV doc pm ct : Value) (osl : Array (Option Value)),
    K.lookup f = some ⟨oc, od, .func (PySem.W.fnOf x x (defArgs st) (defBody st) (defScope st) .none kV doc pm an (.ref c) ct), osl⟩ ∧ PySem.W.codeIn K (.ref c) x = true ∧ PySem.W.keepIn K (.ref f) = true ∧ mg x = some (.ref f) ∧
    Binds K (PySem.W.fnOf x x (defArgs st) (defBody st) (defScope st) .none kV doc pm an (.ref c) ct) ps [] ∧ TabAt K T ∧ LamX.TabB base mg c T
theorem fn_tab {x : Str} {st : Stmt} {N ps : List Str} {k : Nat} {B : En → Res Fl} (C : Cls4) (F : DefTab K mg base x st ps) (S : FnScope N ps (defScope st))
    (hbody : ∀ (c T f : Addr) (A : Around) (outer : List Env) (s : Shared) (H : Hp) (E : XK), TabAt K T → LamX.TabB base mg c T → Room k (A.deeper (envOfC x (defScope st) s.heap.objs.size f (.ref c))) →
      PSs (cxOf CX0 P w K mg base N x (defScope st) f (.ref c) A outer s H E).nox (defBody st) (tS K W0 B))
    {n m : Nat} {g : List D → Res D} (hg : g = runD m B) (hn : ps.length = n) (hN : N.length = m) : FnB P w K mg base (k + 1) x ps (spD K C n g) := by
  subst hg hn hN
  obtain ⟨f, c, T, oc, od, an, kV, doc, pm, ct, osl, lk, hcd, kp, hm, hb, hT, TB⟩ := F.ex
  refine ⟨f, _, fn_of lk hcd S spD.len fun A outer s H vs Q E hr h => ?_, hm, kp, hb⟩
  exact ⟨_, (hbody c T f A outer s H E hT TB hr).nox, fnD_body h⟩
/-- a promise of nothing -/
theorem fn_none {x : Str} {st : Stmt} {f : Addr} {fd : FuncData} {ps : List Str} {k n : Nat} (C : Cls4) (F : Fun K x x st f fd) (hm : mg x = some (.ref f)) (hb : Binds K fd ps []) (hn : ps.length = n) : FnB P w K mg base k x ps (spD K C n fun _ => .bad) := by
  subst hn
  exact ⟨f, fd, ⟨spD.len, fun A outer s H args us vs Q E _ _ _ _ h => by
    obtain ⟨_, ds, _, _, q⟩ := h
    exact q.elim⟩, hm, F.kp, hb⟩
end
end FM

set_option Elab.async false
set_option linter.all false
set_option maxRecDepth 100000
/-! FMS: the readings opened by simp. -/
namespace FM
open PySem PyProof.Rows L2
section
variable {α : Type} {e : En} {d x y z : D} {ds : List D} {f g h fa fb fc : En → Res D} {fs : En → Res (List D)} {t u : En → Res Bool} {i j : Nat}
@[simp] theorem cD_ap : cD d e = .ok d := rfl
@[simp] theorem yesF_ap : yesF e = .ok true := rfl
@[simp] theorem nilF_ap : nilF e = .ok [] := rfl
@[simp] theorem nilS_ap : nilS e = .ok (.nx e) := rfl
@[simp] theorem noP_ap : noP e = .ok none := rfl
@[simp] theorem consF_ap : consF f fs e = rb (f e) fun d => rb (fs e) fun ds => .ok (d :: ds) := rfl
@[simp] theorem bopF_ap {g : D → D → Option D} : bopF g fa fb e = rb (fa e) fun x => rb (fb e) fun y => ofO (g x y) := rfl
@[simp] theorem bopN_ap {g : D → D → Option (List D)} : bopN g fa fb e = rb (fa e) fun x => rb (fb e) fun y => ofO (g x y) := rfl
@[simp] theorem bopS_ap {g : D → D → Option D} : bopS g fa fb e = rb (fa e) fun x => if isS x then rb (fb e) fun y => ofO (g x y) else .bad := rfl
@[simp] theorem uopF_ap {g : D → Option D} : uopF g fa e = rb (fa e) fun x => ofO (g x) := rfl
@[simp] theorem callF_ap {g : List D → Option α} : callF g fs e = rb (fs e) fun ds => ofO (g ds) := rfl
@[simp] theorem fnF_ap {n : Nat} {g : List D → Res α} : fnF n g fs e = rb (fs e) fun ds => if ds.length = n then noX (g ds) else .bad := rfl
@[simp] theorem mkL_ap : mkL fs e = rb (fs e) fun ds => .ok (.lst ds) := rfl
theorem sizes {n : Nat} (h : n ≤ 1000000) : n ≤ sizeLine := by rw [sizeLine_eq]; omega
@[simp] theorem tupF_ap : tupF fs e = rb (fs e) fun ds => ofO (if ds.length ≤ sizeLine then some (.tup ds) else none) := rfl
@[simp] theorem lstF_ap : lstF fs e = rb (fs e) fun ds => ofO (if ds.length ≤ sizeLine then some ds else none) := rfl
@[simp] theorem tstF_ap : tstF f e = rb (f e) isBl := rfl
@[simp] theorem truF_ap : truF f e = rb (f e) truD := rfl
@[simp] theorem notF_ap : notF t e = rb (t e) fun b => .ok (!b) := rfl
@[simp] theorem andF_ap : andF t u e = rb (t e) fun b => if b then u e else .ok false := rfl
@[simp] theorem orF_ap : orF t u e = rb (t e) fun b => if b then .ok true else u e := rfl
@[simp] theorem notV_ap : notV f e = rb (f e) fun d => rb (isBl d) fun b => .ok (.bl (!b)) := rfl
@[simp] theorem andV_ap : andV f g e = rb (f e) fun d => rb (isBl d) fun b => if b then g e else .ok (.bl false) := rfl
@[simp] theorem orV_ap : orV f g e = rb (f e) fun d => rb (isBl d) fun b => if b then .ok (.bl true) else g e := rfl
@[simp] theorem ifF_ap {f g : En → Res α} : ifF t f g e = rb (t e) fun b => if b then f e else g e := rfl
@[simp] theorem chF_ap {k k' : D → D → Option D} : chF k k' fa fb fc e = rb (fa e) fun x => rb (fb e) fun y => rb (ofO (k x y)) fun z => rb (isBl z) fun b => if b then rb (fc e) fun w => ofO (k' y w) else .ok (.bl false) := rfl
@[simp] theorem soP_ap : soP f e = rb (f e) intO := rfl
@[simp] theorem slF_ap {k : D → Option Int → Option Int → Option α} {p q : En → Res (Option Int)} : slF k f p q e = rb (f e) fun d => rb (p e) fun lo => rb (q e) fun hi => ofO (k d lo hi) := rfl
@[simp] theorem itF_ap {k : α → Res (List D)} {f : En → Res α} : itF k f e = rb (f e) k := rfl
@[simp] theorem lfG_ap {k : D → Res (List D)} : lfG k f e = rb (f e) fun d => if d.lf || noOwn e then k d else .bad := rfl
@[simp] theorem newG_ap : newG fs e = rb (fs e) fun xs => if lfAll xs || noOwn e then .ok xs else .bad := rfl
@[simp] theorem isBl_ap {b : Bool} : isBl (.bl b) = .ok b := rfl
@[simp] theorem intO_ap {i : Int} : intO (.int i) = .ok (some i) := rfl
@[simp] theorem asLst_ap : asLst (.lst ds) = .ok ds := rfl
@[simp] theorem asTup_ap : asTup (.tup ds) = .ok ds := rfl
@[simp] theorem asStr_ap {l : List Nat} : asStr (.str l) = .ok (chD l) := rfl
@[simp] theorem retS_ap : retS f e = rb (f e) fun d => .ok (.rt d) := rfl
@[simp] theorem retN_ap : retN fs e = rb (fs e) fun d => .ok (.rl d) := rfl
theorem seqS_ap {F G : En → Res Fl} : seqS F G e = rb (F e) fun fl => match fl with | .nx e1 => G e1 | fl => .ok fl := rfl
theorem seqS_nx {F G : En → Res Fl} {e1 : En} (h : F e = .ok (.nx e1)) : seqS F G e = G e1 := by simp [seqS_ap, h]
theorem seqS_rt {F G : En → Res Fl} (h : F e = .ok (.rt d)) : seqS F G e = .ok (.rt d) := by simp [seqS_ap, h]
theorem seqS_rl {F G : En → Res Fl} (h : F e = .ok (.rl ds)) : seqS F G e = .ok (.rl ds) := by simp [seqS_ap, h]
@[simp] theorem ifS_ap {F G : En → Res Fl} : ifS t F G e = rb (t e) fun b => if b then F e else G e := rfl
@[simp] theorem asgS_ap {t : Tg} : asgS t f e = rb (f e) fun d => nxS (setT t d e) := rfl
@[simp] theorem nxS_ok : nxS (.ok e) = .ok (.nx e) := rfl
@[simp] theorem asgL_ap : asgL i fs e = rb (fs e) fun xs => if lfAll xs || noOwn e then .ok (.nx (e.set i (.dat (.lst xs)))) else .bad := rfl
@[simp] theorem asgO_ap : asgO i fs e = rb (fs e) fun xs => if lfAll xs || noOwn e then .ok (.nx (e.set i (.own xs))) else .bad := rfl
@[simp] theorem setT_nm : setT (.nm i) d e = setN i d e := by simp [setT]
@[simp] theorem forS_ap {fi : En → Res (List D)} {t : Tg} {B : En → Res Fl} : forS fi t B e = rb (fi e) fun items => forF t B items e := rfl
@[simp] theorem parS_ap : parS i j fs e = rb (fs e) fun ds => match ds with | [d, d'] => rb (setN i d e) fun e1 => nxS (setN j d' e1) | _ => .bad := rfl
@[simp] theorem lf_non : D.lf .non = true := by simp [D.lf]
@[simp] theorem lf_bl {b : Bool} : D.lf (.bl b) = true := by simp [D.lf]
@[simp] theorem lf_int {i : Int} : D.lf (.int i) = true := by simp [D.lf]
@[simp] theorem lf_str {l : List Nat} : D.lf (.str l) = true := by simp [D.lf]
@[simp] theorem lf_tup : D.lf (.tup ds) = lfAll ds := by simp [D.lf]
@[simp] theorem lf_lst : D.lf (.lst ds) = false := by simp [D.lf]
@[simp] theorem lfAll_nil : lfAll [] = true := by simp [lfAll]
@[simp] theorem lfAll_cons : lfAll (d :: ds) = (d.lf && lfAll ds) := by simp [lfAll]
@[simp] theorem noOwn_nil : noOwn [] = true := rfl
@[simp] theorem noOwn_dat : noOwn (.dat d :: e) = noOwn e := by simp [noOwn, Sl.isOwn]
@[simp] theorem noOwn_un : noOwn (.un :: e) = noOwn e := by simp [noOwn, Sl.isOwn]
@[simp] theorem noOwn_own : noOwn (.own ds :: e) = false := by simp [noOwn, Sl.isOwn]
@[simp] theorem getE_dat : getE 0 (.dat d :: e) = .ok d := rfl
@[simp] theorem getE_own : getE 0 (.own ds :: e) = .ok (.lst ds) := rfl
@[simp] theorem getE_succ {s : Sl} : getE (i + 1) (s :: e) = getE i e := by simp [getE]
@[simp] theorem getE_1 {s : Sl} : getE 1 (s :: e) = getE 0 e := getE_succ (i := 0)
@[simp] theorem getE_2 {s : Sl} : getE 2 (s :: e) = getE 1 e := getE_succ (i := 1)
@[simp] theorem getE_3 {s : Sl} : getE 3 (s :: e) = getE 2 e := getE_succ (i := 2)
@[simp] theorem getE_4 {s : Sl} : getE 4 (s :: e) = getE 3 e := getE_succ (i := 3)
@[simp] theorem getE_5 {s : Sl} : getE 5 (s :: e) = getE 4 e := getE_succ (i := 4)
@[simp] theorem getE_6 {s : Sl} : getE 6 (s :: e) = getE 5 e := getE_succ (i := 5)
@[simp] theorem getE_7 {s : Sl} : getE 7 (s :: e) = getE 6 e := getE_succ (i := 6)
@[simp] theorem getE_8 {s : Sl} : getE 8 (s :: e) = getE 7 e := getE_succ (i := 7)
@[simp] theorem getE_9 {s : Sl} : getE 9 (s :: e) = getE 8 e := getE_succ (i := 8)
@[simp] theorem getE_10 {s : Sl} : getE 10 (s :: e) = getE 9 e := getE_succ (i := 9)
@[simp] theorem getE_11 {s : Sl} : getE 11 (s :: e) = getE 10 e := getE_succ (i := 10)
@[simp] theorem getE_12 {s : Sl} : getE 12 (s :: e) = getE 11 e := getE_succ (i := 11)
@[simp] theorem getE_13 {s : Sl} : getE 13 (s :: e) = getE 12 e := getE_succ (i := 12)
@[simp] theorem getE_14 {s : Sl} : getE 14 (s :: e) = getE 13 e := getE_succ (i := 13)
@[simp] theorem getE_15 {s : Sl} : getE 15 (s :: e) = getE 14 e := getE_succ (i := 14)
@[simp] theorem getE_16 {s : Sl} : getE 16 (s :: e) = getE 15 e := getE_succ (i := 15)
@[simp] theorem getE_17 {s : Sl} : getE 17 (s :: e) = getE 16 e := getE_succ (i := 16)
@[simp] theorem getE_18 {s : Sl} : getE 18 (s :: e) = getE 17 e := getE_succ (i := 17)
@[simp] theorem getE_19 {s : Sl} : getE 19 (s :: e) = getE 18 e := getE_succ (i := 18)
@[simp] theorem getE_20 {s : Sl} : getE 20 (s :: e) = getE 19 e := getE_succ (i := 19)
@[simp] theorem initE_nil (n : Nat) : initE n [] = List.replicate n .un := by simp [initE]
@[simp] theorem initE_cons (n : Nat) : initE (n + 1) (d :: ds) = .dat d :: initE n ds := by simp [initE, Nat.add_sub_add_right]
@[simp] theorem truD_bl {b : Bool} : truD (.bl b) = .ok b := rfl
@[simp] theorem truD_tup : truD (.tup ds) = .ok (!ds.isEmpty) := rfl
@[simp] theorem truD_lst : truD (.lst ds) = .ok (!ds.isEmpty) := rfl
@[simp] theorem wipeE_nil : wipeE e [] = e := rfl
@[simp] theorem wipeE_cons {v : Nat} {vs : List Nat} : wipeE e (v :: vs) = (wipeE e vs).set v .un := rfl
@[simp] theorem addO_ii {i j : Int} : addO (.int i) (.int j) = some (.int (i + j)) := rfl
@[simp] theorem subI_ii {i j : Int} : subI (.int i) (.int j) = some (.int (i - j)) := rfl
theorem addO_ss {a b : List Nat} (h : a.length + b.length ≤ sizeLine) : addO (.str a) (.str b) = some (.str (a ++ b)) := by simp [addO, addI, addS, h]
theorem addO_tt {a b : List D} (h : a.length + b.length ≤ sizeLine) : addO (.tup a) (.tup b) = some (.tup (a ++ b)) := by simp [addO, addI, addS, addT, h]
@[simp] theorem ltO_ii {i j : Int} : ltO (.int i) (.int j) = some (.bl (decide (i < j))) := rfl
@[simp] theorem leO_ii {i j : Int} : leO (.int i) (.int j) = some (.bl (decide (i ≤ j))) := rfl
@[simp] theorem gtO_ii {i j : Int} : gtO (.int i) (.int j) = some (.bl (decide (j < i))) := rfl
@[simp] theorem geO_ii {i j : Int} : geO (.int i) (.int j) = some (.bl (decide (j ≤ i))) := rfl
@[simp] theorem leO_11 {a b : Nat} : leO (.str [a]) (.str [b]) = some (.bl (decide (a ≤ b))) := by
  have h : ([b] < [a]) ↔ b < a := by
    rw [List.cons_lt_cons_iff]
    simp
  have e : (!decide ([b] < [a])) = decide (a ≤ b) := by
    rw [Bool.eq_iff_iff]
    simp only [Bool.not_eq_true', decide_eq_false_iff_not, decide_eq_true_eq, h]
    omega
  show some (D.bl (!decide ([b] < [a]))) = _
  rw [e]
@[simp] theorem eqO_ii {i j : Int} : eqO (.int i) (.int j) = some (.bl (i == j)) := by simp [eqO, eqB, scalD, eqv]
@[simp] theorem eqO_ss {a b : List Nat} : eqO (.str a) (.str b) = some (.bl (a == b)) := by simp [eqO, eqB, scalD, eqv]
@[simp] theorem neO_ii {i j : Int} : neO (.int i) (.int j) = some (.bl (!(i == j))) := by simp [neO, eqB, scalD, eqv]
@[simp] theorem neO_ss {a b : List Nat} : neO (.str a) (.str b) = some (.bl (!(a == b))) := by simp [neO, eqB, scalD, eqv]
@[simp] theorem isO_bb {a b : Bool} : isO (.bl a) (.bl b) = some (.bl (decide (a = b))) := rfl
@[simp] theorem isnO_bb {a b : Bool} : isnO (.bl a) (.bl b) = some (.bl (!decide (a = b))) := rfl
@[simp] theorem lenO_tup : lenO [.tup ds] = some (.int (ds.length : Nat)) := rfl
@[simp] theorem lenO_lst : lenO [.lst ds] = some (.int (ds.length : Nat)) := rfl
theorem lenO_str {l : List Nat} (h : l.length ≤ sizeLine) : lenO [.str l] = some (.int (l.length : Nat)) := by simp [lenO, h]
@[simp] theorem modI_ii {i j : Int} : modI (.int i) (.int j) = if 0 < j then some (.int (i % j)) else none := rfl
@[simp] theorem mulI_ii {i j : Int} : mulI (.int i) (.int j) = if (i.natAbs < 2 ^ 64 ∨ j.natAbs < 2 ^ 64) then some (.int (i * j)) else none := rfl
@[simp] theorem tupleO_lst : tupleO [.lst ds] = some (.tup ds) := rfl
@[simp] theorem tupleO_tup : tupleO [.tup ds] = some (.tup ds) := rfl
@[simp] theorem listO_lst : listO [.lst ds] = some ds := rfl
@[simp] theorem listO_tup : listO [.tup ds] = some ds := rfl
@[simp] theorem negI_i {i : Int} : negI (.int i) = some (.int (-i)) := rfl
@[simp] theorem ixO_tup {i : Int} : ixO (.tup ds) (.int i) = atI ds i := rfl
@[simp] theorem ixO_lst {i : Int} : ixO (.lst ds) (.int i) = atI ds i := rfl
theorem ixO_str {l : List Nat} {i : Int} (h : l.length ≤ sizeLine) : ixO (.str l) (.int i) = (atI l i).map fun c => .str [c] := by simp [ixO, h]
@[simp] theorem slO_tup {lo hi : Option Int} : slO (.tup ds) lo hi = some (.tup (cutL ds lo hi)) := rfl
theorem slO_str {l : List Nat} {lo hi : Option Int} (h : l.length ≤ sizeLine) : slO (.str l) lo hi = some (.str (cutL l lo hi)) := by simp [slO, h]
theorem setN_lf (h : d.lf = true) : setN i d e = .ok (e.set i (.dat d)) := by simp [setN, h]
theorem setN_no (h : noOwn e = true) : setN i d e = .ok (e.set i (.dat d)) := by simp [setN, h]
@[simp] theorem atI_0 {α : Type} {x : α} {l : List α} : atI (x :: l) 0 = some x := by simp [atI, ixN]
theorem atI_n {α : Type} {l : List α} {i : Nat} {x : α} (h : l[i]? = some x) : atI l ((i : Nat) : Int) = some x := atI_nat h
theorem forF_nil {t : Tg} {B : En → Res Fl} : forF t B [] e = .ok (.nx e) := rfl
theorem forF_cons {t : Tg} {B : En → Res Fl} : forF t B (d :: ds) e = rb (setT t d e) fun e1 => rb (B e1) fun fl => match fl with | .nx e2 => forF t B ds e2 | fl => .ok fl := rfl
/-- a comprehension that maps -/
theorem lcF_map {t : Tg} {te : En → Res D} {e : En} {g : D → D} : ∀ {items : List D}, (∀ d ∈ items, ∃ e1, setT t d e = .ok e1 ∧ te e1 = .ok (g d) ∧ (g d).lf = true) → lcF t yesF te e items = .ok (items.map g)
  | [], _ => rfl
  | d :: r, h => by
    obtain ⟨e1, h1, h2, h3⟩ := h d (by simp)
    have ih := lcF_map (items := r) fun d hd => h d (by simp [hd])
    simp only [lcF, h1, rb_ok, yesF, if_true, h2, h3, ih, List.map_cons]
/-- .. that filters and maps -/
theorem lcF_filter {t : Tg} {tt : En → Res Bool} {te : En → Res D} {e : En} {p : D → Bool} {g : D → D} : ∀ {items : List D}, (∀ d ∈ items, ∃ e1, setT t d e = .ok e1 ∧ tt e1 = .ok (p d) ∧ (p d = true → te e1 = .ok (g d) ∧ (g d).lf = true)) →
    lcF t tt te e items = .ok ((items.filter p).map g)
  | [], _ => rfl
  | d :: r, h => by
    obtain ⟨e1, h1, h2, h3⟩ := h d (by simp)
    have ih := lcF_filter (items := r) (tt := tt) (te := te) (p := p) (g := g) fun d hd => h d (by simp [hd])
    simp only [lcF, h1, rb_ok, h2]
    cases hp : p d with
    | false => simp [hp, ih]
    | true =>
      obtain ⟨h4, h5⟩ := h3 hp
      simp [hp, h4, h5, ih]
theorem compF_ok {vs : List Nat} {fi : En → Res (List D)} {t : Tg} {tt : En → Res Bool} {te : En → Res D} {items zs : List D} (h1 : fi e = .ok items) (h2 : items.length ≤ sizeLine) (h3 : lcF t tt te (wipeE e vs) items = .ok zs) : compF vs fi t tt te e = .ok zs := by
  unfold compF
  rw [h1, rb_ok, if_pos h2, h3]
  rfl
theorem blsO_map {α : Type} (f : α → Bool) : ∀ l : List α, blsO (l.map fun x => .bl (f x)) = some (l.map f)
  | [] => rfl
  | x :: r => by simp only [List.map_cons, blsO, blsO_map f r]; rfl
end
end FM

set_option Elab.async false
set_option linter.all false
set_option maxRecDepth 100000
namespace FM
open PySem PySem.Spec PyProof.Rows L2
def tSmall : List Nat := [97, 98, 99, 100, 101, 102, 103, 104, 105, 106, 107, 108, 109, 110, 111, 112, 113, 114, 115, 116, 117, 118, 119, 120, 121, 122]
def tGreat : List Nat := [65, 66, 67, 68, 69, 70, 71, 72, 73, 74, 75, 76, 77, 78, 79, 80, 81, 82, 83, 84, 85, 86, 87, 88, 89, 90]
def tLetters : List Nat := [97, 98, 99, 100, 101, 102, 103, 104, 105, 106, 107, 108, 109, 110, 111, 112, 113, 114, 115, 116, 117, 118, 119, 120, 121, 122, 65, 66, 67, 68, 69, 70, 71, 72, 73, 74, 75, 76, 77, 78, 79, 80, 81, 82, 83, 84, 85, 86, 87, 88, 89, 90]
def tBlankLetters : List Nat := [32, 97, 98, 99, 100, 101, 102, 103, 104, 105, 106, 107, 108, 109, 110, 111, 112, 113, 114, 115, 116, 117, 118, 119, 120, 121, 122, 65, 66, 67, 68, 69, 70, 71, 72, 73, 74, 75, 76, 77, 78, 79, 80, 81, 82, 83, 84, 85, 86, 87, 88, 89, 90]
def tSigns : List Nat := [32, 33, 34, 35, 36, 38, 39, 40, 41, 42, 43, 44, 45, 46, 47, 48, 49, 50, 51, 52, 53, 54, 55, 56, 57, 58, 59, 60, 61, 62, 63, 64, 65, 66, 67, 68, 69, 70, 71, 72, 73, 74, 75, 76, 77, 78, 79, 80, 81, 82, 83, 84, 85, 86, 87, 88, 89, 90, 91, 92, 93, 94, 95, 96, 97, 98, 99, 100, 101, 102, 103, 104, 105, 106, 107, 108, 109, 110, 111, 112, 113, 114, 115, 116, 117, 118, 119, 120, 121, 122, 123, 124, 125, 126]
def wTwice : List Nat := [116, 119, 105, 99, 101]
def wBlanks : List Nat := [98, 108, 97, 110, 107, 115]
def wGreat : List Nat := [103, 114, 101, 97, 116]
def wWord : List Nat := [119, 111, 114, 100]
def wLong : List Nat := [108, 111, 110, 103]
def wSign : List Nat := [115, 105, 103, 110]
def wTeh : List Nat := [116, 101, 104]
def wThe : List Nat := [116, 104, 101]
def wTHe : List Nat := [84, 104, 101]
def wTheB : List Nat := [116, 104, 101, 32]
def wBTeh : List Nat := [32, 116, 101, 104]
def wNoSpot : List Nat := [110, 111, 32, 115, 112, 111, 116]
def wNoMark : List Nat := [110, 111, 32, 109, 97, 114, 107]
def wNoMend : List Nat := [110, 111, 32, 109, 101, 110, 100]
def wNoStep : List Nat := [110, 111, 32, 115, 116, 101, 112]
def wWrong : List Nat := [119, 114, 111, 110, 103]
def wEdit : List Nat := [101, 100, 105, 116]
def wMend : List Nat := [109, 101, 110, 100]
def wMendAll : List Nat := [109, 101, 110, 100, 95, 97, 108, 108]
def wPassOnce : List Nat := [112, 97, 115, 115, 95, 111, 110, 99, 101]
def wPassAlways : List Nat := [112, 97, 115, 115, 95, 97, 108, 119, 97, 121, 115]
def wAgain : List Nat := [97, 103, 97, 105, 110]
def wBack : List Nat := [98, 97, 99, 107]
def wForth : List Nat := [102, 111, 114, 116, 104]
def wText : List Nat := [116, 101, 120, 116]
def wRules : List Nat := [114, 117, 108, 101, 115]
def wOnce : List Nat := [111, 110, 99, 101]
def wAlways : List Nat := [97, 108, 119, 97, 121, 115]
def wPast : List Nat := [112, 97, 115, 116]
def wLater : List Nat := [108, 97, 116, 101, 114]
end FM

set_option Elab.async false
set_option linter.all false
set_option maxRecDepth 100000
namespace FM
open PySem PySem.Spec PyProof.Rows L2
/-- stretches -/
noncomputable def B_stretches : En → Res Fl := (seqS (asgO 2 (lstF nilF))
  (seqS (asgS (.nm 3) (cD (.int 0)))
  (seqS (whileS (tstF (bopF ltO (getE 3) (callF lenO (consF (getE 0) nilF))))
    (seqS (asgS (.nm 4) (getE 3))
  (seqS (whileS (andF (tstF (bopF ltO (getE 4) (callF lenO (consF (getE 0) nilF)))) (tstF (bopF inO (bopF ixO (getE 0) (getE 4)) (getE 1))))
    (asgS (.nm 4) (bopF addO (getE 4) (cD (.int 1)))))
  (seqS (ifS (tstF (bopF gtO (getE 4) (getE 3))) (appS 2 (tupF (consF (getE 3) (consF (getE 4) nilF)))) nilS)
  (asgS (.nm 3) (bopF addO (getE 4) (cD (.int 1))))))))
  (retO 2))))
noncomputable def f_stretches : List D → Res (List D) := runL 5 B_stretches
/-- twice -/
noncomputable def B_twice : En → Res Fl := (seqS (asgL 1 (fnF 2 f_stretches (consF (getE 0) (consF (cD (.str tLetters)) nilF))))
  (seqS (asgO 2 (lstF nilF))
  (seqS (forS (itF asRng2 (consF (cD (.int 1)) (consF (callF lenO (consF (getE 1) nilF)) nilF))) (.nm 3)
    (seqS (parS 4 5 (consF (bopF ixO (getE 1) (bopF subI (getE 3) (cD (.int 1)))) (consF (bopF ixO (getE 1) (getE 3)) nilF)))
  (seqS (asgS (.nm 6) (bopF eqO (uopF lowO (slF slO (getE 0) (soP (bopF ixO (getE 4) (cD (.int 0)))) (soP (bopF ixO (getE 4) (cD (.int 1)))))) (uopF lowO (slF slO (getE 0) (soP (bopF ixO (getE 5) (cD (.int 0)))) (soP (bopF ixO (getE 5) (cD (.int 1))))))))
  (ifS (andF (truF (getE 6)) (tstF (bopF eqO (bopS stripO (slF slO (getE 0) (soP (bopF ixO (getE 4) (cD (.int 1)))) (soP (bopF ixO (getE 5) (cD (.int 0))))) (cD (.str [32]))) (cD (.str []))))) (appS 2 (tupF (consF (bopF ixO (getE 4) (cD (.int 1))) (consF (bopF ixO (getE 5) (cD (.int 1))) (consF (cD (.str [])) nilF))))) nilS))))
  (retO 2))))
noncomputable def f_twice : List D → Res (List D) := runL 7 B_twice
/-- great -/
noncomputable def B_great : En → Res Fl := (seqS (asgL 1 (fnF 2 f_stretches (consF (getE 0) (consF (cD (.str tLetters)) nilF))))
  (seqS (asgO 2 (lstF nilF))
  (seqS (forS (varEnum 1) (.tp [(.nm 3), (.tp [(.nm 4), (.nm 5)])])
    (seqS (asgS (.nm 6) (orV (bopF eqO (getE 3) (cD (.int 0))) (bopF inO (cD (.str [46])) (slF slO (getE 0) (soP (bopF ixO (bopF ixO (getE 1) (bopF subI (getE 3) (cD (.int 1)))) (cD (.int 1)))) (soP (getE 4))))))
  (ifS (andF (truF (getE 6)) (tstF (bopF inO (bopF ixO (getE 0) (getE 4)) (cD (.str tSmall))))) (appS 2 (tupF (consF (getE 4) (consF (bopF addO (getE 4) (cD (.int 1))) (consF (uopF uppO (bopF ixO (getE 0) (getE 4))) nilF))))) nilS)))
  (retO 2))))
noncomputable def f_great : List D → Res (List D) := runL 7 B_great
/-- faults_of -/
noncomputable def B_faults_of : En → Res Fl := (seqS (ifS (tstF (bopF eqO (bopF ixO (getE 1) (cD (.int 0))) (cD (.str wTwice)))) (retN (fnF 1 f_twice (consF (getE 0) nilF))) nilS)
  (seqS (ifS (tstF (bopF eqO (bopF ixO (getE 1) (cD (.int 0))) (cD (.str wGreat)))) (retN (fnF 1 f_great (consF (getE 0) nilF))) nilS)
  (seqS (ifS (tstF (bopF eqO (bopF ixO (getE 1) (cD (.int 0))) (cD (.str wBlanks)))) (retN (compF [3, 4] (itF asLst (mkL (fnF 2 f_stretches (consF (getE 0) (consF (cD (.str [32])) nilF))))) (.tp [(.nm 3), (.nm 4)]) (tstF (bopF gtO (getE 4) (bopF addO (getE 3) (cD (.int 1))))) (tupF (consF (bopF addO (getE 3) (cD (.int 1))) (consF (getE 4) (consF (cD (.str [])) nilF)))))) nilS)
  (seqS (ifS (tstF (bopF eqO (bopF ixO (getE 1) (cD (.int 0))) (cD (.str wSign)))) (retN (compF [5] (itF asRng1 (consF (callF lenO (consF (getE 0) nilF)) nilF)) (.nm 5) (tstF (bopF eqO (bopF ixO (getE 0) (getE 5)) (bopF ixO (getE 1) (cD (.int 1))))) (tupF (consF (getE 5) (consF (bopF addO (getE 5) (cD (.int 1))) (consF (cD (.str [])) nilF)))))) nilS)
  (seqS (asgL 2 (fnF 2 f_stretches (consF (getE 0) (consF (cD (.str tLetters)) nilF))))
  (seqS (ifS (tstF (bopF eqO (bopF ixO (getE 1) (cD (.int 0))) (cD (.str wLong)))) (retN (compF [3, 4] (itF asLst (getE 2)) (.tp [(.nm 3), (.nm 4)]) (tstF (bopF gtO (bopF subI (getE 4) (getE 3)) (bopF ixO (getE 1) (cD (.int 1))))) (tupF (consF (getE 3) (consF (getE 4) (consF (cD .non) nilF)))))) nilS)
  (retN (compF [3, 4] (itF asLst (getE 2)) (.tp [(.nm 3), (.nm 4)]) (tstF (bopF eqO (uopF lowO (slF slO (getE 0) (soP (getE 3)) (soP (getE 4)))) (bopF ixO (getE 1) (cD (.int 1))))) (tupF (consF (getE 3) (consF (getE 4) (consF (bopF ixO (getE 1) (cD (.int 2))) nilF))))))))))))
noncomputable def f_faults_of : List D → Res (List D) := runL 6 B_faults_of
/-- all_marks -/
noncomputable def B_all_marks : En → Res Fl := (seqS (asgO 2 (lstF nilF))
  (seqS (forS (lfG enumTup (getE 1)) (.tp [(.nm 3), (.nm 4)])
    (extS 2 (compF [5, 6, 7] (itF asLst (mkL (fnF 2 f_faults_of (consF (getE 0) (consF (getE 4) nilF))))) (.tp [(.nm 5), (.nm 6), (.nm 7)]) yesF (tupF (consF (getE 5) (consF (getE 6) (consF (getE 3) (consF (getE 7) nilF))))))))
  (retS (callF tupleO (consF (mkL (uopN sortK (getE 2))) nilF)))))
noncomputable def f_all_marks : List D → Res D := runD 8 B_all_marks
/-- _law_cell -/
noncomputable def B_law_cell : En → Res Fl := (seqS (ifS (tstF (bopF ltO (getE 1) (callF lenO (consF (getE 0) nilF)))) (retS (bopF ixO (getE 0) (getE 1))) nilS)
  (retS (cD (.int 0))))
noncomputable def f_law_cell : List D → Res D := runD 2 B_law_cell
/-- _law_mix -/
noncomputable def B_law_mix : En → Res Fl := (seqS (asgS (.nm 3) (bopF modI (bopF mulI (getE 0) (cD (.int 48271))) (getE 1)))
  (retS (bopF modI (bopF modI (bopF mulI (getE 3) (bopF addO (getE 3) (cD (.int 7)))) (getE 1)) (getE 2))))
noncomputable def f_law_mix : List D → Res D := runD 4 B_law_mix
/-- _law_signs -/
noncomputable def B_law_signs : En → Res Fl := (retS (cD (.str tSigns)))
noncomputable def f_law_signs : List D → Res D := runD 0 B_law_signs
/-- _law_letters -/
noncomputable def B_law_letters : En → Res Fl := (seqS (asgS (.nm 2) (cD (.str tLetters)))
  (retS (bopS joinO (cD (.str [])) (mkL (compF [3] (itF asRng1 (consF (getE 1) nilF)) (.nm 3) yesF (bopF ixO (getE 2) (fnF 3 f_law_mix (consF (bopF addO (getE 0) (bopF mulI (cD (.int 7)) (getE 3))) (consF (cD (.int 9973)) (consF (cD (.int 52)) nilF))))))))))
noncomputable def f_law_letters : List D → Res D := runD 4 B_law_letters
/-- _law_text -/
noncomputable def B_law_text : En → Res Fl := (seqS (asgS (.nm 1) (fnF 0 f_law_signs nilF))
  (seqS (asgS (.nm 2) (fnF 3 f_law_mix (consF (getE 0) (consF (cD (.int 9967)) (consF (cD (.int 41)) nilF)))))
  (seqS (asgS (.nm 3) (cD (.str [])))
  (seqS (asgS (.nm 4) (cD (.int 0)))
  (seqS (whileS (tstF (bopF ltO (callF lenO (consF (getE 3) nilF)) (getE 2)))
    (seqS (asgS (.nm 4) (bopF addO (getE 4) (cD (.int 1))))
  (seqS (asgS (.nm 5) (bopF addO (getE 0) (bopF mulI (cD (.int 13)) (getE 4))))
  (seqS (asgL 6 (lstF (consF (cD (.str [97])) (consF (cD (.str wTeh)) (consF (cD (.str wTHe)) (consF (cD (.str wThe)) (consF (cD (.str [97])) (consF (fnF 2 f_law_letters (consF (getE 5) (consF (bopF addO (cD (.int 1)) (fnF 3 f_law_mix (consF (getE 5) (consF (cD (.int 9949)) (consF (cD (.int 10)) nilF))))) nilF))) nilF))))))))
  (seqS (asgS (.nm 3) (bopF addO (getE 3) (bopF ixO (getE 6) (fnF 3 f_law_mix (consF (getE 5) (consF (cD (.int 9941)) (consF (cD (.int 6)) nilF)))))))
  (seqS (asgS (.nm 7) (bopF ixO (getE 1) (fnF 3 f_law_mix (consF (getE 5) (consF (cD (.int 9931)) (consF (callF lenO (consF (getE 1) nilF)) nilF))))))
  (seqS (asgS (.nm 8) (tupF (consF (cD (.str [32])) (consF (cD (.str [32])) (consF (cD (.str [32, 32])) (consF (cD (.str [32, 32, 32])) (consF (cD (.str [46, 32])) (consF (cD (.str [46])) (consF (cD (.str [33, 32])) (consF (getE 7) nilF))))))))))
  (asgS (.nm 3) (bopF addO (getE 3) (bopF ixO (getE 8) (fnF 3 f_law_mix (consF (getE 5) (consF (cD (.int 9929)) (consF (cD (.int 8)) nilF))))))))))))))
  (retS (slF slO (getE 3) noP (soP (getE 2)))))))))
noncomputable def f_law_text : List D → Res D := runD 9 B_law_text
/-- _law_rule -/
noncomputable def B_law_rule : En → Res Fl := (seqS (asgL 1 (compF [4] (itF asStr (fnF 0 f_law_signs nilF)) (.nm 4) (tstF (bopF ninO (getE 4) (cD (.str tBlankLetters)))) (getE 4)))
  (seqS (asgS (.nm 2) (fnF 3 f_law_mix (consF (getE 0) (consF (cD (.int 9923)) (consF (cD (.int 6)) nilF)))))
  (seqS (ifS (tstF (bopF eqO (getE 2) (cD (.int 0)))) (seqS (asgS (.nm 3) (bopF ixO (tupF (consF (cD (.str [97])) (consF (cD (.str wTeh)) (consF (cD (.str wThe)) (consF (uopF lowO (fnF 2 f_law_letters (consF (getE 0) (consF (bopF addO (cD (.int 1)) (fnF 3 f_law_mix (consF (getE 0) (consF (cD (.int 9907)) (consF (cD (.int 6)) nilF))))) nilF)))) nilF))))) (fnF 3 f_law_mix (consF (getE 0) (consF (cD (.int 9901)) (consF (cD (.int 4)) nilF))))))
  (retS (tupF (consF (cD (.str wWord)) (consF (getE 3) (consF (bopF ixO (tupF (consF (cD (.str [])) (consF (cD (.str [97])) (consF (cD (.str wThe)) (consF (uopF lowO (fnF 2 f_law_letters (consF (bopF addO (getE 0) (cD (.int 1))) (consF (cD (.int 6)) nilF)))) nilF))))) (fnF 3 f_law_mix (consF (getE 0) (consF (cD (.int 9887)) (consF (cD (.int 4)) nilF))))) nilF)))))) nilS)
  (seqS (ifS (tstF (bopF eqO (getE 2) (cD (.int 1)))) (retS (tupF (consF (cD (.str wLong)) (consF (bopF addO (cD (.int 1)) (fnF 3 f_law_mix (consF (getE 0) (consF (cD (.int 9883)) (consF (cD (.int 9)) nilF))))) nilF)))) nilS)
  (seqS (ifS (tstF (bopF eqO (getE 2) (cD (.int 2)))) (retS (tupF (consF (cD (.str wSign)) (consF (bopF ixO (tupF (consF (cD (.str [33])) (consF (cD (.str [46])) (consF (bopF ixO (getE 1) (fnF 3 f_law_mix (consF (getE 0) (consF (cD (.int 9871)) (consF (callF lenO (consF (getE 1) nilF)) nilF))))) nilF)))) (fnF 3 f_law_mix (consF (getE 0) (consF (cD (.int 9859)) (consF (cD (.int 3)) nilF))))) nilF)))) nilS)
  (retS (bopF ixO (tupF (consF (tupF (consF (cD (.str wTwice)) nilF)) (consF (tupF (consF (cD (.str wBlanks)) nilF)) (consF (tupF (consF (cD (.str wGreat)) nilF)) nilF)))) (bopF subI (getE 2) (cD (.int 3))))))))))
noncomputable def f_law_rule : List D → Res D := runD 5 B_law_rule
/-- _law_rules -/
noncomputable def B_law_rules : En → Res Fl := (seqS (asgS (.nm 1) (tupF nilF))
  (seqS (forS (itF asRng1 (consF (bopF addO (cD (.int 1)) (fnF 3 f_law_mix (consF (getE 0) (consF (cD (.int 9857)) (consF (cD (.int 4)) nilF))))) nilF)) (.nm 2)
    (seqS (asgS (.nm 3) (fnF 1 f_law_rule (consF (bopF addO (getE 0) (bopF mulI (cD (.int 19)) (getE 2))) nilF)))
  (ifS (tstF (bopF ninO (getE 3) (getE 1))) (asgS (.nm 1) (bopF addO (getE 1) (tupF (consF (getE 3) nilF)))) nilS)))
  (retS (getE 1))))
noncomputable def f_law_rules : List D → Res D := runD 4 B_law_rules
end FM

set_option Elab.async false
set_option linter.all false
set_option maxRecDepth 100000
namespace FM
open PySem PySem.Spec PyProof.Rows L2
/-- _law_same -/
noncomputable def B_law_same (g : List D → Res D) : En → Res Fl := (seqS (ifS (truF (uopF (isiO "tuple") (getE 1))) (seqS (ifS (orF (notF (truF (uopF (isiO "tuple") (getE 0)))) (tstF (bopF neO (callF lenO (consF (getE 0) nilF)) (callF lenO (consF (getE 1) nilF))))) (retS (cD (.bl false))) nilS)
  (retS (callF allO (consF (mkL (compF [2, 3] (itF asZip (consF (getE 0) (consF (getE 1) nilF))) (.tp [(.nm 2), (.nm 3)]) yesF (fnF 2 g (consF (getE 2) (consF (getE 3) nilF))))) nilF)))) nilS)
  (seqS (ifS (tstF (bopF isO (getE 1) (cD .non))) (retS (bopF isO (getE 0) (cD .non))) nilS)
  (seqS (ifS (orF (truF (uopF (isiO "bool") (getE 1))) (truF (uopF (isiO "bool") (getE 0)))) (retS (andV (uopF (isiO "bool") (getE 1)) (andV (uopF (isiO "bool") (getE 0)) (bopF eqO (getE 0) (getE 1))))) nilS)
  (retS (andV (uopF isiIS (getE 0)) (bopF eqO (getE 0) (getE 1)))))))
noncomputable def f_law_same : Nat → List D → Res D
  | 0 => fun _ => .bad
  | n + 1 => runD 4 (B_law_same (f_law_same n))
/-- _law_words -/
noncomputable def B_law_words : En → Res Fl := (seqS (asgO 1 (lstF nilF))
  (seqS (forS (itF enumStr (getE 0)) (.tp [(.nm 2), (.nm 3)])
    (ifS (tstF (bopF inO (getE 3) (cD (.str tLetters)))) (ifS (andF (truF (getE 1)) (tstF (bopF eqO (bopF ixO (bopF ixO (getE 1) (uopF negI (cD (.int 1)))) (cD (.int 1))) (getE 2)))) (stoS 1 (uopF negI (cD (.int 1))) (tupF (consF (bopF ixO (bopF ixO (getE 1) (uopF negI (cD (.int 1)))) (cD (.int 0))) (consF (bopF addO (getE 2) (cD (.int 1))) nilF)))) (appS 1 (tupF (consF (getE 2) (consF (bopF addO (getE 2) (cD (.int 1))) nilF))))) nilS))
  (retO 1)))
noncomputable def f_law_words : List D → Res (List D) := runL 4 B_law_words
/-- _law_faults -/
noncomputable def B_law_faults : En → Res Fl := (seqS (asgL 2 (fnF 1 f_law_words (consF (getE 0) nilF)))
  (seqS (asgO 3 (lstF nilF))
  (seqS (ifS (tstF (bopF eqO (bopF ixO (getE 1) (cD (.int 0))) (cD (.str wSign)))) (retN (compF [4, 11] (itF enumStr (getE 0)) (.tp [(.nm 4), (.nm 11)]) (tstF (bopF eqO (getE 11) (bopF ixO (getE 1) (cD (.int 1))))) (tupF (consF (getE 4) (consF (bopF addO (getE 4) (cD (.int 1))) (consF (cD (.str [])) nilF)))))) nilS)
  (seqS (ifS (tstF (bopF eqO (bopF ixO (getE 1) (cD (.int 0))) (cD (.str wBlanks)))) (seqS (forS (itF asRng2 (consF (cD (.int 1)) (consF (callF lenO (consF (getE 0) nilF)) nilF))) (.nm 4)
    (ifS (tstF (bopF eqO (slF slO (getE 0) (soP (bopF subI (getE 4) (cD (.int 1)))) (soP (bopF addO (getE 4) (cD (.int 1))))) (cD (.str [32, 32])))) (ifS (andF (truF (getE 3)) (tstF (bopF eqO (bopF ixO (bopF ixO (getE 3) (uopF negI (cD (.int 1)))) (cD (.int 1))) (getE 4)))) (stoS 3 (uopF negI (cD (.int 1))) (tupF (consF (bopF ixO (bopF ixO (getE 3) (uopF negI (cD (.int 1)))) (cD (.int 0))) (consF (bopF addO (getE 4) (cD (.int 1))) (consF (cD (.str [])) nilF))))) (appS 3 (tupF (consF (getE 4) (consF (bopF addO (getE 4) (cD (.int 1))) (consF (cD (.str [])) nilF)))))) nilS))
  (retO 3)) nilS)
  (seqS (forS (varEnum 2) (.tp [(.nm 4), (.tp [(.nm 5), (.nm 6)])])
    (seqS (asgS (.nm 7) (slF slO (getE 0) (soP (getE 5)) (soP (getE 6))))
  (seqS (asgS (.nm 8) (ifF (tstF (bopF gtO (getE 4) (cD (.int 0)))) (slF slO (getE 0) (soP (bopF ixO (bopF ixO (getE 2) (bopF subI (getE 4) (cD (.int 1)))) (cD (.int 1)))) (soP (getE 5))) (cD (.str [46]))))
  (seqS (ifS (andF (tstF (bopF eqO (bopF ixO (getE 1) (cD (.int 0))) (cD (.str wLong)))) (tstF (bopF gtO (callF lenO (consF (getE 7) nilF)) (bopF ixO (getE 1) (cD (.int 1)))))) (appS 3 (tupF (consF (getE 5) (consF (getE 6) (consF (cD .non) nilF))))) nilS)
  (seqS (ifS (andF (tstF (bopF eqO (bopF ixO (getE 1) (cD (.int 0))) (cD (.str wWord)))) (tstF (bopF eqO (uopF lowO (getE 7)) (bopF ixO (getE 1) (cD (.int 1)))))) (appS 3 (tupF (consF (getE 5) (consF (getE 6) (consF (bopF ixO (getE 1) (cD (.int 2))) nilF))))) nilS)
  (seqS (ifS (andF (tstF (bopF eqO (bopF ixO (getE 1) (cD (.int 0))) (cD (.str wGreat)))) (andF (tstF (bopF inO (cD (.str [46])) (getE 8))) (tstF (bopF eqO (bopF ixO (getE 7) (cD (.int 0))) (uopF lowO (bopF ixO (getE 7) (cD (.int 0)))))))) (appS 3 (tupF (consF (getE 5) (consF (bopF addO (getE 5) (cD (.int 1))) (consF (uopF uppO (bopF ixO (getE 7) (cD (.int 0)))) nilF))))) nilS)
  (ifS (andF (tstF (bopF eqO (bopF ixO (getE 1) (cD (.int 0))) (cD (.str wTwice)))) (andF (tstF (bopF gtO (getE 4) (cD (.int 0)))) (tstF (bopF eqO (getE 8) (bopF mulS (cD (.str [32])) (callF lenO (consF (getE 8) nilF))))))) (seqS (asgS (.tp [(.nm 9), (.nm 10)]) (bopF ixO (getE 2) (bopF subI (getE 4) (cD (.int 1)))))
  (ifS (tstF (bopF eqO (uopF lowO (slF slO (getE 0) (soP (getE 9)) (soP (getE 10)))) (uopF lowO (getE 7)))) (appS 3 (tupF (consF (getE 10) (consF (getE 6) (consF (cD (.str [])) nilF))))) nilS)) nilS)))))))
  (retO 3))))))
noncomputable def f_law_faults : List D → Res (List D) := runL 12 B_law_faults
/-- _law_marks -/
noncomputable def B_law_marks : En → Res Fl := (seqS (asgD 2)
  (seqS (forS (lfG enumTup (getE 1)) (.tp [(.nm 3), (.nm 4)])
    (forS (newG (fnF 2 f_law_faults (consF (getE 0) (consF (getE 4) nilF)))) (.tp [(.nm 5), (.nm 6), (.nm 7)])
    (putS 2 (consF (getE 5) (consF (getE 6) (consF (getE 3) nilF))) (getE 7))))
  (retS (callF tupleO (consF (mkL (compF [8] (itF asLst (mkL (sortDct 2))) (.nm 8) yesF (bopF addO (getE 8) (tupF (consF (dgetF 2 (getE 8)) nilF))))) nilF)))))
noncomputable def f_law_marks : List D → Res D := runD 9 B_law_marks
end FM

set_option Elab.async false
set_option linter.all false
set_option maxRecDepth 100000
namespace FM
open PySem PySem.Spec PyProof.Rows L2
/-- words_in -/
noncomputable def B_words_in : En → Res Fl := (retS (callF tupleO (consF (mkL (fnF 2 f_stretches (consF (getE 0) (consF (cD (.str tLetters)) nilF)))) nilF)))
noncomputable def f_words_in : List D → Res D := runD 1 B_words_in
/-- marks_in -/
noncomputable def B_marks_in : En → Res Fl := (retS (callF tupleO (consF (mkL (compF [4] (itF asTup (fnF 2 f_all_marks (consF (getE 0) (consF (getE 1) nilF)))) (.nm 4) (tstF (chF leO ltO (getE 2) (bopF ixO (getE 4) (cD (.int 0))) (getE 3))) (getE 4))) nilF)))
noncomputable def f_marks_in : List D → Res D := runD 5 B_marks_in
end FM

set_option Elab.async false
set_option linter.all false
set_option maxRecDepth 100000
/-! FM15: a tuple backwards, min, int of a truth, a raise that is never reached, chains of three. -/
namespace FM
open PySem PySem.Spec PyProof.Rows L2
section
variable {prog : Program} {w : World} {A : Around} {E : Value → Shared → Prop} {s : Shared}
theorem places_rev (n : Nat) : Builtin.Slice.slicePlaces ((n : Int) - 1) (-1) (-1) = n := by
  unfold Builtin.Slice.slicePlaces
  rw [if_neg (by decide)]
  by_cases h : (n : Int) - 1 > -1
  · rw [if_pos h, show (- -1 : Int) = 1 by decide, Int.ediv_one]; omega
  · rw [if_neg h]; omega
theorem adjust_rev (n : Nat) : Builtin.Slice.sliceAdjust none none (-1) (n : Int) = ((n : Int) - 1, -1) := by
  simp [Builtin.Slice.sliceAdjust]
theorem applied_rev {c : Addr} {vl vu vs : Value} {n : Nat} {R : Int × Int × Nat → Shared → Prop} (hc : s.heap.IsSliceOf c vl vu vs) (l1 : IsPart vl none) (l2 : IsPart vu none) (l3 : IsPart vs (some (-1)))
    (h : R ((n : Int) - 1, -1, n) s) : wpAny (model prog w) A (Builtin.Slice.sliceApplied (.ref c) (pure (n : Int))) R E s := by
  obtain ⟨ob, e1, e2, e3⟩ := id hc
  unfold Builtin.Slice.sliceApplied Builtin.Slice.sliceFields
  refine wpAny_bind (wpAny_bind (wpAny_field e1 e3 (x := vl) rfl (wpAny_bind (wpAny_field e1 e3 (x := vu) rfl (wpAny_bind (wpAny_field e1 e3 (x := vs) rfl (wpAny_pure ?_)))))))
  refine wpAny_bind (HT.slicePart_ l3 ?_)
  show wpAny _ _ (if ((-1 : Int) == 0) = true then _ else _) _ _ s
  rw [if_neg (by decide)]
  refine wpAny_bind (HT.slicePart_ l1 (wpAny_bind (HT.slicePart_ l2 (wpAny_bind (wpAny_pure ?_)))))
  show wpAny _ _ (match Builtin.Slice.sliceAdjust none none (-1) (n : Int) with | (lo, hi) => pure (lo, (-1 : Int), Builtin.Slice.slicePlaces lo hi (-1))) _ _ s
  rw [adjust_rev n]
  show wpAny _ _ (pure ((n : Int) - 1, (-1 : Int), Builtin.Slice.slicePlaces ((n : Int) - 1) (-1) (-1))) _ _ s
  rw [places_rev]
  exact wpAny_pure h
theorem pick_rev (xs : Array Value) : ((List.range xs.size).filterMap fun (m : Nat) => xs[(((xs.size : Nat) : Int) - 1 + (m : Int) * -1).toNat]?).toArray = xs.toList.reverse.toArray := by
  have e : (fun (m : Nat) => xs[(((xs.size : Nat) : Int) - 1 + (m : Int) * -1).toNat]?) = fun m => xs[xs.size - 1 - m]? := by
    funext m
    have : (((xs.size : Nat) : Int) - 1 + (m : Int) * -1).toNat = xs.size - 1 - m := by omega
    rw [this]
  have k := PySem.W.krv_range xs.size
  have q : (List.range xs.size).filterMap (fun m => xs[xs.size - 1 - m]?) = ((List.range xs.size).map fun k => xs.size - 1 - k).filterMap (xs[·]?) := by
    rw [List.filterMap_map]
    rfl
  rw [e, q, k, List.filterMap_reverse, PySem.W.krv_all]
theorem item_rev {t c : Addr} {items : Array Value} {vl vu vs : Value} {R : Value → Shared → Prop} (ht : IsTup s.heap t items) (hc : s.heap.IsSliceOf c vl vu vs) (l1 : IsPart vl none) (l2 : IsPart vu none) (l3 : IsPart vs (some (-1)))
    (h : R (.ref s.heap.objs.size) { s with heap := s.heap.push { cls := .type "tuple", data := .seq items.toList.reverse.toArray } }) (hz : items.size ≤ sizeLine) :
    wpAny (model prog w) A (getItem (.ref t) (.ref c)) R E s := by
  have fits : sizeOk (.seq items.toList.reverse.toArray) := by
    show items.toList.reverse.toArray.size ≤ sizeLine
    rw [List.size_toArray, List.length_reverse, Array.length_toList]
    exact hz
  obtain ⟨ob, e1, e2, e3⟩ := id hc
  have ty : s.TypeIs (.ref c) "slice" := ⟨ob, e1, e2⟩
  unfold getItem
  try with_reducible refine wpAny_holding ?_
  first | refine wpAny_bind (wpAny_pure ?_) | skip
  refine wpAny_bind (wpAny_sequenceKey ht.typeIs (by decide) ?_)
  refine wpAny_bind (wpAny_callSpecial?_slot (name := Str.ofString "__getitem__") ht.typeIs PyProof.Rows.slot_tuple_getitem (wpAny_call_entry PyProof.Rows.slot_tuple_getitem ht.typeIs entry_tuple_getitem ?_ (args_tuple_getitem _ _)))
  show wpAny _ _ (Builtin.Tuple.tupleItemsOf (.ref t) >>= _) _ _ s
  refine wpAny_bind (PyProof.Rows.tupleItemsOf_ ht ?_)
  refine wpAny_bind (wpAny_typeOf ty ?_)
  rw [if_pos (by decide)]
  refine wpAny_bind (applied_rev hc l1 l2 l3 ?_)
  have no : ¬ ((((items.size : Nat) : Int) - 1 == 0 && (-1 : Int) == 1 && items.size == items.size) = true) := by
    intro q
    rw [Bool.and_eq_true, Bool.and_eq_true] at q
    exact absurd (eq_of_beq q.1.2) (by decide)
  show wpAny _ _ (if (((items.size : Nat) : Int) - 1 == 0 && (-1 : Int) == 1 && items.size == items.size) = true then _ else _) _ _ s
  rw [if_neg no, pick_rev]
  first
    | exact wpAny_bind (m := Builtin.Tuple.tupleExact _) (wpAny_newObj_type (wpAny_pure ⟨_, rfl, wpAny_pure h⟩) fits)
    | exact wpAny_bind (m := Builtin.Tuple.tupleExact _) (wpAny_newObj_type (wpAny_bind (wpAny_pure (wpAny_pure ⟨_, rfl, wpAny_pure h⟩))) fits)
    | exact wpAny_bind (wpAny_bind (m := Builtin.Tuple.tupleExact _) (wpAny_newObj_type (wpAny_pure (wpAny_pure ⟨_, rfl, wpAny_pure h⟩)) fits))
    | exact wpAny_bind (wpAny_bind (m := Builtin.Tuple.tupleExact _) (wpAny_newObj_type (wpAny_pure ⟨_, rfl, wpAny_pure h⟩) fits))
end
section
variable {X : Cx} {W : Wx} {a b c d e : Expr} {es : List Expr} {fa fb fc fd f : En → Res D} {fs : En → Res (List D)} {p pos : Pos}
def tRevT (K : PySem.W.Frag) (te : TE) : TE := fun σ H Q => te σ H fun x H1 => ∃ a xs, x = .ref a ∧ SqT K H1 a xs ∧ ∀ p, H1 p = none → Q (.ref p) (upd H1 p (.tup xs.reverse))
theorem pe_revT {te : TE} {k : Nat} {p1 p2 p3 : Pos} (he : PE X e te) : PE X (.Subscript e (.Slice none none (some (.UnaryOp .USub (.Constant (.int 1) k p1) p2)) p3) pos) (tRevT X.K te) := by
  refine ⟨fun pins s σ H Q I h => ?_⟩
  refine Subscript_ (thn (he.run pins s σ H _ I h) fun v s1 ⟨x, H1, I1, r1, a, xs, ex, hx, q⟩ => ?_)
  subst ex
  cases r1
  have step : PO X (some (.UnaryOp .USub (.Constant (.int 1) k p1) p2)) (tPart (tUn (rU fun i => .int (-i)) (tC (.int 1)))) := po_some (pe_un un_neg pe_int)
  refine wpAny_Slice (thn (po_none.run pins s1 σ H1 (fun o H2 => o = none ∧ H2 = H1) I1 ⟨rfl, rfl⟩) fun v1 s2 ⟨o1, H2, I2, l1, z1, z2⟩ => ?_)
  subst z1 z2
  refine thn (po_none.run pins s2 σ H2 (fun o H3 => o = none ∧ H3 = H2) I2 ⟨rfl, rfl⟩) fun v2 s3 ⟨o2, H3, I3, l2, z1, z2⟩ => ?_
  subst z1 z2
  refine thn (step.run pins s3 σ H3 (fun o H4 => o = some (-1) ∧ H4 = H3) I3 ⟨1, rfl, -1, rfl, rfl, rfl⟩) fun v3 s4 ⟨o3, H4, I4, l3, z1, z2⟩ => ?_
  subst z1 z2
  have I5 : Inv X pins σ H4 { s4 with heap := s4.heap.push { cls := .type "slice", data := .fields #[v1, v2, v3] } } := I4.kept (t' := s4.toks) fun b ob q => Heap.get?_push_of_some _ q
  obtain ⟨its, r, ht, hz⟩ := I5.tuple hx
  have hlen := r.length
  show wpAny (model X.prog X.w) X.A (subscriptTail e (.Slice none none (some (.UnaryOp .USub (.Constant (.int 1) k p1) p2)) p3) (.ref a) (.ref s4.heap.objs.size)) (EP X pins σ Q) X.xe { s4 with heap := s4.heap.push { cls := .type "slice", data := .fields #[v1, v2, v3] } }
  refine tail_any (ops := [.ref a, .ref s4.heap.objs.size]) ht.typeIs (PyProof.Rows.slot_tuple_getitem.lookup) ?_ (by with_unfolding_all rfl)
  refine item_rev ht (Heap.IsSliceOf.new _ v1 v2 v3) l1 l2 l3 ?_ (by rw [List.size_toArray]; omega)
  refine ⟨.ref _, _, I5.laid (t' := s4.toks) (o := .tup xs.reverse) (fun b ob q => Heap.get?_push_of_some _ q) (Nat.le_refl _) ?_, rfl, q _ (I5.hok.fresh (Nat.le_refl _))⟩
  exact ⟨by rw [List.length_reverse]; exact hz, _, r.reverse, IsTup.new _ _⟩
def revO : D → Option D
  | .tup ds => some (.tup ds.reverse)
  | _ => none
theorem RpAll.app {K : PySem.W.Frag} {H : Hp} : ∀ {ds es : List D} {vs ws : List V}, RpAll K H ds vs → RpAll K H es ws → RpAll K H (ds ++ es) (vs ++ ws)
  | [], _, _, _, h, h2 => by cases h; exact h2
  | d :: ds, _, _, _, h, h2 => by
    obtain ⟨v, r, rfl, h1, h3⟩ := h
    exact ⟨v, _, rfl, h1, RpAll.app h3 h2⟩
theorem RpAll.rev {K : PySem.W.Frag} {H : Hp} : ∀ {ds : List D} {vs : List V}, RpAll K H ds vs → RpAll K H ds.reverse vs.reverse
  | [], _, h => by cases h; exact RpAll.nil
  | d :: ds, _, h => by
    obtain ⟨v, r, rfl, h1, h3⟩ := h
    rw [List.reverse_cons, List.reverse_cons]
    exact RpAll.app (RpAll.rev h3) (RpAll.cons h1 RpAll.nil)
theorem pd_revT {k : Nat} {p1 p2 p3 : Pos} (ha : PE X a (tD X.K W f)) : PE X (.Subscript a (.Slice none none (some (.UnaryOp .USub (.Constant (.int 1) k p1) p2)) p3) pos) (tD X.K W (uopF revO f)) := by
  refine PE.weak (pe_revT ha) (tD_un (r := fun x H Q => ∃ a xs, x = .ref a ∧ SqT X.K H a xs ∧ ∀ p, H p = none → Q (.ref p) (upd H p (.tup xs.reverse))) fun x H Q d z r hz q => ?_)
  cases d with
  | tup ds =>
    cases hz
    obtain ⟨p, vs, rfl, h1, h2⟩ := r
    exact ⟨p, vs, rfl, h1, fun n hn => q _ _ (same_new hn) ⟨n, _, rfl, SqT.of upd_same, (h2.mono (same_new hn)).rev⟩⟩
  | _ => cases hz
def minO : List D → Option D
  | [.int i, .int j] => some (.int (if j < i then j else i))
  | _ => none
theorem pd_min (hc : X.calm = true) (hm : X.mg "min" = none) (ha : PA X (e :: es) (tDs X.K W fs)) (hg : Gl X "min" := by rfl) (he : starEach (e :: es) X.env = (false, eval e X.env) :: starEach es X.env := by rfl) (hpl : (backTo pos (starEach es X.env)).any (·.1) = false := by rfl) :
    PE X (.Call (.Name "min" p) (e :: es) [] pos) (tD X.K W (callF minO fs)) := by
  refine pd_callB (call_min2 hc) (fun xs H Q ds z r hz q => ?_) hm (by decide +kernel) ha hg (by decide) (by decide) he hpl
  unfold minO at hz
  split at hz
  · cases hz
    obtain ⟨v, r', rfl, rv, v2, r2, rfl, rv2, rr⟩ := r
    cases rv; cases rv2; cases rr
    exact ⟨_, _, rfl, q _ H (Same.refl H) rfl⟩
  · cases hz
def intB : List D → Option D
  | [.bl b] => some (.int (if b then 1 else 0))
  | [.int i] => some (.int i)
  | _ => none
theorem pd_intB (hm : X.mg "int" = none) (ha : PA X (e :: es) (tDs X.K W fs)) (hg : Gl X "int" := by rfl) (he : starEach (e :: es) X.env = (false, eval e X.env) :: starEach es X.env := by rfl) (hpl : (backTo pos (starEach es X.env)).any (·.1) = false := by rfl) :
    PE X (.Call (.Name "int" p) (e :: es) [] pos) (tD X.K W (callF intB fs)) := by
  refine pd_callTy call_int1 (fun xs H Q ds z r hz q => ?_) hm (by decide +kernel) ha hg (by decide) (by decide) he hpl
  unfold intB at hz
  split at hz
  · cases hz
    obtain ⟨v, r', rfl, rv, rr⟩ := r
    cases rv; cases rr
    exact .inr ⟨_, rfl, q _ H (Same.refl H) rfl⟩
  · cases hz
    obtain ⟨v, r', rfl, rv, rr⟩ := r
    cases rv; cases rr
    exact .inl ⟨_, rfl, q _ H (Same.refl H) rfl⟩
  · cases hz
/-- a statement that is never reached -/
def badS : En → Res Fl := fun _ => .bad
theorem pds_bad {st : Stmt} : PS X st (tS X.K W badS) := ⟨fun _ _ _ _ _ _ h => let ⟨_, _, _, q⟩ := h; q.elim⟩
end
end FM

set_option Elab.async false
set_option linter.all false
set_option maxRecDepth 100000
/-! FM16: plain tuples (whose object is known to have no dict), t.index(x); chains of three; list.index; list * int; len(set(ints)). -/
namespace FM
open PySem PySem.Spec PyProof.Rows L2
/-! ### tuple(a new list): the object itself is known -/
def rTupP (K : PySem.W.Frag) : List V → Hp → VK → Prop := fun xs H Q => ∃ p ys, xs = [.ref p] ∧ SqL K H p ys ∧ ∀ l ob, H l = none → ob.dict = none → ob.cls = .type "tuple" → Q (.ref l) (upd H l (.frz ob (.tup ys)))
theorem cr_tupP {X : Cx} : CallR X (.type "tuple") (rTupP X.K) := by
  intro pins s σ H xs us Q I r h
  obtain ⟨p, ys, rfl, hq, q⟩ := h
  obtain ⟨u, rfl, rx⟩ := vals1 r
  cases rx
  obtain ⟨its, r', pl, hz⟩ := I.list hq
  have hlen := r'.length
  refine call_tuple_list pl.isList (fun h' kp => ?_) (by simp only [List.size_toArray] <;> omega)
  have I1 : Inv X pins σ H { s with heap := h' } := I.kept (t' := s.toks) kp
  have I2 : Inv X pins σ (upd H h'.objs.size (.frz { cls := .type "tuple", data := .seq its.toArray } (.tup ys))) { s with heap := h'.push { cls := .type "tuple", data := .seq its.toArray } } :=
    I1.laid (t' := s.toks) (fun b o e => Heap.get?_push_of_some _ e) (Nat.le_refl _) ⟨Heap.get?_push_size _ rfl, hz, its, r', IsTup.new _ _⟩
  exact ⟨.ref h'.objs.size, _, I2, rfl, q _ _ (I1.hok.fresh (Nat.le_refl _)) rfl rfl⟩
/-- readings that give a plain tuple -/
def FinP (K : PySem.W.Frag) (W : Wx) (σ : L2.St) (H : Hp) (Q : VK) : Res (List D) → Prop
  | .ok xs => ∀ a ob vs H', Same H H' → H' a = some (.frz ob (.tup vs)) → ob.dict = none → ob.cls = .type "tuple" → RpAll K H' xs vs → Q (.ref a) H'
  | .exc c => ∀ H', Same H H' → W c σ H'
  | .bad => False
def tP (K : PySem.W.Frag) (W : Wx) (f : En → Res (List D)) : TE := fun σ H Q => ∃ e, EnvOk K H σ e ∧ FinP K W σ H Q (f e)
section
variable {X : Cx} {W : Wx} {K : PySem.W.Frag} {e : Expr} {p pos : Pos} {fn : En → Res (List D)}
/-- tuple(l), l a new list -/
theorem pp_tuple (hm : X.mg "tuple" = none) (ha : PE X e (tN X.K W fn)) (hg : Gl X "tuple" := by rfl) (he : starEach [e] X.env = (false, eval e X.env) :: starEach [] X.env := by rfl) (hpl : (backTo pos (starEach [] X.env)).any (·.1) = false := by rfl) :
    PE X (.Call (.Name "tuple" p) [e] [] pos) (tP X.K W fn) := by
  refine PE.weak (pe_callTy cr_tupP hg hm (by decide +kernel) (pa_cons ha pa_nil he) (by decide) (by decide) he hpl) ?_
  rintro σ H Q ⟨e, he, hf⟩
  refine ⟨e, he, ?_⟩
  cases h1 : fn e with
  | bad => rw [h1] at hf; exact hf
  | exc c => rw [h1] at hf; exact hf
  | ok xs =>
    rw [h1] at hf
    intro a vs H1 na s1 ea r1
    exact ⟨a, vs, rfl, SqL.of ea, fun l ob nl o1 o2 => hf l ob vs _ (s1.trans (same_new nl)) upd_same o1 o2 ((r1.mono (hide_same _)).mono (same_new nl))⟩
/-- return of a plain tuple -/
def retP (f : En → Res (List D)) : En → Res Fl := fun e => rb (f e) fun xs => .ok (.rp xs)
@[simp] theorem retP_ap {f : En → Res (List D)} {e : En} : retP f e = rb (f e) fun xs => .ok (.rp xs) := rfl
theorem st_plain {G H : Hp} {σ : L2.St} {e : En} {f : En → Res (List D)} {Z : Ends} {Q : VK} {k : List D → Res Fl} (he : StOk K G H σ e) (hf : FinS K W G Z (rb (f e) k))
    (hq : ∀ xs a ob vs H', f e = .ok xs → Same H H' → H' a = some (.frz ob (.tup vs)) → ob.dict = none → ob.cls = .type "tuple" → RpAll K H' xs vs → FinS K W G Z (k xs) → Q (.ref a) H') : tP K W f σ H Q := by
  refine ⟨e, he.env, ?_⟩
  cases h1 : f e with
  | bad => rw [h1] at hf; exact hf
  | exc c => rw [h1] at hf; exact fun H' s => hf σ H' (he.same.trans s)
  | ok xs =>
    rw [h1, rb_ok] at hf
    exact fun a ob vs H' s ea o1 o2 r => hq xs a ob vs H' h1 s ea o1 o2 r hf
theorem pds_retP {ex : Expr} (he : PE X ex (tP X.K W fn)) : PS X (.Return (some ex) pos) (tS X.K W (retP fn)) :=
  PS.weak (ps_ret he) fun Z σ H ⟨G, e, he, hf⟩ => st_plain he hf fun xs a ob vs H' _ s ea o1 o2 r hk => hk a ob vs H' (he.same.trans s) ea o1 o2 r
end
/-! ### defs that give plain tuples -/
def FinRP (K : PySem.W.Frag) (C : Cls4) (H : Hp) (Q : VK) (E : XK) : Res (List D) → Prop
  | .ok xs => ∀ a ob vs H', Same H H' → H' a = some (.frz ob (.tup vs)) → ob.dict = none → ob.cls = .type "tuple" → RpAll K H' xs vs → Q (.ref a) H'
  | .exc c => ∀ H', Same H H' → E (.ref (C.at_ c)) none H'
  | .bad => False
def spP (K : PySem.W.Frag) (C : Cls4) (n : Nat) (g : List D → Res (List D)) : Sp := fun vs H Q E => TabOK K H ∧ ∃ ds, ds.length = n ∧ RpAll K H ds vs ∧ FinRP K C H Q E (g ds)
theorem spP.len {K : PySem.W.Frag} {C : Cls4} {n : Nat} {g : List D → Res (List D)} : ∀ vs H Q E, spP K C n g vs H Q E → vs.length = n := fun vs H Q E ⟨_, ds, h1, h2, _⟩ => h2.length.symm.trans h1
def runP (m : Nat) (B : En → Res Fl) (ds : List D) : Res (List D) := match B (initE m ds) with
  | .ok (.rp xs) => .ok xs
  | _ => .bad
/-- the same as data -/
def mkT (r : Res (List D)) : Res D := rb r fun xs => .ok (.tup xs)
theorem sp_PD {K : PySem.W.Frag} {C : Cls4} {n : Nat} {g : List D → Res (List D)} {vs : List V} {H : Hp} {Q : VK} {E : XK} (h : spD K C n (fun ds => mkT (g ds)) vs H Q E) : spP K C n g vs H Q E := by
  obtain ⟨tb, ds, hn, r, hf⟩ := h
  refine ⟨tb, ds, hn, r, ?_⟩
  simp only [mkT] at hf
  cases h1 : g ds with
  | bad => rw [h1] at hf; exact hf
  | exc c => rw [h1] at hf; exact hf
  | ok xs =>
    rw [h1, rb_ok] at hf
    exact fun a ob vs H' s ea o1 o2 r => hf _ H' s ⟨a, vs, rfl, .inl (.inr ⟨ob, ea⟩), r⟩
section
variable {P : Program} {w : World} {K : PySem.W.Frag} {mg : Str → Option Value} {base : Heap}
theorem fnP_body {C : Cls4} {n : Nat} {N : List Str} {H : Hp} {vs : List V} {Q : VK} {E : XK} {B : En → Res Fl} (h : spP K C n (runP N.length B) vs H Q E) : tS K W0 B { nx := fun _ H' => Q .non H', rt := Q } (start N vs) H := by
  obtain ⟨tb, ds, hn, r, hf⟩ := h
  refine ⟨H, _, start_ok tb r, ?_⟩
  unfold runP at hf
  cases h1 : B (initE N.length ds) with
  | bad => rw [h1] at hf; exact hf
  | exc c => rw [h1] at hf; exact hf.elim
  | ok fl =>
    rw [h1] at hf
    cases fl with
    | nx e => exact hf.elim
    | rt d => exact hf.elim
    | rl xs => exact hf.elim
    | rp xs => exact hf
theorem fn_tabP {x : Str} {st : Stmt} {N ps : List Str} {k : Nat} {B : En → Res Fl} (C : Cls4) (F : DefTab K mg base x st ps) (S : FnScope N ps (defScope st))
    (hbody : ∀ (c T f : Addr) (A : Around) (outer : List Env) (s : Shared) (H : Hp) (E : XK), TabAt K T → LamX.TabB base mg c T → Room k (A.deeper (envOfC x (defScope st) s.heap.objs.size f (.ref c))) →
      PSs (cxOf CX0 P w K mg base N x (defScope st) f (.ref c) A outer s H E).nox (defBody st) (tS K W0 B))
    {n m : Nat} {g : List D → Res (List D)} (hg : g = runP m B) (hn : ps.length = n) (hN : N.length = m) : FnB P w K mg base (k + 1) x ps (spP K C n g) := by
  subst hg hn hN
  obtain ⟨f, c, T, oc, od, an, kV, doc, pm, ct, osl, lk, hcd, kp, hm, hb, hT, TB⟩ := F.ex
  refine ⟨f, _, fn_of lk hcd S spP.len fun A outer s H vs Q E hr h => ?_, hm, kp, hb⟩
  exact ⟨_, (hbody c T f A outer s H E hT TB hr).nox, fnP_body h⟩
theorem FnB.toD {k n : Nat} {x : Str} {ps : List Str} {C : Cls4} {g : List D → Res (List D)} (h : FnB P w K mg base k x ps (spP K C n g)) (hn : ps.length = n) : FnB P w K mg base k x ps (spD K C n fun ds => mkT (g ds)) := by
  obtain ⟨f, fd, h1, h2⟩ := h
  subst hn
  exact ⟨f, fd, h1.imp fun vs H Q E q => sp_PD q, h2⟩
end
section
variable {X : Cx} {W : Wx} {K : PySem.W.Frag} {k n : Nat} {x : Str} {ps : List Str} {C : Cls4} {p pos : Pos} {e : Expr} {es : List Expr} {fa : En → Res (List D)} {g : List D → Res (List D)} {fn : En → Res (List D)} {f : En → Res D}
theorem tP_fn {f : En → Res (List D)} : ∀ σ H Q, tP K W (fnF n g f) σ H Q → tCall (spP K C n g) [] E0 (tDs K W f) σ H Q := by
  rintro σ H Q ⟨e, he, hf⟩
  refine ⟨e, he, ?_⟩
  unfold fnF at hf
  cases h1 : f e with
  | bad => rw [h1] at hf; exact hf
  | exc c => rw [h1] at hf; exact hf
  | ok ds =>
    rw [h1, rb_ok] at hf
    intro vs H1 s1 r1
    by_cases hn : ds.length = n
    · rw [if_pos hn] at hf
      refine ⟨he.tab.mono s1, ds, hn, by simpa using r1, ?_⟩
      cases h3 : g ds with
      | bad => rw [h3] at hf; exact hf.elim
      | exc c => rw [h3] at hf; exact hf.elim
      | ok z =>
        rw [h3] at hf
        exact fun a ob vs H3 s3 ea o1 o2 r3 => hf a ob vs H3 (s1.trans s3) ea o1 o2 r3
    · rw [if_neg hn] at hf; exact hf.elim
theorem pp_fn (F : FnB X.prog X.w X.K X.mg X.base k x ps (spP X.K C n g)) (hr : Room k X.A) (ha : PA X (e :: es) (tDs X.K W fa)) (hg : Gl X x := by rfl) (hdb : (x == ("__debug__" : Str)) = false := by decide)
    (he : starEach (e :: es) X.env = (false, eval e X.env) :: starEach es X.env := by rfl) (hpl : (backTo pos (starEach es X.env)).any (·.1) = false := by rfl) : PE X (.Call (.Name x p) (e :: es) [] pos) (tP X.K W (fnF n g fa)) := by
  obtain ⟨f, fd, h1, h2, h3, h4⟩ := F
  exact PE.weak (pe_call h1 hr hg h2 h3 h4 .nil pass0 ha hdb he hpl) tP_fn
/-! ### a name that holds a plain tuple -/
def asgP (i : Nat) (f : En → Res (List D)) : En → Res Fl := fun e => rb (f e) fun xs => if lfAll xs then .ok (.nx (e.set i (.ptp xs))) else .bad
@[simp] theorem asgP_ap {i : Nat} {e : En} : asgP i fn e = rb (fn e) fun xs => if lfAll xs then .ok (.nx (e.set i (.ptp xs))) else .bad := rfl
theorem asgP_D {i : Nat} : ∀ Z σ H, tS K W (asgP i fn) Z σ H → tAsg (tP K W fn) (gName i) Z σ H := by
  rintro Z σ H ⟨G, e, he, hf⟩
  refine st_plain he hf fun xs a ob vs H' _ s ea o1 o2 r hk => ?_
  split at hk
  · rename_i hl
    have he' := he.keep s
    have noa : ¬ owns σ e a := fun q => by
      rcases he'.own_at q with ⟨_, z⟩ | ⟨_, z⟩ | z <;> rw [ea] at z <;> cases z
    have sub : ∀ b, owns (σ.set i (some (.ref a))) (e.set i (.ptp xs)) b → owns σ e b := fun b q => by
      rcases owns_set he.len q with q | ⟨q, _⟩
      · exact q
      · cases q
    have hs := hide_sub (H := H') sub
    have lift : RpAll K (hide (owns σ e) H') xs vs := he.liftAll s (by rw [hl]; rfl) r
    refine hk _ H' ⟨by simp [he.len], he'.g.trans hs, fun j t z => ?_, fun j k b t u hjk h1 h2 h3 h4 h5 => ?_, he'.tab⟩
    · by_cases hj : i = j
      · subst hj
        have hi : i < e.length := by have := (List.getElem?_eq_some_iff.mp z).1; simpa using this
        rw [List.getElem?_set_self hi] at z
        cases z
        rw [List.getElem?_set_self (by rw [he.len]; exact hi)]
        refine ⟨a, ob, vs, rfl, ?_, o1, o2, lift.mono hs⟩
        rw [hide_no fun q => noa (sub a q)]
        exact ea
      · rw [List.getElem?_set_ne hj] at z ⊢
        exact (he'.at_ j t z).mono hs fun _ _ _ _ q => q
    · have nj : i ≠ j := fun q => by
        subst q
        have hi : i < e.length := by have := (List.getElem?_eq_some_iff.mp h1).1; simpa using this
        rw [List.getElem?_set_self hi] at h1
        cases h1; cases h2
      have nk : i ≠ k := fun q => by
        subst q
        have hi : i < e.length := by have := (List.getElem?_eq_some_iff.mp h3).1; simpa using this
        rw [List.getElem?_set_self hi] at h3
        cases h3; cases h4
      rw [List.getElem?_set_ne nj] at h1 h5
      rw [List.getElem?_set_ne nk] at h3
      rw [List.getElem?_set_ne nk]
      exact he'.dis j k b t u hjk h1 h2 h3 h4 h5
  · exact hk.elim
theorem pds_asgP (i : Nat) {x : Str} {px pos : Pos} {ex : Expr} (he : PE X ex (tP X.K W fn)) (hN : X.N.Nodup) (hi : X.N[i]? = some x := by rfl) (hx : Loc X.env.scope x := by first | exact .inl rfl | exact .inr rfl) (hf : X.fn x = true ∨ X.env.scope.names.lookup x = some .local := by first | exact .inl rfl | exact .inr rfl)
    (hs : swapsWith ex (some (.Name x px)) pos.line X.env = pure false := by rfl) : PS X (.Assign [.Name x px] ex pos) (tS X.K W (asgP i fn)) := PS.weak (ps_set hN hi hx he hs hf) asgP_D
/-! ### t.index(x) -/
def idxN (d : D) : List D → Option Nat
  | [] => none
  | z :: r => if eqv z d then some 0 else (idxN d r).map (· + 1)
def idxO (xs : List D) (d : D) : Option D := if d.okN 64 && okAll 63 xs then (idxN d xs).map fun j => .int (j : Nat) else none
theorem idxN_some {d : D} : ∀ {xs : List D} {j : Nat}, idxN d xs = some j → ∃ z, xs[j]? = some z ∧ eqv z d = true ∧ ∀ m z', m < j → xs[m]? = some z' → eqv z' d = false
  | [], j, h => by cases h
  | z :: r, j, h => by
    unfold idxN at h
    split at h
    · rename_i hz
      cases h
      exact ⟨z, rfl, hz, fun m z' hm _ => by omega⟩
    · rename_i hz
      obtain ⟨k, hk, rfl⟩ := Option.map_eq_some_iff.mp h
      obtain ⟨y, h1, h2, h3⟩ := idxN_some hk
      refine ⟨y, by simpa using h1, h2, fun m z' hm hm' => ?_⟩
      cases m with
      | zero => simp at hm'; rw [← hm']; simpa using hz
      | succ m => exact h3 m z' (by omega) (by simpa using hm')
/-- as rIndexD, of a tuple -/
def rIdxT (K : PySem.W.Frag) : V → List V → Hp → VK → Prop := fun x xs H Q => ∃ (a : Addr) (ob : Obj) (vs : List V) (ds : List D) (y : V) (d : D) (j : Nat), x = .ref a ∧ xs = [y] ∧ H a = some (.frz ob (.tup vs)) ∧ ob.dict = none ∧ ob.cls = .type "tuple" ∧ RpAll K H ds vs ∧ Rp K H d y ∧ d.okN 64 = true ∧ okAll 63 ds = true ∧ idxN d ds = some j ∧ Q (.int (j : Nat)) H
theorem toPyAll_get : ∀ {ds : List D} {j : Nat} {z : D}, ds[j]? = some z → (toPyAll ds)[j]? = some (toPy z)
  | [], _, _, h => by simp at h
  | d :: ds, 0, z, h => by simp at h; subst h; rfl
  | d :: ds, j + 1, z, h => by
    simp only [toPyAll, List.getElem?_cons_succ]
    exact toPyAll_get (by simpa using h)
theorem toPyAll_len : ∀ ds : List D, (toPyAll ds).length = ds.length
  | [] => rfl
  | d :: ds => by simp [toPyAll, toPyAll_len ds]
theorem mt_idxT (hu : X.A.units + 65 < cLine) : MtR X "tuple.index" (rIdxT X.K) := by
  intro pins s σ H x xs v us Q I rx rxs h
  obtain ⟨a, ob, vs, ds, y, d, j, rfl, rfl, ha, o1, o2, r1, r2, k1, k2, hj, q⟩ := h
  cases rx
  cases rxs with
  | cons ry rt =>
    rename_i uy ut
    cases rt
    obtain ⟨bs, rd⟩ := Dp.reads I (toPy d) y uy (Rp.dp r2) ry
    obtain ⟨sd1, sd2⟩ := okN_lay 64 d k1
    obtain ⟨sl1, sl2⟩ := okAll_lay 63 ds k2
    have hsd : SeqAt.shaped (toPy d) = true := ok_shaped k1
    have hroom : X.A.units + 1 + min (PyData.depthAll (toPyAll ds)) (toPy d).depth < cLine := by
      have : min (PyData.depthAll (toPyAll ds)) (toPy d).depth ≤ 63 := Nat.le_trans (Nat.min_le_left _ _) sl2
      omega
    obtain ⟨hget, hz0, its, rv, htup⟩ := I.hok a _ ha
    obtain ⟨o', ho', hc', n, hd'⟩ := htup
    have eo : o' = ob := by rw [hget] at ho'; exact (Option.some.inj ho').symm
    subst eo
    obtain ⟨cls, dd, data, sls⟩ := o'
    simp only at hc' hd' o1
    subst hc' hd' o1
    obtain ⟨as, h4⟩ := Dp.readsAll I (toPyAll ds) vs its (RpAll.dp r1) rv
    have hn : its.length = (toPyAll ds).length := SeqAt.ReadsAll.length (toPyAll ds) its as h4
    have hmap : its.map (SeqAt.readOf s.heap) = toPyAll ds := SeqAt.readsAll_map (toPyAll ds) its as sl1 h4
    obtain ⟨z, hz, hzj, hno⟩ := idxN_some hj
    have hjd : j < ds.length := (List.getElem?_eq_some_iff.mp hz).1
    rw [toPyAll_len] at hn
    have at_ : ∀ (m : Nat) (hm : m < its.toArray.size) (z' : D), ds[m]? = some z' → SeqAt.readOf s.heap its.toArray[m] = toPy z' := by
      intro m hm z' hz'
      have hml : m < its.length := by simpa using hm
      have e0 := toPyAll_get hz'
      rw [← hmap, List.getElem?_map, List.getElem?_eq_getElem hml] at e0
      have e1 : SeqAt.readOf s.heap its[m] = toPy z' := Option.some.inj (show some (SeqAt.readOf s.heap its[m]) = some (toPy z') from e0)
      simpa using e1
    have hja : j < its.toArray.size := by simp; omega
    refine call_meets PySem.F.slot_tuple_index ⟨_, hget, rfl⟩ PySem.F.entry_tuple_index (PySem.F.args_tuple_index_2 _ _)
      (SeqAt.tuple_index2_found a its.toArray n none sls uy (fun m => match its.toArray[m]? with | some u => PyData.eqv (SeqAt.readOf s.heap u) (toPy d) | none => false) j hja (Nat.zero_le _) hja ?_ ?_) ⟨hget, fun m hm => ?_, ?_⟩
    · rw [Array.getElem?_eq_getElem hja]
      simp only [at_ j hja z hz, eqv_py]
      exact hzj
    · intro m hm _ hmj
      have hmd : m < ds.length := by omega
      rw [Array.getElem?_eq_getElem hm]
      simp only [at_ m hm _ (List.getElem?_eq_getElem hmd), eqv_py]
      exact hno m _ hmj (List.getElem?_eq_getElem hmd)
    · rw [Array.getElem?_eq_getElem hm]
      exact SeqAt.items_eqAt (vs := its.toArray) (show ReadsAll s.heap its.toArray.toList (toPyAll ds) as from h4) rd sl1 sd1 hroom _ (Array.getElem_mem hm)
    · exact ⟨.int (j : Nat), H, I.tok _, ⟨_, rfl⟩, q⟩
/-- the call of a method of such a tuple -/
theorem pe_bmP {id : String} {name : Str} {r : V → List V → Hp → VK → Prop} {o a : Expr} {apos cpos : Pos} {to : TE} {t : TA} (slot : Slot "tuple" name id) (hty : typeOf (.builtin id) = pure (.type "method_descriptor")) (hm : MtR X id r) (ho : PE X o to) (ha : PA X [a] t)
    (hbase : attributeBase o name X.env (eval o X.env) = eval o X.env := by rfl)
    (hfew : ((backTo cpos (starEach [a] X.env)).all (fun x => !x.1) && (backToKw cpos (keywordEach [] X.env)).all (fun x => x.1.isSome) && decide ([a].length + ([] : List Keyword).length + (if ([] : List Keyword).isEmpty then 0 else 1) < 30)) = true := by rfl)
    (hline : (apos.endLine == cpos.line) = true := by rfl) (hs : starEach [a] X.env = (false, eval a X.env) :: starEach [] X.env := by rfl) (hplain : (backTo cpos (starEach [] X.env)).any (·.1) = false := by rfl) :
    PE X (.Call (.Attribute o name apos) [a] [] cpos) (fun σ H Q => to σ H fun x H1 => (∃ b ob vs, x = .ref b ∧ H1 b = some (.frz ob (.tup vs)) ∧ ob.dict = none ∧ ob.cls = .type "tuple") ∧ t σ H1 fun xs H2 => r x xs H2 Q) := by
  refine ⟨fun pins s σ H Q I h => ?_⟩
  refine wpAny_Call_method_late hbase hfew hline rfl (thn (ho.run pins s σ H _ I h) fun v s1 ⟨x, H1, I1, r1, ⟨b, ob, vs, ex, hb, o1, o2⟩, q1⟩ => ?_)
  subst ex
  cases r1
  have hget := (I1.hok b _ hb).1
  refine ⟨"tuple", id, PySem.F.plainAttrs_tuple, slot, hty, ⟨ob, hget, o2⟩, fun c e => by cases e; exact ⟨ob, hget, o1⟩, ?_⟩
  have hA := ha.run cpos pins s1 σ H1 _ I1 q1
  rw [hs] at hA ⊢
  refine Calls.callWith_builtin (by show (false || (backTo cpos (starEach [] X.env)).any (·.1)) = false; rw [hplain] <;> rfl) (Calls.evalArgs_plain ?_)
  exact thn hA fun us s2 ⟨ws, H2, I2, r2, q2⟩ => hm pins s2 σ H2 (.ref b) ws _ us Q I2 rfl r2 q2
def ixP (i : Nat) (f : En → Res D) : En → Res D := fun e => match e[i]? with
  | some (.ptp xs) => rb (f e) fun d => ofO (idxO xs d)
  | _ => .bad
theorem pd_indexP {kk : Nat} (hr : Room kk X.A) (i : Nat) {x : Str} {px apos cpos : Pos} {a : Expr} (ha : PE X a (tD X.K W f)) (hN : X.N[i]? = some x := by rfl) (hv : Vis X.env.scope x := by first | exact Or.inl rfl | exact Or.inr (Or.inl rfl) | exact Or.inr (Or.inr rfl)) (hd : (x == ("__debug__" : Str)) = false := by decide) (hcd : (x == ("__classdict__" : Str)) = false := by decide)
    (hbase : attributeBase (.Name x px) "index" X.env (eval (.Name x px) X.env) = eval (.Name x px) X.env := by rfl)
    (hfew : ((backTo cpos (starEach [a] X.env)).all (fun x => !x.1) && (backToKw cpos (keywordEach [] X.env)).all (fun x => x.1.isSome) && decide ([a].length + ([] : List Keyword).length + (if ([] : List Keyword).isEmpty then 0 else 1) < 30)) = true := by rfl)
    (hline : (apos.endLine == cpos.line) = true := by rfl) (hs : starEach [a] X.env = (false, eval a X.env) :: starEach [] X.env := by rfl) (hplain : (backTo cpos (starEach [] X.env)).any (·.1) = false := by rfl) :
    PE X (.Call (.Attribute (.Name x px) "index" apos) [a] [] cpos) (tD X.K W (ixP i f)) := by
  refine PE.weak (pe_bmP PySem.F.slot_tuple_index PySem.F.type_tuple_index (mt_idxT (units65 hr)) (pe_var hN hv hd hcd) (pa_cons ha pa_nil hs) hbase hfew hline hs hplain) ?_
  rintro σ H Q ⟨e, he, hf⟩
  unfold ixP at hf
  split at hf
  · rename_i xs hx
    obtain ⟨b, ob, vs, e1, e2, o1, o2, e3⟩ := he.at_ i _ hx
    refine ⟨.ref b, e1, ⟨b, ob, vs, rfl, e2, o1, o2⟩, e, he, ?_⟩
    cases h1 : f e with
    | bad => rw [h1] at hf; exact hf
    | exc c => rw [h1] at hf; exact hf
    | ok d =>
      rw [h1, rb_ok] at hf
      intro v H1 s1 r1
      unfold idxO at hf
      split at hf
      · rename_i hk
        simp only [Bool.and_eq_true] at hk
        cases h2 : idxN d xs with
        | none => rw [h2] at hf; exact hf.elim
        | some j =>
          rw [h2] at hf
          exact ⟨b, ob, vs, xs, v, d, j, rfl, rfl, s1.keep _ _ e2 (fun _ z => nomatch z), o1, o2, e3.mono s1, r1, hk.1, hk.2, h2, hf _ H1 s1 rfl⟩
      · exact hf.elim
  · exact hf.elim
/-! ### l.index(x) -/
def idxL : D → D → Option D
  | .lst xs, d => idxO xs d
  | _, _ => none
def isLst : D → Bool
  | .lst _ => true
  | _ => false
def bopQ (g : D → D → Option D) (fa fb : En → Res D) : En → Res D := fun e => rb (fa e) fun x => if isLst x then rb (fb e) fun y => ofO (g x y) else .bad
@[simp] theorem bopQ_ap {g : D → D → Option D} {fa fb : En → Res D} {e : En} : bopQ g fa fb e = rb (fa e) fun x => if isLst x then rb (fb e) fun y => ofO (g x y) else .bad := rfl
theorem pd_indexL {kk : Nat} {fb : En → Res D} (hr : Room kk X.A) {o a : Expr} {apos cpos : Pos} (ho : PE X o (tD X.K W f)) (ha : PE X a (tD X.K W fb))
    (hbase : attributeBase o "index" X.env (eval o X.env) = eval o X.env := by rfl)
    (hfew : ((backTo cpos (starEach [a] X.env)).all (fun x => !x.1) && (backToKw cpos (keywordEach [] X.env)).all (fun x => x.1.isSome) && decide ([a].length + ([] : List Keyword).length + (if ([] : List Keyword).isEmpty then 0 else 1) < 30)) = true := by rfl)
    (hline : (apos.endLine == cpos.line) = true := by rfl) (hs : starEach [a] X.env = (false, eval a X.env) :: starEach [] X.env := by rfl) (hplain : (backTo cpos (starEach [] X.env)).any (·.1) = false := by rfl) :
    PE X (.Call (.Attribute o "index" apos) [a] [] cpos) (tD X.K W (bopQ idxL f fb)) := by
  refine PE.weak (pe_bm PySem.F.plainAttrs_list PySem.F.slot_list_index PySem.F.type_list_index (mt_indexD (units65 hr)) ho (pa_cons ha pa_nil hs) hbase hfew hline hs hplain) ?_
  rintro σ H Q ⟨e, he, hf⟩
  refine ⟨e, he, ?_⟩
  unfold bopQ at hf
  cases h0 : f e with
  | bad => rw [h0] at hf; exact hf
  | exc c => rw [h0] at hf; exact hf
  | ok d0 =>
    rw [h0, rb_ok] at hf
    intro v H1 s1 r1
    cases d0 with
    | lst xs =>
      rw [if_pos (show isLst (.lst xs) = true from rfl)] at hf
      obtain ⟨b, vs, rfl, q1, q2⟩ := id r1
      refine ⟨Or.inl ⟨rfl, vs, q1⟩, e, he.mono s1, ?_⟩
      cases h1 : fb e with
      | bad => rw [h1] at hf; exact hf.elim
      | exc c => rw [h1] at hf; exact fun H' q => hf H' (s1.trans q)
      | ok d =>
        rw [h1, rb_ok] at hf
        intro u H2 s2 r2
        simp only [idxL, idxO] at hf
        split at hf
        · rename_i hk
          simp only [Bool.and_eq_true] at hk
          cases h2 : idxN d xs with
          | none => rw [h2] at hf; exact hf.elim
          | some j =>
            rw [h2] at hf
            obtain ⟨z, hz, hzj, hno⟩ := idxN_some h2
            have r1' := r1.mono s2
            refine ⟨b, u, toPy d, toPyAll xs, j, toPy z, rfl, rfl, Rp.dp r1', Rp.dp r2, ?_, ok_shaped hk.1, toPyAll_get hz, by rw [eqv_py]; exact hzj, fun m z' hm hz' => ?_, hf _ H2 (s1.trans s2) rfl⟩
            · exact ok_shaped (d := .lst xs) (by simp only [D.okN]; exact hk.2)
            · have hl : m < xs.length := by have := (List.getElem?_eq_some_iff.mp hz').1; rw [toPyAll_len] at this; exact this
              rw [toPyAll_get (List.getElem?_eq_getElem hl)] at hz'
              injection hz' with hz'
              rw [← hz', eqv_py]
              exact hno m _ hm (List.getElem?_eq_getElem hl)
        · exact hf.elim
    | _ => exact (hf : False).elim
end
end FM

set_option Elab.async false
set_option linter.all false
set_option maxRecDepth 100000
/-! FM20: sorted(tuple), chains of three, list * int, len(set(ints)). -/
namespace FM
open PySem PySem.Spec PyProof.Rows L2
/-- sorted of what can be collected -/
theorem sort_any {X : Cx} {k : Nat} {pins : List (Addr × Obj)} {σ : L2.St} {H : Hp} {s : Shared} {a : Addr} {xs : List V} {ds : List D} {Q : VK} (hr : Room k X.A) (I : Inv X pins σ H s) (hd : RpAll X.K H ds xs) (ok : OkSort ds)
    (hcol : ∀ R : List Value → Shared → Prop, (∀ (h' : Heap) (tk : Nat) (acc : List Value), (∀ b o, s.heap.get? b = some o → h'.get? b = some o) → Vals xs acc → R acc { s with heap := h', toks := tk }) → wpAny (model X.prog X.w) X.A.in1 (collect (.ref a)) R X.xe s)
    (q : ∀ ys p, RpAll X.K H (ds.mergeSort leD) ys → H p = none → Q (.ref p) (upd H p (.lst ys))) :
    wpAny (model X.prog X.w) X.A (call (.builtin "sorted") [.ref a]) (EP X pins σ Q) X.xe s := by
  refine Calls.call_function_entry PyProof.Rows.kind_sorted PyProof.Rows.plain_sorted PyProof.Rows.entry_sorted (PyProof.Rows.args_sorted1 _) ?_
  unfold Builtin.«sorted»
  refine wpAny_bind (m := checkCount "sorted" 1 1 _) (wpAny_pure ?_)
  refine wpAny_bind (hcol _ fun h' tk acc kp rv => ?_)
  have I1 : Inv X pins σ H { s with heap := h', toks := tk } := I.kept kp
  have hal : acc.length = ds.length := by rw [← rv.length, ← hd.length]
  have hln := ok.ln
  refine wpAny_bind (wpAny_newList ?_ (by rw [hal, sizeLine_eq]; omega))
  have hoL : (h'.push (seqObj "list" acc.toArray 0)).get? h'.objs.size = some (seqObj "list" acc.toArray 0) := Heap.get?_push_size _ rfl
  show wpAny _ _ _ _ _ { s with heap := h'.push (seqObj "list" acc.toArray 0), toks := tk }
  have e0 := each_of hd rv
  have ez : ((xs.zip ds).map fun p => toPy p.2) = ds.map toPy := by
    rw [← zip_snd hd, List.map_map]
    congr 1
    rw [zip_snd hd]
  have kp2 : ∀ b o, s.heap.get? b = some o → (h'.push (seqObj "list" acc.toArray 0)).get? b = some o := fun b o q => Heap.get?_push_of_some _ (kp b o q)
  have er : PySem.W.EachIs (fun v (p : V × D) => ∃ as, Reads (h'.push (seqObj "list" acc.toArray 0)) v (toPy p.2) as ∧ h'.objs.size ∉ as) acc (xs.zip ds) := by
    refine PySem.W.EachIs.of_zip (by rw [e0.length]) fun p hp => ?_
    have h1 := e0.zip p hp
    refine ⟨[], ?_, by simp⟩
    have hm : p.2.2 ∈ ds := (List.of_mem_zip (List.of_mem_zip hp).2).2
    exact PyProof.Rows.Reads.keeps kp2 (Rp.reads I (lfAll_iff.mp ok.lf _ hm) h1.2 h1.1)
  refine wpAny_bind (wpAny_holding (PySem.W.list_sort_data (s := { s with heap := h'.push (seqObj "list" acc.toArray 0), toks := tk }) (enc := fun p : V × D => toPy p.2) hoL e0 er (by rw [ez]; exact ok.al) (by rw [ez]; exact ok.so) (by rw [← e0.length, hal, sizeLine_eq]; omega) (fun p hp => ?_) fun out hlo heo => ?_))
  · have hm : p.2 ∈ ds := (List.of_mem_zip hp).2
    have := ok.dp p.2 hm
    have := hr.un
    show X.A.units + 1 + 1 + (toPy p.2).depth < _
    omega
  · obtain ⟨v1, v2⟩ := each_vals heo
    rw [sort_snd, zip_snd hd] at v2
    obtain ⟨e', he'⟩ := PyProof.Rows.sortedHeap_at (vs := acc) (out := out.toArray) hoL
    have hlen2 := v1.length
    refine wpAny_pure ⟨_, rfl, .ref h'.objs.size, upd H h'.objs.size (.lst _), I1.laid (t' := tk) (fun b u e => ?_) (Nat.le_refl _) ⟨?_, out, e', v1, by simpa using he'⟩, rfl, q _ _ v2 (I1.hok.fresh (Nat.le_refl _))⟩
    · have hb : b < h'.objs.size := Heap.lt_size e
      rw [PyProof.Rows.sortedHeap_old (Nat.ne_of_lt hb) (by rw [size_push']; exact Nat.lt_succ_of_lt hb)]
      exact Heap.get?_push_of_some _ e
    · rw [hlen2, hlo, ← e0.length, hal, sizeLine_eq]; omega
/-! ### sorted(t), t a tuple -/
noncomputable def sortT : D → Option (List D)
  | .tup ds => open Classical in if OkSort ds then some (ds.mergeSort leD) else none
  | _ => none
section
variable {X : Cx} {W : Wx} {k : Nat} {a b c d e : Expr} {es : List Expr} {p p2 q pos : Pos} {f fa fb fc fd : En → Res D}
theorem pn_sortT (hr : Room k X.A) (hm : X.mg "sorted" = none) (ha : PE X e (tD X.K W f)) (hg : Gl X "sorted" := by rfl) (he : starEach [e] X.env = (false, eval e X.env) :: starEach [] X.env := by rfl) (hpl : (backTo pos (starEach [] X.env)).any (·.1) = false := by rfl) :
    PE X (.Call (.Name "sorted" p) [e] [] pos) (tN X.K W (uopN sortT f)) := by
  have cr : CallR X (.builtin "sorted") (fun vs H Q => ∃ (a : Addr) (xs : List V) (ds : List D), vs = [.ref a] ∧ SqT X.K H a xs ∧ RpAll X.K H ds xs ∧ OkSort ds ∧ ∀ ys p, RpAll X.K H (ds.mergeSort leD) ys → H p = none → Q (.ref p) (upd H p (.lst ys))) := by
    intro pins s σ H vs us Q I r h
    obtain ⟨a, xs, ds, rfl, hs, hd, ok, q⟩ := h
    obtain rfl := Vals.ref1 r
    obtain ⟨its, rv, ⟨o, ho, hc, n, hdt⟩, hz⟩ := I.tuple hs
    refine sort_any hr I hd ok (fun R hR => ?_) q
    refine PySem.wpAny_collect_seq a (.inr rfl) ho hc hdt (fun h' kp => ?_) (by rw [List.size_toArray, ← rv.length]; exact hz)
    exact hR h' s.toks _ kp (by simpa using rv)
  refine PE.weak (pe_callB cr hg hm (by decide +kernel) (pa_cons ha pa_nil he) (by decide) (by decide) he hpl) ?_
  rintro σ H Q ⟨e, he, hf⟩
  refine ⟨e, he, ?_⟩
  unfold uopN at hf
  cases h1 : f e with
  | bad => rw [h1] at hf; exact hf
  | exc c => rw [h1] at hf; exact hf
  | ok d =>
    rw [h1, rb_ok] at hf
    intro v H1 s1 r1
    cases d with
    | tup ds =>
      unfold sortT at hf
      simp only at hf
      split at hf
      · rename_i ok
        obtain ⟨b, ys, rfl, q1, q2⟩ := r1
        exact ⟨b, ys, ds, rfl, q1, q2, ok, fun zs p hz hp => hf p zs _ (s1.free hp) (s1.trans (same_new hp)) upd_same (hz.mono (same_hide1 hp))⟩
      · exact hf.elim
    | _ => exact (hf : False).elim
/-! ### a op b op c op d, as a test -/
def ch3F (g g' g'' : D → D → Option D) (fa fb fc fd : En → Res D) : En → Res D := fun e => rb (fa e) fun x => rb (fb e) fun y => rb (ofO (g x y)) fun z => rb (isBl z) fun k => if k then rb (fc e) fun w => rb (ofO (g' y w)) fun z' => rb (isBl z') fun k' => if k' then rb (fd e) fun u => ofO (g'' w u) else .ok (.bl false) else .ok (.bl false)
def tCh3 (r r' r'' : R2) (ta tb tc td : TE) : TT := fun σ H Q => ta σ H fun x H1 => tb σ H1 fun y H2 => r x y H2 fun z H3 => ∃ k, z = .bl k ∧
  (if k = true then tc σ H3 fun w' H4 => r' y w' H4 fun z' H5 => ∃ k', z' = .bl k' ∧ (if k' = true then td σ H5 fun u H6 => r'' w' u H6 fun z'' H7 => ∃ k'', z'' = .bl k'' ∧ Q k'' H7 else Q false H5) else Q false H3)
theorem pt_ch3 {op op' op'' : CmpOp} {r r' r'' : R2} {ta tb tc td : TE} (ho : OpR X (compareOp op) r) (ho' : OpR X (compareOp op') r') (ho'' : OpR X (compareOp op'') r'') (ha : PE X a ta) (hb : PE X b tb) (hc : PE X c tc) (hd : PE X d td) (hm : lastMarks [op, op', op''] [b, c, d] = false := by with_unfolding_all rfl) :
    PT X (.Compare a [op, op', op''] [b, c, d] pos) (tCh3 r r' r'' ta tb tc td) := by
  refine ⟨fun pins s σ H Q I h => ?_⟩
  refine isTrue_chain (thn (ha.run pins s σ H _ I h) fun v s1 ⟨x, H1, I1, r1, q1⟩ => test_link (thn (hb.run pins s1 σ H1 _ I1 q1) fun u s2 ⟨y, H2, I2, r2, q2⟩ => thn (ho pins s2 σ H2 x y v u _ I2 r1 r2 q2) fun _ s3 ⟨z, H3, I3, r3, k, e, q3⟩ => ?_)) hm
  subst e
  cases r3
  refine wpAny_truthy_bool ?_
  cases k with
  | false => exact ite_ff ⟨H3, I3, q3⟩
  | true =>
    refine ite_tt (test_link (thn (hc.run pins s3 σ H3 _ I3 q3) fun w' s4 ⟨z', H4, I4, r4, q4⟩ => thn (ho' pins s4 σ H4 y z' u w' _ I4 r2 r4 q4) fun _ s5 ⟨z2, H5, I5, r5, k2, e2, q5⟩ => ?_))
    subst e2
    cases r5
    refine wpAny_truthy_bool ?_
    cases k2 with
    | false => exact ite_ff ⟨H5, I5, q5⟩
    | true =>
      refine ite_tt (test_last (thn (hd.run pins s5 σ H5 _ I5 q5) fun w2 s6 ⟨z3, H6, I6, r6, q6⟩ => thn (ho'' pins s6 σ H6 z' z3 w' w2 _ I6 r4 r6 q6) fun _ s7 ⟨z4, H7, I7, r7, k3, e3, q7⟩ => ?_))
      subst e3
      cases r7
      exact wpAny_truthy_bool ⟨H7, I7, q7⟩
theorem pdt_ch3 {op op' op'' : CmpOp} {g g' g'' : D → D → Option D} (h : CmpR X op g) (h' : CmpR X op' g') (h'' : CmpR X op'' g'') (ha : PE X a (tD X.K W fa)) (hb : PE X b (tD X.K W fb)) (hc : PE X c (tD X.K W fc)) (hd : PE X d (tD X.K W fd)) (hm : lastMarks [op, op', op''] [b, c, d] = false := by with_unfolding_all rfl) :
    PT X (.Compare a [op, op', op''] [b, c, d] pos) (tT X.K W (tstF (ch3F g g' g'' fa fb fc fd))) := by
  obtain ⟨r, o1, g1⟩ := h.ex
  obtain ⟨r', o2, g2⟩ := h'.ex
  obtain ⟨r'', o3, g3⟩ := h''.ex
  refine PT.weak (pt_ch3 o1 o2 o3 ha hb hc hd hm) ?_
  rintro σ H Q ⟨e, he, hf⟩
  refine ⟨e, he, ?_⟩
  unfold tstF ch3F at hf
  cases e1 : fa e with
  | bad => rw [e1] at hf; exact hf
  | exc c => rw [e1] at hf; exact hf
  | ok d1 =>
    rw [e1, rb_ok] at hf
    intro v H1 s1 r1
    refine ⟨e, he.mono s1, ?_⟩
    cases e2 : fb e with
    | bad => rw [e2] at hf; exact hf.elim
    | exc c => rw [e2] at hf; exact fun H' q => hf H' (s1.trans q)
    | ok d2 =>
      rw [e2, rb_ok] at hf
      intro v2 H2 s2 r2
      cases e3 : g d1 d2 with
      | none => rw [e3] at hf; exact hf.elim
      | some z =>
        rw [e3, ofO_some, rb_ok] at hf
        cases z with
        | bl k =>
          refine g1 v v2 H2 _ d1 d2 _ (r1.mono s2) r2 e3 fun v3 H3 s3 r3 => ?_
          cases r3
          refine ⟨k, rfl, ?_⟩
          simp only [isBl, rb_ok] at hf
          cases k with
          | false => simp only [Bool.false_eq_true, if_false] at hf ⊢; exact hf H3 ((s1.trans s2).trans s3)
          | true =>
            simp only [if_true] at hf ⊢
            refine ⟨e, ((he.mono s1).mono s2).mono s3, ?_⟩
            cases e4 : fc e with
            | bad => rw [e4] at hf; exact hf.elim
            | exc c => rw [e4] at hf; exact fun H' q => hf H' (((s1.trans s2).trans s3).trans q)
            | ok d4 =>
              rw [e4, rb_ok] at hf
              intro v4 H4 s4 r4
              cases e5 : g' d2 d4 with
              | none => rw [e5] at hf; exact hf.elim
              | some z5 =>
                rw [e5, ofO_some, rb_ok] at hf
                cases z5 with
                | bl k5 =>
                  refine g2 v2 v4 H4 _ d2 d4 _ ((r2.mono s3).mono s4) r4 e5 fun v5 H5 s5 r5 => ?_
                  cases r5
                  refine ⟨k5, rfl, ?_⟩
                  simp only [isBl, rb_ok] at hf
                  have sa := (((s1.trans s2).trans s3).trans s4).trans s5
                  cases k5 with
                  | false => simp only [Bool.false_eq_true, if_false] at hf ⊢; exact hf H5 sa
                  | true =>
                    simp only [if_true] at hf ⊢
                    refine ⟨e, he.mono sa, ?_⟩
                    cases e6 : fd e with
                    | bad => rw [e6] at hf; exact hf.elim
                    | exc c => rw [e6] at hf; exact fun H' q => hf H' (sa.trans q)
                    | ok d6 =>
                      rw [e6, rb_ok] at hf
                      intro v6 H6 s6 r6
                      cases e7 : g'' d4 d6 with
                      | none => rw [e7] at hf; exact hf.elim
                      | some z7 =>
                        rw [e7, ofO_some, rb_ok] at hf
                        cases z7 with
                        | bl k7 =>
                          refine g3 v4 v6 H6 _ d4 d6 _ ((r4.mono s5).mono s6) r6 e7 fun v7 H7 s7 r7 => ?_
                          cases r7
                          exact ⟨k7, rfl, hf H7 ((sa.trans s6).trans s7)⟩
                        | _ => exact (hf : False).elim
                | _ => exact (hf : False).elim
        | _ => exact (hf : False).elim
/-! ### a new list times an int -/
def mulL (f : En → Res (List D)) (fb : En → Res D) : En → Res (List D) := fun e => rb (f e) fun xs => rb (fb e) fun y => match y with
  | .int n => if 0 ≤ n ∧ n ≤ 100 ∧ xs.length ≤ 100 then .ok (List.replicate n.toNat xs).flatten else .bad
  | _ => .bad
theorem RpAll.rep {K : PySem.W.Frag} {H : Hp} {ds : List D} {vs : List V} (h : RpAll K H ds vs) : ∀ n : Nat, RpAll K H (List.replicate n ds).flatten (List.replicate n vs).flatten
  | 0 => RpAll.nil
  | n + 1 => by
    rw [List.replicate_succ, List.replicate_succ, List.flatten_cons, List.flatten_cons]
    exact RpAll.app h (RpAll.rep h n)
theorem pn_mul {fl : En → Res (List D)} (ha : PE X a (tN X.K W fl)) (hb : PE X b (tD X.K W fb)) : PE X (.BinOp a .Mult b pos) (tN X.K W (mulL fl fb)) := by
  refine PE.weak (pe_op op_rep ha hb) ?_
  rintro σ H Q ⟨e, he, hf⟩
  refine ⟨e, he, ?_⟩
  unfold mulL at hf
  cases h1 : fl e with
  | bad => rw [h1] at hf; exact hf
  | exc c => rw [h1] at hf; exact hf
  | ok xs =>
    rw [h1, rb_ok] at hf
    intro l vs H1 na s1 ea r1
    refine ⟨e, he.mono s1, ?_⟩
    cases h2 : fb e with
    | bad => rw [h2] at hf; exact hf.elim
    | exc c => rw [h2] at hf; exact fun H' q => hf H' (s1.trans q)
    | ok y =>
      rw [h2, rb_ok] at hf
      intro v H2 s2 r2
      cases y with
      | int n =>
        cases r2
        simp only at hf
        split at hf
        · rename_i hn
          have hl := r1.length
          have ea2 := s2.keep _ _ ea (fun _ z => nomatch z)
          refine ⟨l, n, vs, rfl, rfl, ea2, by omega, by omega, ?_, fun p hp => ?_⟩
          · have : vs.length * n.toNat ≤ 100 * 100 := Nat.mul_le_mul (by omega) (by omega)
            rw [sizeLine_eq]; omega
          · refine hf p _ _ (s1.free (s2.free hp)) ((s1.trans s2).trans (same_new hp)) upd_same ?_
            exact (((r1.mono (hide_same _)).mono s2).rep n.toNat).mono (same_hide1 hp)
        · exact hf.elim
      | _ => exact (hf : False).elim
/-! ### len(set(l)), l a list of ints that are all different -/
def intsO : List D → Option (List Int)
  | [] => some []
  | .int i :: r => (intsO r).map (i :: ·)
  | _ :: _ => none
theorem intsO_vals {K : PySem.W.Frag} {H : Hp} : ∀ {ds : List D} {vs : List V} {ns : List Int}, RpAll K H ds vs → intsO ds = some ns → vs = ns.map V.int
  | [], _, _, h, e => by cases h; simp [intsO] at e; subst e; rfl
  | d :: ds, _, ns, h, e => by
    obtain ⟨v, r, rfl, h1, h2⟩ := h
    cases d with
    | int b =>
      simp only [intsO] at e
      cases q : intsO ds with
      | none => rw [q] at e; cases e
      | some cs =>
        rw [q] at e
        cases e
        cases h1
        rw [intsO_vals h2 q]
        rfl
    | _ => simp [intsO] at e
def lenSetI : D → Option D
  | .lst ds => match intsO ds with
    | some ns => if ns.Nodup ∧ ns.length ≤ 4000 then some (.int (ns.length : Nat)) else none
    | none => none
  | _ => none
theorem pd_lenSetI (hm : X.mg "len" = none) (hm2 : X.mg "set" = none) (ha : PE X a (tD X.K W f)) (hg : Gl X "len" := by rfl) (hg2 : Gl X "set" := by rfl) (hc : X.calm = true := by rfl) (na : starEach [a] X.env = (false, eval a X.env) :: starEach [] X.env := by rfl) :
    PE X (.Call (.Name "len" p) [.Call (.Name "set" p2) [a] [] q] [] pos) (tD X.K W (uopF lenSetI f)) := by
  refine PE.weak (RZ.pe_lenSetI hg hm hg2 hm2 ha hc na) (tD_un (r := fun x H Q => ∃ (l : Addr) (ns : List Int), x = .ref l ∧ SqL X.K H l (ns.map V.int) ∧ ns.Nodup ∧ ns.length ≤ 4000 ∧ Q (.int (ns.length : Nat)) H) fun x H Q d z r hz q => ?_)
  cases d with
  | lst ds =>
    simp only [lenSetI] at hz
    split at hz
    · rename_i ns hns
      split at hz
      · rename_i hk
        cases hz
        obtain ⟨l, vs, rfl, q1, q2⟩ := r
        have := intsO_vals q2 hns
        subst this
        exact ⟨l, ns, rfl, q1, hk.1, hk.2, q _ H (Same.refl H) rfl⟩
      · cases hz
    · cases hz
  | _ => cases hz
end
end FM

set_option Elab.async false
set_option linter.all false
set_option maxRecDepth 100000
/-! FM21: sorted(set(l)), l a list of fewer than 64 three-tuples of ints that rises. -/
namespace FM
open PySem PySem.Spec PyProof.Rows L2
def trsO : List D → Option (List (List Int))
  | [] => some []
  | .tup ds :: r => (intsO ds).bind fun k => (trsO r).map (k :: ·)
  | _ => none
structure OkTri (l : List (List Int)) : Prop where
  few : l.length < 64
  bd : ∀ k ∈ l, k.length = 3 ∧ TS.Bd 1000 k
  asc : l.Pairwise fun p q => TS.code 1000 p < TS.code 1000 q
noncomputable def sortSetT : D → Option (List D)
  | .lst ds => match trsO ds with
    | some l => open Classical in if OkTri l then some ds else none
    | none => none
  | _ => none
theorem code3 (x y z : Int) : TS.code 1000 [x, y, z] = x * 1000000 + y * 1000 + z := by
  have e2 : (1000 : Int) ^ 2 = 1000000 := by decide
  have e1 : (1000 : Int) ^ 1 = 1000 := by decide
  have e0 : (1000 : Int) ^ 0 = 1 := by decide
  show x * 1000 ^ 2 + (y * 1000 ^ 1 + (z * 1000 ^ 0 + 0)) = _
  rw [e2, e1, e0]; omega
theorem code_inj {p q : List Int} (hp : p.length = 3 ∧ TS.Bd 1000 p) (hq : q.length = 3 ∧ TS.Bd 1000 q) (h : TS.code 1000 p = TS.code 1000 q) : p = q := by
  obtain ⟨x, y, z, rfl⟩ : ∃ x y z, p = [x, y, z] := by
    match p, hp.1 with
    | [x, y, z], _ => exact ⟨x, y, z, rfl⟩
  obtain ⟨x', y', z', rfl⟩ : ∃ x y z, q = [x, y, z] := by
    match q, hq.1 with
    | [x, y, z], _ => exact ⟨x, y, z, rfl⟩
  rw [code3, code3] at h
  have := hp.2 x (by simp)
  have := hp.2 y (by simp)
  have := hp.2 z (by simp)
  have := hq.2 x' (by simp)
  have := hq.2 y' (by simp)
  have := hq.2 z' (by simp)
  have h1 : x = x' := by omega
  have h2 : y = y' := by omega
  have h3 : z = z' := by omega
  rw [h1, h2, h3]
/-- the tuples' addresses -/
theorem tri_keys {K : PySem.W.Frag} {H : Hp} : ∀ {ds : List D} {vs : List V} {l : List (List Int)}, RpAll K H ds vs → trsO ds = some l → ∃ ks : List (Addr × List Int), vs = ks.map (fun p => V.ref p.1) ∧ ks.map (·.2) = l ∧ ds = l.map (fun k => D.tup (k.map .int)) ∧ ∀ p ∈ ks, SqT K H p.1 (p.2.map V.int)
  | [], _, l, h, e => by
    cases h
    simp only [trsO, Option.some.injEq] at e
    subst e
    exact ⟨[], rfl, rfl, rfl, fun p hp => by cases hp⟩
  | d :: ds, vs, l, h, e => by
    obtain ⟨v, r, rfl, h1, h2⟩ := h
    cases d with
    | tup xs =>
      simp only [trsO] at e
      cases hk : intsO xs with
      | none => rw [hk] at e; cases e
      | some k =>
        rw [hk] at e
        cases hl : trsO ds with
        | none => rw [hl] at e; cases e
        | some l' =>
          rw [hl] at e
          simp only [Option.bind_some, Option.map_some, Option.some.injEq] at e
          subst e
          obtain ⟨ks, e1, e2, e3, e4⟩ := tri_keys h2 hl
          obtain ⟨a, ws, rfl, q1, q2⟩ := h1
          have hw := intsO_vals q2 hk
          subst hw
          have hx : ∀ {xs : List D} {k : List Int}, intsO xs = some k → xs = k.map .int := by
            intro xs
            induction xs with
            | nil => intro k h; simp only [intsO, Option.some.injEq] at h; subst h; rfl
            | cons x xs ih =>
              intro k h
              cases x with
              | int i =>
                simp only [intsO] at h
                cases hq : intsO xs with
                | none => rw [hq] at h; cases h
                | some k' =>
                  rw [hq] at h
                  simp only [Option.map_some, Option.some.injEq] at h
                  subst h
                  rw [List.map_cons, ih hq]
              | _ => simp [intsO] at h
          refine ⟨(a, k) :: ks, by simp [e1], by simp [e2], by rw [List.map_cons, hx hk, e3], fun p hp => ?_⟩
          rcases List.mem_cons.mp hp with rfl | hp
          · exact q1
          · exact e4 p hp
    | _ => simp [trsO] at e
theorem rp_tri {K : PySem.W.Frag} {H : Hp} : ∀ {L : List (Addr × List Int)}, (∀ p ∈ L, SqT K H p.1 (p.2.map V.int)) → RpAll K H ((L.map (·.2)).map fun k => D.tup (k.map .int)) (L.map fun p => V.ref p.1)
  | [], _ => rfl
  | p :: L, h => by
    refine ⟨_, _, rfl, ⟨p.1, _, rfl, h p (by simp), ?_⟩, rp_tri fun q hq => h q (by simp [hq])⟩
    have : ∀ k : List Int, RpAll K H (k.map .int) (k.map V.int) := by
      intro k
      induction k with
      | nil => rfl
      | cons i k ih => exact ⟨_, _, rfl, rfl, ih⟩
    exact this p.2
section
variable {X : Cx} {W : Wx} {k : Nat} {a : Expr} {p p2 q pos : Pos} {f : En → Res D}
theorem pn_sortSet (hr : Room k X.A) (hc : X.calm = true) (hm : X.mg "sorted" = none) (hm2 : X.mg "set" = none) (ha : PE X a (tD X.K W f)) (hg : Gl X "sorted" := by rfl) (hg2 : Gl X "set" := by rfl) (na : starEach [a] X.env = (false, eval a X.env) :: starEach [] X.env := by rfl)
    (nb : starEach [.Call (.Name "set" p2) [a] [] q] X.env = (false, eval (.Call (.Name "set" p2) [a] [] q) X.env) :: starEach [] X.env := by rfl) (hpl : (backTo q (starEach [] X.env)).any (·.1) = false := by rfl) (hpl2 : (backTo pos (starEach [] X.env)).any (·.1) = false := by rfl) :
    PE X (.Call (.Name "sorted" p) [.Call (.Name "set" p2) [a] [] q] [] pos) (tN X.K W (uopN sortSetT f)) := by
  have hu : X.A.units + 64 < cLine := by have := hr.un; omega
  have h1 := pe_callTy (p := p2) (pos := q) (cr_setOfT hc hu) hg2 hm2 boot_set (pa_cons ha pa_nil na) (by decide) (by decide) na hpl
  refine PE.weak (pe_callB (cr_sortedT hc) hg hm (by decide +kernel) (pa_cons h1 pa_nil nb) (by decide) (by decide) nb hpl2) ?_
  rintro σ H Q ⟨e, he, hf⟩
  refine ⟨e, he, ?_⟩
  unfold uopN at hf
  cases h1 : f e with
  | bad => rw [h1] at hf; exact hf
  | exc c => rw [h1] at hf; exact hf
  | ok d =>
    rw [h1, rb_ok] at hf
    intro v H1 s1 r1
    cases d with
    | lst ds =>
      unfold sortSetT at hf
      simp only at hf
      split at hf
      · rename_i l hl
        split at hf
        · rename_i ok
          obtain ⟨b, ys, rfl, q1, q2⟩ := r1
          obtain ⟨ks, rfl, hk2, hds, hsq⟩ := tri_keys q2 hl
          refine ⟨b, ks, rfl, q1, hsq, by have := ok.few; rw [← hk2, List.length_map] at this; exact this, fun c L hcn hsub hall => ?_⟩
          have hS : Same H1 (upd H1 c (SetTO X.prog X.w c L)) := same_new hcn
          have hsq2 : ∀ p ∈ ks, SqT X.K (upd H1 c (SetTO X.prog X.w c L)) p.1 (p.2.map V.int) := fun p hp => hS.sqT (hsq p hp)
          have hbd : ∀ p ∈ ks, p.2.length = 3 ∧ TS.Bd 1000 p.2 := fun p hp => ok.bd p.2 (by rw [← hk2]; exact List.mem_map.mpr ⟨p, hp, rfl⟩)
          refine ⟨c, L, 3, 1000, rfl, upd_same, fun p hp => hsq2 p (hsub p hp), by decide, fun p hp => hbd p (hsub p hp), fun L' w pm nd few pw hw => ?_⟩
          have hL' : ∀ p ∈ L', p ∈ ks := fun p hp => hsub p (pm.mem_iff.mp hp)
          have hkeys : L'.map (·.2) = l := by
            refine List.Perm.eq_of_pairwise (le := fun p q => TS.code 1000 p ≤ TS.code 1000 q) (fun x y hx hy h1 h2 => ?_) ?_ ?_ ?_
            · obtain ⟨p, hp, rfl⟩ := List.mem_map.mp hx
              exact code_inj (hbd p (hL' p hp)) (ok.bd y hy) (by omega)
            · rw [List.pairwise_map]; exact pw
            · exact ok.asc.imp fun h => Int.le_of_lt h
            · refine (List.perm_ext_iff_of_nodup nd ?_).mpr fun x => ⟨fun hx => ?_, fun hx => ?_⟩
              · exact ok.asc.imp fun {p q} h z => by rw [z] at h; omega
              · obtain ⟨p, hp, rfl⟩ := List.mem_map.mp hx
                rw [← hk2]; exact List.mem_map.mpr ⟨p, hL' p hp, rfl⟩
              · rw [← hk2] at hx
                obtain ⟨p, hp, rfl⟩ := List.mem_map.mp hx
                have := hall p hp
                exact (pm.map (·.2)).mem_iff.mpr this
          have hrp := rp_tri (K := X.K) (H := upd H1 c (SetTO X.prog X.w c L)) (L := L') fun p hp => hsq2 p (hL' p hp)
          rw [hkeys, ← hds] at hrp
          have s2 := s1.trans hS
          exact hf w _ _ (s2.free hw) (s2.trans (same_new hw)) upd_same (hrp.mono (same_hide1 hw))
        · exact hf.elim
      · exact hf.elim
    | _ => exact (hf : False).elim
end
end FM

set_option Elab.async false
set_option linter.all false
set_option maxRecDepth 100000
namespace FM
open PySem PySem.Spec PyProof.Rows L2
/-- law -/
noncomputable def B_law : En → Res Fl := (seqS (forS (itF asRng1 (consF (cD (.int 12)) nilF)) (.nm 1)
    (seqS (asgS (.nm 2) (bopF addO (fnF 2 f_law_cell (consF (getE 0) (consF (bopF modI (getE 1) (cD (.int 9))) nilF))) (bopF mulI (cD (.int 31)) (getE 1))))
  (seqS (asgS (.nm 3) (fnF 1 f_law_text (consF (getE 2) nilF)))
  (seqS (asgS (.nm 4) (fnF 1 f_law_rules (consF (bopF addO (fnF 2 f_law_cell (consF (getE 0) (consF (cD (.int 9)) nilF))) (bopF mulI (cD (.int 7)) (getE 1))) nilF)))
  (seqS (asgS (.nm 5) (fnF 2 f_all_marks (consF (getE 3) (consF (getE 4) nilF))))
  (seqS (asgL 6 (callF sortDs (consF (mkL (bopN addL (mkL (lstF (consF (cD (.int 0)) (consF (callF lenO (consF (getE 3) nilF)) nilF)))) (mkL (compF [8] (itF asRng1 (consF (cD (.int 5)) nilF)) (.nm 8) yesF (fnF 3 f_law_mix (consF (bopF addO (getE 2) (bopF mulI (cD (.int 5)) (getE 8))) (consF (cD (.int 9791)) (consF (bopF addO (callF lenO (consF (getE 3) nilF)) (cD (.int 1))) nilF)))))))) nilF)))
  (seqS (asgS (.nm 7) (tupF nilF))
  (seqS (forS (itF asRng2 (consF (cD (.int 1)) (consF (callF lenO (consF (getE 6) nilF)) nilF))) (.nm 8)
    (asgS (.nm 7) (bopF addO (getE 7) (fnF 4 f_marks_in (consF (getE 3) (consF (getE 4) (consF (bopF ixO (getE 6) (bopF subI (getE 8) (cD (.int 1)))) (consF (bopF ixO (getE 6) (getE 8)) nilF))))))))
  (seqS (asgL 9 (compF [13] (itF asTup (getE 5)) (.nm 13) yesF (slF slO (getE 13) noP (soP (cD (.int 3))))))
  (seqS (ifS (orF (tstF (bopF neO (getE 7) (getE 5))) (tstF (bopF neO (getE 9) (mkL (uopN sortSetT (getE 9)))))) (retS (cD (.bl false))) nilS)
  (seqS (ifS (tstF (bopF neO (mkL (compF [13] (itF asTup (getE 5)) (.nm 13) (notF (tstF (ch3F leO ltO leO (cD (.int 0)) (bopF ixO (getE 13) (cD (.int 0))) (bopF ixO (getE 13) (cD (.int 1))) (callF lenO (consF (getE 3) nilF))))) (getE 13))) (mkL (lstF nilF)))) (retS (cD (.bl false))) nilS)
  (forS (lfG enumTup (getE 4)) (.tp [(.nm 10), (.nm 11)])
    (seqS (asgL 12 (compF [13] (itF asTup (getE 5)) (.nm 13) (tstF (bopF eqO (bopF ixO (getE 13) (cD (.int 2))) (getE 10))) (getE 13)))
  (seqS (ifS (tstF (bopF neO (mkL (compF [13] (itF asLst (getE 12)) (.nm 13) yesF (bopF addO (bopF addO (slF slO (getE 13) noP (soP (cD (.int 2)))) (tupF (consF (cD (.int 0)) nilF))) (slF slO (getE 13) (soP (cD (.int 3))) noP)))) (mkL (callF listO (consF (fnF 2 f_all_marks (consF (getE 3) (consF (tupF (consF (getE 11) nilF)) nilF))) nilF))))) (retS (cD (.bl false))) nilS)
  (ifS (tstF (bopF neO (mkL (compF [8] (itF asRng2 (consF (cD (.int 1)) (consF (callF lenO (consF (getE 12) nilF)) nilF))) (.nm 8) (tstF (bopF ltO (bopF ixO (bopF ixO (getE 12) (getE 8)) (cD (.int 0))) (bopF ixO (bopF ixO (getE 12) (bopF subI (getE 8) (cD (.int 1)))) (cD (.int 1))))) (getE 8))) (mkL (lstF nilF)))) (retS (cD (.bl false))) nilS)))))))))))))))
  (retS (cD (.bl true))))
noncomputable def f_law : List D → Res D := runD 14 B_law
end FM

set_option Elab.async false
set_option linter.all false
set_option maxRecDepth 100000
namespace FM
open PySem PySem.Spec PyProof.Rows L2
def topS (i : Nat) : Stmt := PySem.Challenge.pw_faultmarks_k03_whole_pieces.main.body.getD i (.Pass ⟨0, 0, 0, 0⟩)
/-- the module's names: built-ins are still the built-ins, texts stand -/
structure Gm (mg : Str → Option Value) : Prop where
  benumerate : mg "enumerate" = none
  blen : mg "len" = none
  blist : mg "list" = none
  brange : mg "range" = none
  bset : mg "set" = none
  bsorted : mg "sorted" = none
  btuple : mg "tuple" = none
  gLETTERS : ∃ t, mg "LETTERS" = some (.str (S tLetters) t)
  gSMALL : ∃ t, mg "SMALL" = some (.str (S tSmall) t)
structure DefAt (K : PySem.W.Frag) (mg : Str → Option Value) (x : Str) (st : Stmt) (ps : List Str) : Prop where
  ex : ∃ f fd, Fun K x x st f fd ∧ mg x = some (.ref f) ∧ Binds K fd ps []
section
variable {P : Program} {w : World} {K : PySem.W.Frag} {mg : Str → Option Value} {base : Heap} {C : Cls4}
abbrev s_stretches : Stmt := topS 4
theorem sc_stretches : FnScope ["text", "signs", "found", "place", "end"] ["text", "signs"] (defScope s_stretches) := ⟨rfl, rfl, rfl, by decide +kernel, rfl, by decide +kernel, by decide +kernel⟩
theorem ok_stretches (T : Gm mg) (F : DefAt K mg "stretches" s_stretches ["text", "signs"])   : FnB P w K mg base 1 "stretches" ["text", "signs"] (spL K C 2 f_stretches) := by
  obtain ⟨f, fd, F, hm, hb⟩ := F.ex
  refine fn_list (B := B_stretches) C F sc_stretches (fun cdv A outer s H E hr => ?_) hm hb (m := 5) rfl rfl rfl
  exact (pds_cons (pds_asgO 2 (pn_lst pda_nil) sc_stretches.nd)
    (pds_cons (pds_asg (t := .nm 3) pd_int (pgT_nm 3 sc_stretches.nd))
    (pds_cons (pds_while PassesOwn.never (pdt_cm cm_lt (pd_var 3) (pd_len T.blen (pda_cons (pd_var 0) pda_nil)))
      (pds_cons (pds_asg (t := .nm 4) (pd_var 3) (pgT_nm 4 sc_stretches.nd))
    (pds_cons (pds_while PassesOwn.never (PW.pt (pdw_and (pdt_cm cm_lt (pd_var 4) (pd_len T.blen (pda_cons (pd_var 0) pda_nil))) (pdw_and1 (pdt_cm (cm_in hr) (pd_ix (pd_var 0) (pd_var 4)) (pd_var 1)))))
      (pds_one (pds_asg (t := .nm 4) (pd_add (pd_var 4) pd_int) (pgT_nm 4 sc_stretches.nd))))
    (pds_cons (pds_if (pdt_cm cm_gt (pd_var 4) (pd_var 3)) (pds_one (pds_app 2 (pd_tup (pda_cons (pd_var 3) (pda_cons (pd_var 4) pda_nil))))) pds_nil)
    (pds_one (pds_asg (t := .nm 3) (pd_add (pd_var 4) pd_int) (pgT_nm 3 sc_stretches.nd)))))))
    (pds_one (pds_retO 2)))))
abbrev s_twice : Stmt := topS 5
theorem sc_twice : FnScope ["text", "words", "found", "k", "ahead", "word", "same"] ["text"] (defScope s_twice) := ⟨rfl, rfl, rfl, by decide +kernel, rfl, by decide +kernel, by decide +kernel⟩
theorem ok_twice (T : Gm mg) (F : DefAt K mg "twice" s_twice ["text"])  (h_stretches : FnB P w K mg base 1 "stretches" ["text", "signs"] (spL K C 2 f_stretches)) : FnB P w K mg base 2 "twice" ["text"] (spL K C 1 f_twice) := by
  obtain ⟨f, fd, F, hm, hb⟩ := F.ex
  refine fn_list (B := B_twice) C F sc_twice (fun cdv A outer s H E hr => ?_) hm hb (m := 7) rfl rfl rfl
  exact (pds_cons (pds_asgL 1 (pn_fn h_stretches (hr.mono (by decide)) (pda_cons (pd_var 0) (pda_cons (pd_glob tLetters T.gLETTERS) pda_nil))) sc_twice.nd)
    (pds_cons (pds_asgO 2 (pn_lst pda_nil) sc_twice.nd)
    (pds_cons (pds_for (t := (.nm 3)) PassesOwn.never rfl (pif_rng2 rfl T.brange (pda_cons pd_int (pda_cons (pd_len T.blen (pda_cons (pd_var 1) pda_nil)) pda_nil))) (pgT_nm 3 sc_twice.nd)
      (pds_cons (pds_par 4 5 rfl sc_twice.nd (pda_cons (pd_ix (pd_var 1) (pd_sub (pd_var 3) pd_int)) (pda_cons (pd_ix (pd_var 1) (pd_var 3)) pda_nil)))
    (pds_cons (pds_asg (t := .nm 6) (pd_cm (cm_eq hr) (pd_lower (pd_sl (pd_var 0) (pdo_some (pd_ix (pd_var 4) pd_int)) (pdo_some (pd_ix (pd_var 4) pd_int)))) (pd_lower (pd_sl (pd_var 0) (pdo_some (pd_ix (pd_var 5) pd_int)) (pdo_some (pd_ix (pd_var 5) pd_int))))) (pgT_nm 6 sc_twice.nd))
    (pds_one (pds_if (PW.pt (pdw_and (pdt_tru (pd_var 6)) (pdw_and1 (pdt_cm (cm_eq hr) (pd_strip (pd_sl (pd_var 0) (pdo_some (pd_ix (pd_var 4) pd_int)) (pdo_some (pd_ix (pd_var 5) pd_int))) (pd_str [32] (by decide +kernel))) (pd_str [] (by decide +kernel)))))) (pds_one (pds_app 2 (pd_tup (pda_cons (pd_ix (pd_var 4) pd_int) (pda_cons (pd_ix (pd_var 5) pd_int) (pda_cons (pd_str [] (by decide +kernel)) pda_nil)))))) pds_nil)))))
    (pds_one (pds_retO 2)))))
abbrev s_great : Stmt := topS 6
theorem sc_great : FnScope ["text", "words", "found", "k", "begin", "end", "is_first"] ["text"] (defScope s_great) := ⟨rfl, rfl, rfl, by decide +kernel, rfl, by decide +kernel, by decide +kernel⟩
theorem ok_great (T : Gm mg) (F : DefAt K mg "great" s_great ["text"])  (h_stretches : FnB P w K mg base 1 "stretches" ["text", "signs"] (spL K C 2 f_stretches)) : FnB P w K mg base 2 "great" ["text"] (spL K C 1 f_great) := by
  obtain ⟨f, fd, F, hm, hb⟩ := F.ex
  refine fn_list (B := B_great) C F sc_great (fun cdv A outer s H E hr => ?_) hm hb (m := 7) rfl rfl rfl
  exact (pds_cons (pds_asgL 1 (pn_fn h_stretches (hr.mono (by decide)) (pda_cons (pd_var 0) (pda_cons (pd_glob tLetters T.gLETTERS) pda_nil))) sc_great.nd)
    (pds_cons (pds_asgO 2 (pn_lst pda_nil) sc_great.nd)
    (pds_cons (pds_for (t := (.tp [(.nm 3), (.tp [(.nm 4), (.nm 5)])])) PassesOwn.never rfl (pif_enumVar T.benumerate 1) (pgT_tp rfl (pgT_cons (pgT_nm 3 sc_great.nd) (pgT_cons (pgT_tp rfl (pgT_cons (pgT_nm 4 sc_great.nd) (pgT_cons (pgT_nm 5 sc_great.nd) pgT_nil))) pgT_nil)))
      (pds_cons (pds_asg (t := .nm 6) (pd_or (pd_cm (cm_eq hr) (pd_var 3) pd_int) (pd_one (pd_cm (cm_in hr) (pd_str [46] (by decide +kernel)) (pd_sl (pd_var 0) (pdo_some (pd_ix (pd_ix (pd_var 1) (pd_sub (pd_var 3) pd_int)) pd_int)) (pdo_some (pd_var 4)))))) (pgT_nm 6 sc_great.nd))
    (pds_one (pds_if (PW.pt (pdw_and (pdt_tru (pd_var 6)) (pdw_and1 (pdt_cm (cm_in hr) (pd_ix (pd_var 0) (pd_var 4)) (pd_glob tSmall T.gSMALL))))) (pds_one (pds_app 2 (pd_tup (pda_cons (pd_var 4) (pda_cons (pd_add (pd_var 4) pd_int) (pda_cons (pd_upper (pd_ix (pd_var 0) (pd_var 4))) pda_nil)))))) pds_nil))))
    (pds_one (pds_retO 2)))))
abbrev s_faults_of : Stmt := topS 7
theorem sc_faults_of : FnScope ["text", "rule", "words", "begin", "end", "place"] ["text", "rule"] (defScope s_faults_of) := ⟨rfl, rfl, rfl, by decide +kernel, rfl, by decide +kernel, by decide +kernel⟩
theorem ok_faults_of (T : Gm mg) (F : DefAt K mg "faults_of" s_faults_of ["text", "rule"])  (h_great : FnB P w K mg base 2 "great" ["text"] (spL K C 1 f_great)) (h_stretches : FnB P w K mg base 1 "stretches" ["text", "signs"] (spL K C 2 f_stretches)) (h_twice : FnB P w K mg base 2 "twice" ["text"] (spL K C 1 f_twice)) : FnB P w K mg base 3 "faults_of" ["text", "rule"] (spL K C 2 f_faults_of) := by
  obtain ⟨f, fd, F, hm, hb⟩ := F.ex
  refine fn_list (B := B_faults_of) C F sc_faults_of (fun cdv A outer s H E hr => ?_) hm hb (m := 6) rfl rfl rfl
  exact (pds_cons (pds_if (pdt_cm (cm_eq hr) (pd_ix (pd_var 1) pd_int) (pd_str wTwice (by decide +kernel))) (pds_one (pds_retN (pn_fn h_twice (hr.mono (by decide)) (pda_cons (pd_var 0) pda_nil)))) pds_nil)
    (pds_cons (pds_if (pdt_cm (cm_eq hr) (pd_ix (pd_var 1) pd_int) (pd_str wGreat (by decide +kernel))) (pds_one (pds_retN (pn_fn h_great (hr.mono (by decide)) (pda_cons (pd_var 0) pda_nil)))) pds_nil)
    (pds_cons (pds_if (pdt_cm (cm_eq hr) (pd_ix (pd_var 1) pd_int) (pd_str wBlanks (by decide +kernel))) (pds_one (pds_retN (pn_lc (own := [("begin", 3), ("end", 4)]) (t := (.tp [(.nm 3), (.nm 4)])) rfl sc_faults_of.nd (pit_lst (pd_new (pn_fn h_stretches (hr.mono (by decide)) (pda_cons (pd_var 0) (pda_cons (pd_str [32] (by decide +kernel)) pda_nil))))) (blkOk_by (N := ["text", "rule", "words", "begin", "end", "place"]) (sc := defScope s_faults_of) (own := [("begin", 3), ("end", 4)]) (by decide +kernel)) (fun _ _ _ _ _ => (pgT_tp rfl (pgT_cons (pgT_nm 3 sc_faults_of.nd) (pgT_cons (pgT_nm 4 sc_faults_of.nd) pgT_nil)))) (fun _ _ _ _ _ => (ptsD_one (pdt_cm cm_gt (pd_var 4) (pd_add (pd_var 3) pd_int)))) (fun _ _ _ _ _ => (pd_tup (pda_cons (pd_add (pd_var 3) pd_int) (pda_cons (pd_var 4) (pda_cons (pd_str [] (by decide +kernel)) pda_nil)))))))) pds_nil)
    (pds_cons (pds_if (pdt_cm (cm_eq hr) (pd_ix (pd_var 1) pd_int) (pd_str wSign (by decide +kernel))) (pds_one (pds_retN (pn_lc (own := [("place", 5)]) (t := (.nm 5)) rfl sc_faults_of.nd (pit_rng1 rfl T.brange (pda_cons (pd_len T.blen (pda_cons (pd_var 0) pda_nil)) pda_nil)) (blkOk_by (N := ["text", "rule", "words", "begin", "end", "place"]) (sc := defScope s_faults_of) (own := [("place", 5)]) (by decide +kernel)) (fun _ _ _ _ _ => (pgT_nm 5 sc_faults_of.nd)) (fun _ _ _ _ _ => (ptsD_one (pdt_cm (cm_eq hr) (pd_ix (pd_var 0) (pd_var 5)) (pd_ix (pd_var 1) pd_int)))) (fun _ _ _ _ _ => (pd_tup (pda_cons (pd_var 5) (pda_cons (pd_add (pd_var 5) pd_int) (pda_cons (pd_str [] (by decide +kernel)) pda_nil)))))))) pds_nil)
    (pds_cons (pds_asgL 2 (pn_fn h_stretches (hr.mono (by decide)) (pda_cons (pd_var 0) (pda_cons (pd_glob tLetters T.gLETTERS) pda_nil))) sc_faults_of.nd)
    (pds_cons (pds_if (pdt_cm (cm_eq hr) (pd_ix (pd_var 1) pd_int) (pd_str wLong (by decide +kernel))) (pds_one (pds_retN (pn_lc (own := [("begin", 3), ("end", 4)]) (t := (.tp [(.nm 3), (.nm 4)])) rfl sc_faults_of.nd (pit_lst (pd_var 2)) (blkOk_by (N := ["text", "rule", "words", "begin", "end", "place"]) (sc := defScope s_faults_of) (own := [("begin", 3), ("end", 4)]) (by decide +kernel)) (fun _ _ _ _ _ => (pgT_tp rfl (pgT_cons (pgT_nm 3 sc_faults_of.nd) (pgT_cons (pgT_nm 4 sc_faults_of.nd) pgT_nil)))) (fun _ _ _ _ _ => (ptsD_one (pdt_cm cm_gt (pd_sub (pd_var 4) (pd_var 3)) (pd_ix (pd_var 1) pd_int)))) (fun _ _ _ _ _ => (pd_tup (pda_cons (pd_var 3) (pda_cons (pd_var 4) (pda_cons pd_non pda_nil)))))))) pds_nil)
    (pds_one (pds_retN (pn_lc (own := [("begin", 3), ("end", 4)]) (t := (.tp [(.nm 3), (.nm 4)])) rfl sc_faults_of.nd (pit_lst (pd_var 2)) (blkOk_by (N := ["text", "rule", "words", "begin", "end", "place"]) (sc := defScope s_faults_of) (own := [("begin", 3), ("end", 4)]) (by decide +kernel)) (fun _ _ _ _ _ => (pgT_tp rfl (pgT_cons (pgT_nm 3 sc_faults_of.nd) (pgT_cons (pgT_nm 4 sc_faults_of.nd) pgT_nil)))) (fun _ _ _ _ _ => (ptsD_one (pdt_cm (cm_eq hr) (pd_lower (pd_sl (pd_var 0) (pdo_some (pd_var 3)) (pdo_some (pd_var 4)))) (pd_ix (pd_var 1) pd_int)))) (fun _ _ _ _ _ => (pd_tup (pda_cons (pd_var 3) (pda_cons (pd_var 4) (pda_cons (pd_ix (pd_var 1) pd_int) pda_nil))))))))))))))
abbrev s_all_marks : Stmt := topS 8
theorem sc_all_marks : FnScope ["text", "rules", "found", "number", "rule", "begin", "end", "mend"] ["text", "rules"] (defScope s_all_marks) := ⟨rfl, rfl, rfl, by decide +kernel, rfl, by decide +kernel, by decide +kernel⟩
theorem ok_all_marks (T : Gm mg) (F : DefTab K mg base "all_marks" s_all_marks ["text", "rules"])  (h_faults_of : FnB P w K mg base 3 "faults_of" ["text", "rule"] (spL K C 2 f_faults_of)) : FnB P w K mg base 4 "all_marks" ["text", "rules"] (spD K C 2 f_all_marks) := by
  refine fn_tab (B := B_all_marks) C F sc_all_marks (fun c T0 f A outer s H E hT TB hr => ?_) (m := 8) rfl rfl rfl
  exact (pds_cons (pds_asgO 2 (pn_lst pda_nil) sc_all_marks.nd)
    (pds_cons (pds_for (t := (.tp [(.nm 3), (.nm 4)])) PassesOwn.never rfl (pif_enumTup rfl T.benumerate (pd_var 1)) (pgT_tp rfl (pgT_cons (pgT_nm 3 sc_all_marks.nd) (pgT_cons (pgT_nm 4 sc_all_marks.nd) pgT_nil)))
      (pds_one (pds_ext 2 (pn_lc (own := [("begin", 5), ("end", 6), ("mend", 7)]) (t := (.tp [(.nm 5), (.nm 6), (.nm 7)])) rfl sc_all_marks.nd (pit_lst (pd_new (pn_fn h_faults_of (hr.mono (by decide)) (pda_cons (pd_var 0) (pda_cons (pd_var 4) pda_nil))))) (blkOk_by (N := ["text", "rules", "found", "number", "rule", "begin", "end", "mend"]) (sc := defScope s_all_marks) (own := [("begin", 5), ("end", 6), ("mend", 7)]) (by decide +kernel)) (fun _ _ _ _ _ => (pgT_tp rfl (pgT_cons (pgT_nm 5 sc_all_marks.nd) (pgT_cons (pgT_nm 6 sc_all_marks.nd) (pgT_cons (pgT_nm 7 sc_all_marks.nd) pgT_nil))))) (fun _ _ _ _ _ => ptsD_nil) (fun _ _ _ _ _ => (pd_tup (pda_cons (pd_var 5) (pda_cons (pd_var 6) (pda_cons (pd_var 3) (pda_cons (pd_var 7) pda_nil))))))))))
    (pds_one (pds_ret (pd_tuple T.btuple (pda_cons (pd_new (pn_sortedK hr hT TB rfl rfl T.bsorted (pd_var 2))) pda_nil))))))
abbrev s_marks_in : Stmt := topS 9
theorem sc_marks_in : FnScope ["text", "rules", "begin", "end", "mark"] ["text", "rules", "begin", "end"] (defScope s_marks_in) := ⟨rfl, rfl, rfl, by decide +kernel, rfl, by decide +kernel, by decide +kernel⟩
theorem ok_marks_in (T : Gm mg) (F : DefAt K mg "marks_in" s_marks_in ["text", "rules", "begin", "end"])  (h_all_marks : FnB P w K mg base 4 "all_marks" ["text", "rules"] (spD K C 2 f_all_marks)) : FnB P w K mg base 5 "marks_in" ["text", "rules", "begin", "end"] (spD K C 4 f_marks_in) := by
  obtain ⟨f, fd, F, hm, hb⟩ := F.ex
  refine fn_data (B := B_marks_in) C F sc_marks_in (fun cdv A outer s H E hr => ?_) hm hb (m := 5) rfl rfl rfl
  exact (pds_one (pds_ret (pd_tuple T.btuple (pda_cons (pd_new (pn_lc (own := [("mark", 4)]) (t := (.nm 4)) rfl sc_marks_in.nd (pit_tup (pd_fn h_all_marks (hr.mono (by decide)) (pda_cons (pd_var 0) (pda_cons (pd_var 1) pda_nil)))) (blkOk_by (N := ["text", "rules", "begin", "end", "mark"]) (sc := defScope s_marks_in) (own := [("mark", 4)]) (by decide +kernel)) (fun _ _ _ _ _ => (pgT_nm 4 sc_marks_in.nd)) (fun _ _ _ _ _ => (ptsD_one (pdt_ch cm_le cm_lt (pd_var 2) (pd_ix (pd_var 4) pd_int) (pd_var 3)))) (fun _ _ _ _ _ => (pd_var 4)))) pda_nil))))
abbrev s_law_cell : Stmt := topS 11
theorem sc_law_cell : FnScope ["script", "k"] ["script", "k"] (defScope s_law_cell) := ⟨rfl, rfl, rfl, by decide +kernel, rfl, by decide +kernel, by decide +kernel⟩
theorem ok_law_cell (T : Gm mg) (F : DefAt K mg "_law_cell" s_law_cell ["script", "k"])   : FnB P w K mg base 1 "_law_cell" ["script", "k"] (spD K C 2 f_law_cell) := by
  obtain ⟨f, fd, F, hm, hb⟩ := F.ex
  refine fn_data (B := B_law_cell) C F sc_law_cell (fun cdv A outer s H E hr => ?_) hm hb (m := 2) rfl rfl rfl
  exact (pds_cons (pds_if (pdt_cm cm_lt (pd_var 1) (pd_len T.blen (pda_cons (pd_var 0) pda_nil))) (pds_one (pds_ret (pd_ix (pd_var 0) (pd_var 1)))) pds_nil)
    (pds_one (pds_ret pd_int)))
abbrev s_law_mix : Stmt := topS 12
theorem sc_law_mix : FnScope ["cell", "prime", "many", "blend"] ["cell", "prime", "many"] (defScope s_law_mix) := ⟨rfl, rfl, rfl, by decide +kernel, rfl, by decide +kernel, by decide +kernel⟩
theorem ok_law_mix (T : Gm mg) (F : DefAt K mg "_law_mix" s_law_mix ["cell", "prime", "many"])   : FnB P w K mg base 1 "_law_mix" ["cell", "prime", "many"] (spD K C 3 f_law_mix) := by
  obtain ⟨f, fd, F, hm, hb⟩ := F.ex
  refine fn_data (B := B_law_mix) C F sc_law_mix (fun cdv A outer s H E hr => ?_) hm hb (m := 4) rfl rfl rfl
  exact (pds_cons (pds_asg (t := .nm 3) (pd_mod (pd_mul (pd_var 0) pd_int) (pd_var 1)) (pgT_nm 3 sc_law_mix.nd))
    (pds_one (pds_ret (pd_mod (pd_mod (pd_mul (pd_var 3) (pd_add (pd_var 3) pd_int)) (pd_var 1)) (pd_var 2)))))
abbrev s_law_signs : Stmt := topS 13
theorem sc_law_signs : FnScope [] [] (defScope s_law_signs) := ⟨rfl, rfl, rfl, by decide +kernel, rfl, by decide +kernel, by decide +kernel⟩
theorem ok_law_signs (T : Gm mg) (F : DefAt K mg "_law_signs" s_law_signs [])   : FnB P w K mg base 1 "_law_signs" [] (spD K C 0 f_law_signs) := by
  obtain ⟨f, fd, F, hm, hb⟩ := F.ex
  refine fn_data (B := B_law_signs) C F sc_law_signs (fun cdv A outer s H E hr => ?_) hm hb (m := 0) rfl rfl rfl
  exact (pds_one (pds_ret (pd_str tSigns (by decide +kernel))))
abbrev s_law_letters : Stmt := topS 14
theorem sc_law_letters : FnScope ["cell", "many", "letters", "k"] ["cell", "many"] (defScope s_law_letters) := ⟨rfl, rfl, rfl, by decide +kernel, rfl, by decide +kernel, by decide +kernel⟩
theorem ok_law_letters (T : Gm mg) (F : DefAt K mg "_law_letters" s_law_letters ["cell", "many"])  (h_law_mix : FnB P w K mg base 1 "_law_mix" ["cell", "prime", "many"] (spD K C 3 f_law_mix)) : FnB P w K mg base 2 "_law_letters" ["cell", "many"] (spD K C 2 f_law_letters) := by
  obtain ⟨f, fd, F, hm, hb⟩ := F.ex
  refine fn_data (B := B_law_letters) C F sc_law_letters (fun cdv A outer s H E hr => ?_) hm hb (m := 4) rfl rfl rfl
  exact (pds_cons (pds_asg (t := .nm 2) (pd_str tLetters (by decide +kernel)) (pgT_nm 2 sc_law_letters.nd))
    (pds_one (pds_ret (pd_join (pd_str [] (by decide +kernel)) (pd_new (pn_lc (own := [("k", 3)]) (t := (.nm 3)) rfl sc_law_letters.nd (pit_rng1 rfl T.brange (pda_cons (pd_var 1) pda_nil)) (blkOk_by (N := ["cell", "many", "letters", "k"]) (sc := defScope s_law_letters) (own := [("k", 3)]) (by decide +kernel)) (fun _ _ _ _ _ => (pgT_nm 3 sc_law_letters.nd)) (fun _ _ _ _ _ => ptsD_nil) (fun _ _ _ _ _ => (pd_ix (pd_var 2) (pd_fn h_law_mix (hr.mono (by decide)) (pda_cons (pd_add (pd_var 0) (pd_mul pd_int (pd_var 3))) (pda_cons pd_int (pda_cons pd_int pda_nil))))))))))))
abbrev s_law_text : Stmt := topS 15
theorem sc_law_text : FnScope ["cell", "signs", "many", "found", "piece", "seed", "some", "sign", "gaps"] ["cell"] (defScope s_law_text) := ⟨rfl, rfl, rfl, by decide +kernel, rfl, by decide +kernel, by decide +kernel⟩
theorem ok_law_text (T : Gm mg) (F : DefAt K mg "_law_text" s_law_text ["cell"])  (h_law_letters : FnB P w K mg base 2 "_law_letters" ["cell", "many"] (spD K C 2 f_law_letters)) (h_law_mix : FnB P w K mg base 1 "_law_mix" ["cell", "prime", "many"] (spD K C 3 f_law_mix)) (h_law_signs : FnB P w K mg base 1 "_law_signs" [] (spD K C 0 f_law_signs)) : FnB P w K mg base 3 "_law_text" ["cell"] (spD K C 1 f_law_text) := by
  obtain ⟨f, fd, F, hm, hb⟩ := F.ex
  refine fn_data (B := B_law_text) C F sc_law_text (fun cdv A outer s H E hr => ?_) hm hb (m := 9) rfl rfl rfl
  exact (pds_cons (pds_asg (t := .nm 1) (pd_fn0 h_law_signs (hr.mono (by decide))) (pgT_nm 1 sc_law_text.nd))
    (pds_cons (pds_asg (t := .nm 2) (pd_fn h_law_mix (hr.mono (by decide)) (pda_cons (pd_var 0) (pda_cons pd_int (pda_cons pd_int pda_nil)))) (pgT_nm 2 sc_law_text.nd))
    (pds_cons (pds_asg (t := .nm 3) (pd_str [] (by decide +kernel)) (pgT_nm 3 sc_law_text.nd))
    (pds_cons (pds_asg (t := .nm 4) pd_int (pgT_nm 4 sc_law_text.nd))
    (pds_cons (pds_while PassesOwn.never (pdt_cm cm_lt (pd_len T.blen (pda_cons (pd_var 3) pda_nil)) (pd_var 2))
      (pds_cons (pds_asg (t := .nm 4) (pd_add (pd_var 4) pd_int) (pgT_nm 4 sc_law_text.nd))
    (pds_cons (pds_asg (t := .nm 5) (pd_add (pd_var 0) (pd_mul pd_int (pd_var 4))) (pgT_nm 5 sc_law_text.nd))
    (pds_cons (pds_asgL 6 (pn_lst (pda_cons (pd_str [97] (by decide +kernel)) (pda_cons (pd_str wTeh (by decide +kernel)) (pda_cons (pd_str wTHe (by decide +kernel)) (pda_cons (pd_str wThe (by decide +kernel)) (pda_cons (pd_str [97] (by decide +kernel)) (pda_cons (pd_fn h_law_letters (hr.mono (by decide)) (pda_cons (pd_var 5) (pda_cons (pd_add pd_int (pd_fn h_law_mix (hr.mono (by decide)) (pda_cons (pd_var 5) (pda_cons pd_int (pda_cons pd_int pda_nil))))) pda_nil))) pda_nil))))))) sc_law_text.nd)
    (pds_cons (pds_asg (t := .nm 3) (pd_add (pd_var 3) (pd_ix (pd_var 6) (pd_fn h_law_mix (hr.mono (by decide)) (pda_cons (pd_var 5) (pda_cons pd_int (pda_cons pd_int pda_nil)))))) (pgT_nm 3 sc_law_text.nd))
    (pds_cons (pds_asg (t := .nm 7) (pd_ix (pd_var 1) (pd_fn h_law_mix (hr.mono (by decide)) (pda_cons (pd_var 5) (pda_cons pd_int (pda_cons (pd_len T.blen (pda_cons (pd_var 1) pda_nil)) pda_nil))))) (pgT_nm 7 sc_law_text.nd))
    (pds_cons (pds_asg (t := .nm 8) (pd_tup (pda_cons (pd_str [32] (by decide +kernel)) (pda_cons (pd_str [32] (by decide +kernel)) (pda_cons (pd_str [32, 32] (by decide +kernel)) (pda_cons (pd_str [32, 32, 32] (by decide +kernel)) (pda_cons (pd_str [46, 32] (by decide +kernel)) (pda_cons (pd_str [46] (by decide +kernel)) (pda_cons (pd_str [33, 32] (by decide +kernel)) (pda_cons (pd_var 7) pda_nil))))))))) (pgT_nm 8 sc_law_text.nd))
    (pds_one (pds_asg (t := .nm 3) (pd_add (pd_var 3) (pd_ix (pd_var 8) (pd_fn h_law_mix (hr.mono (by decide)) (pda_cons (pd_var 5) (pda_cons pd_int (pda_cons pd_int pda_nil)))))) (pgT_nm 3 sc_law_text.nd))))))))))
    (pds_one (pds_ret (pd_sl (pd_var 3) pdo_none (pdo_some (pd_var 2))))))))))
abbrev s_law_rule : Stmt := topS 16
theorem sc_law_rule : FnScope ["cell", "signs", "way", "wrong", "sign"] ["cell"] (defScope s_law_rule) := ⟨rfl, rfl, rfl, by decide +kernel, rfl, by decide +kernel, by decide +kernel⟩
theorem ok_law_rule (T : Gm mg) (F : DefAt K mg "_law_rule" s_law_rule ["cell"])  (h_law_letters : FnB P w K mg base 2 "_law_letters" ["cell", "many"] (spD K C 2 f_law_letters)) (h_law_mix : FnB P w K mg base 1 "_law_mix" ["cell", "prime", "many"] (spD K C 3 f_law_mix)) (h_law_signs : FnB P w K mg base 1 "_law_signs" [] (spD K C 0 f_law_signs)) : FnB P w K mg base 3 "_law_rule" ["cell"] (spD K C 1 f_law_rule) := by
  obtain ⟨f, fd, F, hm, hb⟩ := F.ex
  refine fn_data (B := B_law_rule) C F sc_law_rule (fun cdv A outer s H E hr => ?_) hm hb (m := 5) rfl rfl rfl
  exact (pds_cons (pds_lcL 1 (own := [("sign", 4)]) (t := (.nm 4)) rfl sc_law_rule.nd (pit_str (pd_fn0 h_law_signs (hr.mono (by decide)))) (blkOk_by (N := ["cell", "signs", "way", "wrong", "sign"]) (sc := defScope s_law_rule) (own := [("sign", 4)]) (by decide +kernel)) (fun _ _ _ _ _ => (pgT_nm 4 sc_law_rule.nd)) (fun _ _ _ _ _ => (ptsD_one (pdt_cm (cm_nin hr) (pd_var 4) (pd_str tBlankLetters (by decide +kernel))))) (fun _ _ _ _ _ => (pd_var 4)))
    (pds_cons (pds_asg (t := .nm 2) (pd_fn h_law_mix (hr.mono (by decide)) (pda_cons (pd_var 0) (pda_cons pd_int (pda_cons pd_int pda_nil)))) (pgT_nm 2 sc_law_rule.nd))
    (pds_cons (pds_if (pdt_cm (cm_eq hr) (pd_var 2) pd_int) (pds_cons (pds_asg (t := .nm 3) (pd_ix (pd_tup (pda_cons (pd_str [97] (by decide +kernel)) (pda_cons (pd_str wTeh (by decide +kernel)) (pda_cons (pd_str wThe (by decide +kernel)) (pda_cons (pd_lower (pd_fn h_law_letters (hr.mono (by decide)) (pda_cons (pd_var 0) (pda_cons (pd_add pd_int (pd_fn h_law_mix (hr.mono (by decide)) (pda_cons (pd_var 0) (pda_cons pd_int (pda_cons pd_int pda_nil))))) pda_nil)))) pda_nil))))) (pd_fn h_law_mix (hr.mono (by decide)) (pda_cons (pd_var 0) (pda_cons pd_int (pda_cons pd_int pda_nil))))) (pgT_nm 3 sc_law_rule.nd))
    (pds_one (pds_ret (pd_tup (pda_cons (pd_str wWord (by decide +kernel)) (pda_cons (pd_var 3) (pda_cons (pd_ix (pd_tup (pda_cons (pd_str [] (by decide +kernel)) (pda_cons (pd_str [97] (by decide +kernel)) (pda_cons (pd_str wThe (by decide +kernel)) (pda_cons (pd_lower (pd_fn h_law_letters (hr.mono (by decide)) (pda_cons (pd_add (pd_var 0) pd_int) (pda_cons pd_int pda_nil)))) pda_nil))))) (pd_fn h_law_mix (hr.mono (by decide)) (pda_cons (pd_var 0) (pda_cons pd_int (pda_cons pd_int pda_nil))))) pda_nil))))))) pds_nil)
    (pds_cons (pds_if (pdt_cm (cm_eq hr) (pd_var 2) pd_int) (pds_one (pds_ret (pd_tup (pda_cons (pd_str wLong (by decide +kernel)) (pda_cons (pd_add pd_int (pd_fn h_law_mix (hr.mono (by decide)) (pda_cons (pd_var 0) (pda_cons pd_int (pda_cons pd_int pda_nil))))) pda_nil))))) pds_nil)
    (pds_cons (pds_if (pdt_cm (cm_eq hr) (pd_var 2) pd_int) (pds_one (pds_ret (pd_tup (pda_cons (pd_str wSign (by decide +kernel)) (pda_cons (pd_ix (pd_tup (pda_cons (pd_str [33] (by decide +kernel)) (pda_cons (pd_str [46] (by decide +kernel)) (pda_cons (pd_ix (pd_var 1) (pd_fn h_law_mix (hr.mono (by decide)) (pda_cons (pd_var 0) (pda_cons pd_int (pda_cons (pd_len T.blen (pda_cons (pd_var 1) pda_nil)) pda_nil))))) pda_nil)))) (pd_fn h_law_mix (hr.mono (by decide)) (pda_cons (pd_var 0) (pda_cons pd_int (pda_cons pd_int pda_nil))))) pda_nil))))) pds_nil)
    (pds_one (pds_ret (pd_ix (pd_tup (pda_cons (pd_tup (pda_cons (pd_str wTwice (by decide +kernel)) pda_nil)) (pda_cons (pd_tup (pda_cons (pd_str wBlanks (by decide +kernel)) pda_nil)) (pda_cons (pd_tup (pda_cons (pd_str wGreat (by decide +kernel)) pda_nil)) pda_nil)))) (pd_sub (pd_var 2) pd_int)))))))))
abbrev s_law_rules : Stmt := topS 17
theorem sc_law_rules : FnScope ["cell", "found", "k", "rule"] ["cell"] (defScope s_law_rules) := ⟨rfl, rfl, rfl, by decide +kernel, rfl, by decide +kernel, by decide +kernel⟩
theorem ok_law_rules (T : Gm mg) (F : DefAt K mg "_law_rules" s_law_rules ["cell"])  (h_law_mix : FnB P w K mg base 1 "_law_mix" ["cell", "prime", "many"] (spD K C 3 f_law_mix)) (h_law_rule : FnB P w K mg base 3 "_law_rule" ["cell"] (spD K C 1 f_law_rule)) : FnB P w K mg base 4 "_law_rules" ["cell"] (spD K C 1 f_law_rules) := by
  obtain ⟨f, fd, F, hm, hb⟩ := F.ex
  refine fn_data (B := B_law_rules) C F sc_law_rules (fun cdv A outer s H E hr => ?_) hm hb (m := 4) rfl rfl rfl
  exact (pds_cons (pds_asg (t := .nm 1) (pd_tup pda_nil) (pgT_nm 1 sc_law_rules.nd))
    (pds_cons (pds_for (t := (.nm 2)) PassesOwn.never rfl (pif_rng1 rfl T.brange (pda_cons (pd_add pd_int (pd_fn h_law_mix (hr.mono (by decide)) (pda_cons (pd_var 0) (pda_cons pd_int (pda_cons pd_int pda_nil))))) pda_nil)) (pgT_nm 2 sc_law_rules.nd)
      (pds_cons (pds_asg (t := .nm 3) (pd_fn h_law_rule (hr.mono (by decide)) (pda_cons (pd_add (pd_var 0) (pd_mul pd_int (pd_var 2))) pda_nil)) (pgT_nm 3 sc_law_rules.nd))
    (pds_one (pds_if (pdt_cm (cm_nin hr) (pd_var 3) (pd_var 1)) (pds_one (pds_asg (t := .nm 1) (pd_add (pd_var 1) (pd_tup (pda_cons (pd_var 3) pda_nil))) (pgT_nm 1 sc_law_rules.nd))) pds_nil))))
    (pds_one (pds_ret (pd_var 1)))))
abbrev s_law : Stmt := topS 18
theorem sc_law : FnScope ["script", "k", "cell", "text", "rules", "marks", "cuts", "pieces", "j", "heads", "number", "rule", "mine", "mark"] ["script"] (defScope s_law) := ⟨rfl, rfl, rfl, by decide +kernel, rfl, by decide +kernel, by decide +kernel⟩
theorem ok_law (T : Gm mg) {f : Addr} {fd : FuncData} (F : Fun K "law" "law" s_law f fd)  (h_law_cell : FnB P w K mg base 1 "_law_cell" ["script", "k"] (spD K C 2 f_law_cell)) (h_law_mix : FnB P w K mg base 1 "_law_mix" ["cell", "prime", "many"] (spD K C 3 f_law_mix)) (h_law_rules : FnB P w K mg base 4 "_law_rules" ["cell"] (spD K C 1 f_law_rules)) (h_law_text : FnB P w K mg base 3 "_law_text" ["cell"] (spD K C 1 f_law_text)) (h_all_marks : FnB P w K mg base 4 "all_marks" ["text", "rules"] (spD K C 2 f_all_marks)) (h_marks_in : FnB P w K mg base 5 "marks_in" ["text", "rules", "begin", "end"] (spD K C 4 f_marks_in)) : FnOk P w K mg base CX0 6 f fd ["script"] (spD K C 1 f_law) := by
  refine fn_law (B := B_law) C F sc_law (fun cdv A outer s H E hr => ?_) (m := 14) rfl rfl rfl
  exact (pds_cons (pds_for (t := (.nm 1)) PassesOwn.never rfl (pif_rng1 rfl T.brange (pda_cons pd_int pda_nil)) (pgT_nm 1 sc_law.nd)
      (pds_cons (pds_asg (t := .nm 2) (pd_add (pd_fn h_law_cell (hr.mono (by decide)) (pda_cons (pd_var 0) (pda_cons (pd_mod (pd_var 1) pd_int) pda_nil))) (pd_mul pd_int (pd_var 1))) (pgT_nm 2 sc_law.nd))
    (pds_cons (pds_asg (t := .nm 3) (pd_fn h_law_text (hr.mono (by decide)) (pda_cons (pd_var 2) pda_nil)) (pgT_nm 3 sc_law.nd))
    (pds_cons (pds_asg (t := .nm 4) (pd_fn h_law_rules (hr.mono (by decide)) (pda_cons (pd_add (pd_fn h_law_cell (hr.mono (by decide)) (pda_cons (pd_var 0) (pda_cons pd_int pda_nil))) (pd_mul pd_int (pd_var 1))) pda_nil)) (pgT_nm 4 sc_law.nd))
    (pds_cons (pds_asg (t := .nm 5) (pd_fn h_all_marks (hr.mono (by decide)) (pda_cons (pd_var 3) (pda_cons (pd_var 4) pda_nil))) (pgT_nm 5 sc_law.nd))
    (pds_cons (pds_asgL 6 (pn_sorted hr T.bsorted (pda_cons (pd_new (pn_add (pd_new (pn_lst (pda_cons pd_int (pda_cons (pd_len T.blen (pda_cons (pd_var 3) pda_nil)) pda_nil)))) (pd_new (pn_lc (own := [("j", 8)]) (t := (.nm 8)) rfl sc_law.nd (pit_rng1 rfl T.brange (pda_cons pd_int pda_nil)) (blkOk_by (N := ["script", "k", "cell", "text", "rules", "marks", "cuts", "pieces", "j", "heads", "number", "rule", "mine", "mark"]) (sc := defScope s_law) (own := [("j", 8)]) (by decide +kernel)) (fun _ _ _ _ _ => (pgT_nm 8 sc_law.nd)) (fun _ _ _ _ _ => ptsD_nil) (fun _ _ _ _ _ => (pd_fn h_law_mix (hr.mono (by decide)) (pda_cons (pd_add (pd_var 2) (pd_mul pd_int (pd_var 8))) (pda_cons pd_int (pda_cons (pd_add (pd_len T.blen (pda_cons (pd_var 3) pda_nil)) pd_int) pda_nil))))))))) pda_nil)) sc_law.nd)
    (pds_cons (pds_asg (t := .nm 7) (pd_tup pda_nil) (pgT_nm 7 sc_law.nd))
    (pds_cons (pds_for (t := (.nm 8)) PassesOwn.never rfl (pif_rng2 rfl T.brange (pda_cons pd_int (pda_cons (pd_len T.blen (pda_cons (pd_var 6) pda_nil)) pda_nil))) (pgT_nm 8 sc_law.nd)
      (pds_one (pds_asg (t := .nm 7) (pd_add (pd_var 7) (pd_fn h_marks_in (hr.mono (by decide)) (pda_cons (pd_var 3) (pda_cons (pd_var 4) (pda_cons (pd_ix (pd_var 6) (pd_sub (pd_var 8) pd_int)) (pda_cons (pd_ix (pd_var 6) (pd_var 8)) pda_nil)))))) (pgT_nm 7 sc_law.nd))))
    (pds_cons (pds_lcL 9 (own := [("mark", 13)]) (t := (.nm 13)) rfl sc_law.nd (pit_tup (pd_var 5)) (blkOk_by (N := ["script", "k", "cell", "text", "rules", "marks", "cuts", "pieces", "j", "heads", "number", "rule", "mine", "mark"]) (sc := defScope s_law) (own := [("mark", 13)]) (by decide +kernel)) (fun _ _ _ _ _ => (pgT_nm 13 sc_law.nd)) (fun _ _ _ _ _ => ptsD_nil) (fun _ _ _ _ _ => (pd_sl (pd_var 13) pdo_none (pdo_some pd_int))))
    (pds_cons (pds_if (PW.pt (pdw_or (pdt_cm (cm_ne hr) (pd_var 7) (pd_var 5)) (pdw_or1 (pdt_cm (cm_ne hr) (pd_var 9) (pd_new (pn_sortSet hr rfl T.bsorted T.bset (pd_var 9))))))) (pds_one (pds_ret pd_bl)) pds_nil)
    (pds_cons (pds_if (pdt_cm (cm_ne hr) (pd_new (pn_lc (own := [("mark", 13)]) (t := (.nm 13)) rfl sc_law.nd (pit_tup (pd_var 5)) (blkOk_by (N := ["script", "k", "cell", "text", "rules", "marks", "cuts", "pieces", "j", "heads", "number", "rule", "mine", "mark"]) (sc := defScope s_law) (own := [("mark", 13)]) (by decide +kernel)) (fun _ _ _ _ _ => (pgT_nm 13 sc_law.nd)) (fun _ _ _ _ _ => (ptsD_one (pdt_not (pdt_ch3 cm_le cm_lt cm_le pd_int (pd_ix (pd_var 13) pd_int) (pd_ix (pd_var 13) pd_int) (pd_len T.blen (pda_cons (pd_var 3) pda_nil)))))) (fun _ _ _ _ _ => (pd_var 13)))) (pd_new (pn_lst pda_nil))) (pds_one (pds_ret pd_bl)) pds_nil)
    (pds_one (pds_for (t := (.tp [(.nm 10), (.nm 11)])) PassesOwn.never rfl (pif_enumTup rfl T.benumerate (pd_var 4)) (pgT_tp rfl (pgT_cons (pgT_nm 10 sc_law.nd) (pgT_cons (pgT_nm 11 sc_law.nd) pgT_nil)))
      (pds_cons (pds_asgL 12 (pn_lc (own := [("mark", 13)]) (t := (.nm 13)) rfl sc_law.nd (pit_tup (pd_var 5)) (blkOk_by (N := ["script", "k", "cell", "text", "rules", "marks", "cuts", "pieces", "j", "heads", "number", "rule", "mine", "mark"]) (sc := defScope s_law) (own := [("mark", 13)]) (by decide +kernel)) (fun _ _ _ _ _ => (pgT_nm 13 sc_law.nd)) (fun _ _ _ _ _ => (ptsD_one (pdt_cm (cm_eq hr) (pd_ix (pd_var 13) pd_int) (pd_var 10)))) (fun _ _ _ _ _ => (pd_var 13))) sc_law.nd)
    (pds_cons (pds_if (pdt_cm (cm_ne hr) (pd_new (pn_lc (own := [("mark", 13)]) (t := (.nm 13)) rfl sc_law.nd (pit_lst (pd_var 12)) (blkOk_by (N := ["script", "k", "cell", "text", "rules", "marks", "cuts", "pieces", "j", "heads", "number", "rule", "mine", "mark"]) (sc := defScope s_law) (own := [("mark", 13)]) (by decide +kernel)) (fun _ _ _ _ _ => (pgT_nm 13 sc_law.nd)) (fun _ _ _ _ _ => ptsD_nil) (fun _ _ _ _ _ => (pd_add (pd_add (pd_sl (pd_var 13) pdo_none (pdo_some pd_int)) (pd_tup (pda_cons pd_int pda_nil))) (pd_sl (pd_var 13) (pdo_some pd_int) pdo_none))))) (pd_new (pn_list T.blist (pda_cons (pd_fn h_all_marks (hr.mono (by decide)) (pda_cons (pd_var 3) (pda_cons (pd_tup (pda_cons (pd_var 11) pda_nil)) pda_nil))) pda_nil)))) (pds_one (pds_ret pd_bl)) pds_nil)
    (pds_one (pds_if (pdt_cm (cm_ne hr) (pd_new (pn_lc (own := [("j", 8)]) (t := (.nm 8)) rfl sc_law.nd (pit_rng2 rfl T.brange (pda_cons pd_int (pda_cons (pd_len T.blen (pda_cons (pd_var 12) pda_nil)) pda_nil))) (blkOk_by (N := ["script", "k", "cell", "text", "rules", "marks", "cuts", "pieces", "j", "heads", "number", "rule", "mine", "mark"]) (sc := defScope s_law) (own := [("j", 8)]) (by decide +kernel)) (fun _ _ _ _ _ => (pgT_nm 8 sc_law.nd)) (fun _ _ _ _ _ => (ptsD_one (pdt_cm cm_lt (pd_ix (pd_ix (pd_var 12) (pd_var 8)) pd_int) (pd_ix (pd_ix (pd_var 12) (pd_sub (pd_var 8) pd_int)) pd_int)))) (fun _ _ _ _ _ => (pd_var 8)))) (pd_new (pn_lst pda_nil))) (pds_one (pds_ret pd_bl)) pds_nil)))))))))))))))))
    (pds_one (pds_ret pd_bl)))
end
end FM

set_option Elab.async false
set_option linter.all false
set_option maxRecDepth 100000
/-! MC: plain facts of signs, texts and rules. -/
namespace FM
open PySem PyProof.Rows L2
theorem slE : (sizeLine : Nat) = 16777216 := sizeLine_eq
/-- signs of the small alphabet -/
def isSm (c : Nat) : Bool := decide (97 ≤ c) && decide (c ≤ 122)
def isGr (c : Nat) : Bool := decide (65 ≤ c) && decide (c ≤ 90)
theorem mem_small (c : Nat) : decide (c ∈ tSmall) = isSm c := by
  rw [Bool.eq_iff_iff]
  simp only [tSmall, isSm, decide_eq_true_eq, Bool.and_eq_true, List.mem_cons, List.not_mem_nil, or_false]
  omega
theorem mem_great (c : Nat) : decide (c ∈ tGreat) = isGr c := by
  rw [Bool.eq_iff_iff]
  simp only [tGreat, isGr, decide_eq_true_eq, Bool.and_eq_true, List.mem_cons, List.not_mem_nil, or_false]
  omega
def niceE : D → Bool
  | .str l => decide (l.length ≤ 100) && l.all (· < 128)
  | .tup _ => false
  | .lst _ => false
  | _ => true
def nice : D → Bool
  | .tup ds => ds.all niceE
  | _ => true
def smallB (least : Nat) : D → Bool
  | .str l => decide (least ≤ l.length) && (decide (l.length ≤ 6) && l.all isSm)
  | _ => false
def signC (c : Nat) : Bool := decide (33 ≤ c) && decide (c ≤ 126) && !isSm c && !isGr c
def signB : D → Bool
  | .str [c] => signC c
  | _ => false
def gSm : D → D
  | .str [c] => .bl (isSm c)
  | _ => .non
theorem gSm_map (l : List Nat) : (chD l).map gSm = l.map fun c => .bl (isSm c) := by
  simp [chD, gSm, List.map_map, Function.comp_def]
theorem chD_len (l : List Nat) : (chD l).length = l.length := by simp [chD]
def longB : D → Bool
  | .int n => decide (1 ≤ n) && decide (n ≤ 9)
  | _ => false
/-- whether data is a rule -/
def isRuleB : D → Bool
  | .tup (.str w :: rest) =>
    if w = wTwice ∨ w = wBlanks ∨ w = wGreat then rest.isEmpty
    else if w = wWord then (match rest with | [a, b] => smallB 1 a && smallB 0 b | _ => false)
    else if w = wLong then (match rest with | [a] => longB a | _ => false)
    else if w = wSign then (match rest with | [a] => signB a | _ => false)
    else false
  | _ => false
theorem ok64_str {l : List Nat} (h : l.all (· < 128) = true) : D.okN 64 (.str l) = true := by
  simp only [D.okN, List.all_eq_true, decide_eq_true_eq] at h ⊢
  intro x hx
  have := h x hx
  omega
theorem cut1 {α : Type} (x : α) (r : List α) : cutL (x :: r) (some 1) none = r := by
  have h1 : HT.sIx (x :: r).length 0 (some 1) = 1 := by
    have := HT.sIx_nat (x :: r).length 0 1
    rw [show ((1 : Nat) : Int) = 1 from rfl] at this
    rw [this, List.length_cons]
    omega
  unfold cutL
  rw [h1, HT.sIx_none]
  simp
theorem in3 {l : List Nat} (h : l.all (· < 128) = true) (a b c : List Nat) (ha : okAll 63 [.str a, .str b, .str c] = true) : inO (.str l) (.tup [.str a, .str b, .str c]) = some (.bl (decide (l = a ∨ l = b ∨ l = c))) := by
  have e : inB (.str l) (.tup [.str a, .str b, .str c]) = some (decide (l = a ∨ l = b ∨ l = c)) := by
    have h1 : (D.okN 64 (.str l) && okAll 63 [.str a, .str b, .str c]) = true := by rw [ok64_str h, ha]; rfl
    unfold inB
    split
    · rename_i e1 e2; cases e2
    · rename_i ds e1 e2
      cases e2
      rw [if_pos h1]
      congr 1
      rw [Bool.eq_iff_iff]
      simp only [List.any_cons, List.any_nil, eqv, Bool.or_false, Bool.or_eq_true, beq_iff_eq, decide_eq_true_eq]
      constructor <;> rintro (h | h | h) <;> simp [h]
    · rename_i e1 e2; cases e2
    · rename_i e1 e2 e3 e4
      exact absurd rfl (e2 _)
  simp [inO, e]
theorem eqv_lst_nil (l : List D) : eqv (.lst l) (.lst []) = l.isEmpty := by cases l <;> simp [eqv, eqvAll]
theorem niceE_ok {d : D} (hd : niceE d = true) (n : Nat) : d.okN n = true := by
  cases d with
  | str l =>
    simp only [niceE, Bool.and_eq_true, List.all_eq_true, decide_eq_true_eq] at hd
    simp only [D.okN, List.all_eq_true, decide_eq_true_eq]
    intro x hx
    have := hd.2 x hx
    omega
  | tup _ => simp [niceE] at hd
  | lst _ => simp [niceE] at hd
  | _ => simp [D.okN]
theorem nice_ok {ds : List D} (hd : nice (.tup ds) = true) (n : Nat) : okAll n ds = true := by
  rw [okAll_iff]
  intro d h
  exact niceE_ok (List.all_eq_true.mp hd d h) n
end FM

set_option Elab.async false
set_option linter.all false
set_option maxRecDepth 100000
/-! H0: the laws' own helpers: cells, draws, letters, rules. -/
namespace FM
open PySem PyProof.Rows L2
/-- a draw -/
def mixV (c p m : Int) : Int := ((c * 48271 % p) * ((c * 48271 % p) + 7)) % p % m
theorem mixV_nn (c p : Int) {m : Int} (hm : 0 < m) : 0 ≤ mixV c p m := Int.emod_nonneg _ (by omega)
theorem mixV_lt (c p : Int) {m : Int} (hm : 0 < m) : mixV c p m < m := Int.emod_lt_of_pos _ hm
theorem f_mix (c : Int) {p m : Int} (h0 : 0 < p) (h1 : p < 2 ^ 31) (hm : 0 < m) : f_law_mix [.int c, .int p, .int m] = .ok (.int (mixV c p m)) := by
  have b0 : 0 ≤ c * 48271 % p := Int.emod_nonneg _ (by omega)
  have b1 : c * 48271 % p < p := Int.emod_lt_of_pos _ h0
  have b2 : (c * 48271 % p).natAbs < 2 ^ 64 := by omega
  unfold f_law_mix runD B_law_mix
  simp [seqS_ap, setN, h0, hm, b2, mixV]
/-- a draw, as a natural number -/
def mixN (c p : Int) (m : Nat) : Nat := (mixV c p m).toNat
theorem mixN_lt (c p : Int) {m : Nat} (hm : 0 < m) : mixN c p m < m := by
  have h1 := mixV_nn c p (m := m) (by omega)
  have h2 := mixV_lt c p (m := m) (by omega)
  unfold mixN
  omega
theorem f_mixN (c : Int) {p : Int} {m : Nat} (h0 : 0 < p) (h1 : p < 2 ^ 31) (hm : 0 < m) : f_law_mix [.int c, .int p, .int (m : Nat)] = .ok (.int (mixN c p m : Nat)) := by
  rw [f_mix c h0 h1 (by omega)]
  have h1 := mixV_nn c p (m := m) (by omega)
  unfold mixN
  rw [Int.toNat_of_nonneg h1]
theorem f_cell (ns : List Int) (k : Nat) : ∃ c, f_law_cell [.lst (ns.map .int), .int (k : Nat)] = .ok (.int c) := by
  unfold f_law_cell runD B_law_cell
  by_cases h : k < ns.length
  · refine ⟨ns[k], ?_⟩
    have h' : (k : Int) < (ns.length : Int) := by omega
    have e : atI (ns.map D.int) (k : Nat) = some (.int ns[k]) := atI_n (by simp [h])
    simp [seqS_ap, h, e]
  · exact ⟨0, by simp [seqS_ap, h]⟩
theorem f_signs : f_law_signs [] = .ok (.str tSigns) := by
  unfold f_law_signs runD B_law_signs
  simp
def isLet (c : Nat) : Bool := isSm c || isGr c
theorem letters_at {i : Nat} (h : i < 52) : ∃ c, tLetters[i]? = some c ∧ isLet c = true := by
  have q : (List.range 52).all (fun i => match tLetters[i]? with | some c => isLet c | none => false) = true := by decide
  have := List.all_eq_true.mp q i (List.mem_range.mpr h)
  revert this
  cases tLetters[i]? with
  | none => intro z; cases z
  | some c => intro z; exact ⟨c, rfl, z⟩
theorem asRng1_nat {n : Nat} (h : n < 2 ^ 62) : asRng1 [.int (n : Nat)] = .ok (rgD 0 n) := by
  simp only [asRng1, Int.natAbs_natCast, Int.toNat_natCast]
  rw [if_pos h]
theorem rgD_len (lo : Int) (n : Nat) : (rgD lo n).length = n := by simp [rgD]
theorem mapM_ex {te : En → Res D} {e : En} {t : Tg} {p : D → Prop} : ∀ {items : List D}, (∀ d ∈ items, ∃ e1 y, setT t d e = .ok e1 ∧ te e1 = .ok y ∧ y.lf = true ∧ p y) → ∃ zs, lcF t yesF te e items = .ok zs ∧ zs.length = items.length ∧ ∀ z ∈ zs, p z
  | [], _ => ⟨[], rfl, rfl, fun _ h => by cases h⟩
  | d :: r, h => by
    obtain ⟨e1, y, h1, h2, h3, h4⟩ := h d (by simp)
    obtain ⟨zs, h5, h6, h7⟩ := mapM_ex (items := r) fun d hd => h d (by simp [hd])
    refine ⟨y :: zs, ?_, by simp [h6], ?_⟩
    · simp only [lcF, h1, rb_ok, yesF, if_true, h2, h3, h5]
    · intro z hz
      rcases List.mem_cons.mp hz with rfl | hz
      · exact h4
      · exact h7 z hz
theorem strsO_ex : ∀ {zs : List D}, (∀ z ∈ zs, ∃ c, z = .str [c] ∧ isLet c = true) → ∃ l : List Nat, strsO zs = some (l.map fun c => [c]) ∧ l.length = zs.length ∧ ∀ c ∈ l, isLet c = true
  | [], _ => ⟨[], rfl, rfl, fun _ h => by cases h⟩
  | z :: r, h => by
    obtain ⟨c, rfl, hc⟩ := h z (by simp)
    obtain ⟨l, h1, h2, h3⟩ := strsO_ex (zs := r) fun z hz => h z (by simp [hz])
    refine ⟨c :: l, ?_, by simp [h2], ?_⟩
    · simp [strsO, h1]
    · intro x hx
      rcases List.mem_cons.mp hx with rfl | hx
      · exact hc
      · exact h3 x hx
theorem flat1 (l : List Nat) : (l.map fun c => [c]).flatten = l := by
  induction l with
  | nil => rfl
  | cons c r ih => simp [ih]
theorem f_letters (c : Int) {m : Nat} (hm : m ≤ 100) : ∃ l, f_law_letters [.int c, .int (m : Nat)] = .ok (.str l) ∧ l.length = m ∧ ∀ x ∈ l, isLet x = true := by
  obtain ⟨zs, h1, h2, h3⟩ := mapM_ex (e := wipeE [.dat (.int c), .dat (.int (m : Nat)), .dat (.str tLetters), .un] [3]) (t := .nm 3) (te := (bopF ixO (getE 2) (fnF 3 f_law_mix (consF (bopF addO (getE 0) (bopF mulI (cD (.int 7)) (getE 3))) (consF (cD (.int 9973)) (consF (cD (.int 52)) nilF))))))
    (p := fun z => ∃ c, z = .str [c] ∧ isLet c = true) (items := rgD 0 m) fun d hd => by
      simp only [rgD, List.mem_map] at hd
      obtain ⟨i, _, rfl⟩ := hd
      have h4 := f_mixN (c + 7 * (0 + (i : Nat))) (p := 9973) (m := 52) (by decide) (by decide) (by decide)
      obtain ⟨x, hx, hl⟩ := letters_at (mixN_lt (c + 7 * (0 + (i : Nat))) 9973 (m := 52) (by decide))
      refine ⟨_, .str [x], by rw [setT_nm, setN_lf rfl], ?_, rfl, x, rfl, hl⟩
      have h4' : f_law_mix [.int (c + 7 * (i : Nat)), .int 9973, .int 52] = .ok (.int (mixN (c + 7 * (0 + (i : Nat))) 9973 52 : Nat)) := by
        rw [Int.zero_add] at h4 ⊢
        exact h4
      have e1 : atI tLetters (mixN (c + 7 * (0 + (i : Nat))) 9973 52 : Nat) = some x := atI_n hx
      have e2 : ∀ j : Int, ixO (.str tLetters) (.int j) = (atI tLetters j).map fun c => .str [c] := fun j => ixO_str (by rw [slE]; decide)
      simp [h4', e2, e1]
      simp at e1
      simp [e1]
  obtain ⟨l, h5, h6, h7⟩ := strsO_ex h3
  refine ⟨l, ?_, by rw [h6, h2, rgD_len], h7⟩
  have e0 : compF [3] (itF asRng1 (consF (getE 1) nilF)) (.nm 3) yesF (bopF ixO (getE 2) (fnF 3 f_law_mix (consF (bopF addO (getE 0) (bopF mulI (cD (.int 7)) (getE 3))) (consF (cD (.int 9973)) (consF (cD (.int 52)) nilF))))) [.dat (.int c), .dat (.int (m : Nat)), .dat (.str tLetters), .un] = .ok zs := by
    refine compF_ok (items := rgD 0 m) ?_ (by rw [rgD_len, slE]; omega) h1
    simp [asRng1_nat (n := m) (by omega)]
  have e3 : joinO (.str []) (.lst zs) = some (.str l) := by
    simp only [joinO, h5, flat1]
    rw [if_pos]
    rw [h6, h2, rgD_len]
    omega
  unfold f_law_letters runD B_law_letters
  simp [seqS_ap, setN, isS, e0, e3]
/-- rules, typed -/
inductive Rule where
  | twice | blanks | great
  | word (w r : List Nat)
  | long (n : Int)
  | sign (c : Nat)
  deriving DecidableEq
def Rule.d : Rule → D
  | .twice => .tup [.str wTwice]
  | .blanks => .tup [.str wBlanks]
  | .great => .tup [.str wGreat]
  | .word w r => .tup [.str wWord, .str w, .str r]
  | .long n => .tup [.str wLong, .int n]
  | .sign c => .tup [.str wSign, .str [c]]
def Rule.ok : Rule → Bool
  | .word w r => decide (1 ≤ w.length) && decide (w.length ≤ 6) && w.all isSm && decide (r.length ≤ 6) && r.all isSm
  | .long n => decide (1 ≤ n) && decide (n ≤ 9)
  | .sign c => signC c
  | _ => true
theorem sm_lt {c : Nat} (h : isSm c = true) : c < 128 := by
  simp only [isSm, Bool.and_eq_true, decide_eq_true_eq] at h
  omega
theorem all_sm_lt {l : List Nat} (h : l.all isSm = true) : l.all (· < 128) = true := by
  rw [List.all_eq_true] at h ⊢
  intro x hx
  exact decide_eq_true (sm_lt (h x hx))
theorem Rule.nice {r : Rule} (h : r.ok = true) : FM.nice r.d = true := by
  cases r with
  | word w r =>
    simp only [Rule.ok, Bool.and_eq_true, decide_eq_true_eq] at h
    obtain ⟨⟨⟨⟨h1, h2⟩, h3⟩, h4⟩, h5⟩ := h
    simp only [Rule.d, FM.nice, List.all_cons, List.all_nil, niceE, all_sm_lt h3, all_sm_lt h5, Bool.and_true]
    simp
    exact ⟨⟨by decide, by decide⟩, by omega, by omega⟩
  | long n =>
    simp only [Rule.d, FM.nice, List.all_cons, List.all_nil, niceE, Bool.and_true]
    decide
  | sign c =>
    simp only [Rule.ok, signC, Bool.and_eq_true, decide_eq_true_eq] at h
    simp only [Rule.d, FM.nice, List.all_cons, List.all_nil, niceE, Bool.and_true]
    simp
    exact ⟨⟨by decide, by decide⟩, by omega⟩
  | _ => decide
theorem Rule.isRule {r : Rule} (h : r.ok = true) : isRuleB r.d = true := by
  cases r with
  | word w r =>
    simp only [Rule.ok, Bool.and_eq_true, decide_eq_true_eq] at h
    obtain ⟨⟨⟨⟨h1, h2⟩, h3⟩, h4⟩, h5⟩ := h
    have n1 : ¬ (wWord = wTwice ∨ wWord = wBlanks ∨ wWord = wGreat) := by decide
    simp only [Rule.d, isRuleB, n1, if_false, if_true, smallB, h3, h5]
    simp [h1, h2, h4]
  | long n =>
    have n1 : ¬ (wLong = wTwice ∨ wLong = wBlanks ∨ wLong = wGreat) := by decide
    have n2 : ¬ (wLong = wWord) := by decide
    simp only [Rule.d, isRuleB, n1, n2, if_false, if_true, longB]
    exact h
  | sign c =>
    have n1 : ¬ (wSign = wTwice ∨ wSign = wBlanks ∨ wSign = wGreat) := by decide
    have n2 : ¬ (wSign = wWord) := by decide
    have n3 : ¬ (wSign = wLong) := by decide
    simp only [Rule.d, isRuleB, n1, n2, n3, if_false, if_true, signB]
    exact h
  | _ => decide
theorem Rule.d_inj {a b : Rule} (h : a.d = b.d) : a = b := by
  cases a <;> cases b <;> simp [Rule.d] at h ⊢ <;> first | exact absurd h (by decide) | (obtain ⟨h1, h2⟩ := h; exact absurd h1 (by decide)) | exact h | skip
theorem lo_sm {c : Nat} (h : isLet c = true) : isSm (lo1 c) = true := by
  simp only [isLet, isSm, isGr, Bool.or_eq_true, Bool.and_eq_true, decide_eq_true_eq] at h ⊢
  unfold lo1
  by_cases q : 65 ≤ c ∧ c ≤ 90
  · rw [if_pos q]; omega
  · rw [if_neg q]; omega
theorem let_lt {c : Nat} (h : isLet c = true) : c < 128 := by
  simp only [isLet, isSm, isGr, Bool.or_eq_true, Bool.and_eq_true, decide_eq_true_eq] at h
  omega
theorem lowO_let {l : List Nat} (h : ∀ x ∈ l, isLet x = true) (hl : l.length ≤ 100) : lowO (.str l) = some (.str (l.map lo1)) ∧ (l.map lo1).all isSm = true := by
  have h1 : l.all (· < 128) = true := by
    rw [List.all_eq_true]
    intro x hx
    exact decide_eq_true (let_lt (h x hx))
  refine ⟨?_, ?_⟩
  · simp only [lowO]
    rw [if_pos ⟨by omega, h1⟩]
  · rw [List.all_map, List.all_eq_true]
    intro x hx
    exact lo_sm (h x hx)
/-- the signs that are no letters, and no blank -/
def sgL : List Nat := tSigns.filter fun c => !decide (c ∈ tBlankLetters)
theorem sgL_len : sgL.length = 41 := by decide
theorem sgL_ok : sgL.all signC = true := by decide
theorem sgL_at {i : Nat} (h : i < 41) : ∃ c, sgL[i]? = some c ∧ signC c = true := by
  have h' : i < sgL.length := by rw [sgL_len]; exact h
  exact ⟨sgL[i], List.getElem?_eq_getElem h', List.all_eq_true.mp sgL_ok _ (List.getElem_mem h')⟩
theorem sg_ok (c : D) : compF [4] (itF asStr (fnF 0 f_law_signs nilF)) (.nm 4) (tstF (bopF ninO (getE 4) (cD (.str tBlankLetters)))) (getE 4) [.dat c, .un, .un, .un, .un] = .ok (chD sgL) := by
  have e3 : chD sgL = ((chD tSigns).filter (fun d => match d with | .str [c] => !decide (c ∈ tBlankLetters) | _ => false)).map id := by
    simp [chD, sgL, List.filter_map, Function.comp_def]
  rw [e3]
  refine compF_ok (items := chD tSigns) (by simp [f_signs]) (by rw [chD_len, slE]; decide) (lcF_filter fun d hd => ?_)
  simp only [chD, List.mem_map] at hd
  obtain ⟨c, hc, rfl⟩ := hd
  exact ⟨_, by rw [setT_nm, setN_lf rfl], by simp [ninO, inB], fun _ => ⟨by simp, rfl⟩⟩
theorem at4 {a b c d : D} {i : Nat} (h : i < 4) : ∃ x, atI [a, b, c, d] (i : Nat) = some x ∧ (x = a ∨ x = b ∨ x = c ∨ x = d) := by
  match i, h with
  | 0, _ => exact ⟨a, atI_n rfl, .inl rfl⟩
  | 1, _ => exact ⟨b, atI_n rfl, .inr (.inl rfl)⟩
  | 2, _ => exact ⟨c, atI_n rfl, .inr (.inr (.inl rfl))⟩
  | 3, _ => exact ⟨d, atI_n rfl, .inr (.inr (.inr rfl))⟩
theorem at3 {a b c : D} {i : Nat} (h : i < 3) : ∃ x, atI [a, b, c] (i : Nat) = some x ∧ (x = a ∨ x = b ∨ x = c) := by
  match i, h with
  | 0, _ => exact ⟨a, atI_n rfl, .inl rfl⟩
  | 1, _ => exact ⟨b, atI_n rfl, .inr (.inl rfl)⟩
  | 2, _ => exact ⟨c, atI_n rfl, .inr (.inr rfl)⟩
theorem f_mixL (c : Int) (p : Int) (m : Int) (h0 : 0 < p) (h1 : p < 2 ^ 31) (hm : 0 < m) : ∃ r : Nat, f_law_mix [.int c, .int p, .int m] = .ok (.int (r : Nat)) ∧ (r : Int) < m := by
  obtain ⟨k, rfl⟩ : ∃ k : Nat, m = (k : Int) := ⟨m.toNat, by omega⟩
  exact ⟨mixN c p k, f_mixN c h0 h1 (by omega), by have := mixN_lt c p (m := k) (by omega); omega⟩
theorem lf_chD (l : List Nat) : lfAll (chD l) = true := by
  rw [lfAll_iff]
  intro d hd
  simp only [chD, List.mem_map] at hd
  obtain ⟨c, _, rfl⟩ := hd
  rfl
theorem f_lawrule (c : Int) : ∃ r : Rule, f_law_rule [.int c] = .ok r.d ∧ r.ok = true := by
  obtain ⟨way, hw, hw6⟩ := f_mixL c 9923 6 (by decide) (by decide) (by decide)
  unfold f_law_rule runD B_law_rule
  have hsg := sg_ok (.int c)
  have i1 : initE 5 [.int c] = [.dat (.int c), .un, .un, .un, .un] := rfl
  rw [i1]
  simp only [seqS_ap, asgL_ap, hsg, rb_ok, lf_chD, Bool.true_or, if_true, List.set, asgS_ap, fnF_ap, consF_ap, getE_dat, cD_ap, nilF_ap, List.length_cons, List.length_nil, hw, noX_ok, setT_nm, setN, lf_int, nxS_ok]
  match way, hw6 with
  | 0, _ =>
    obtain ⟨a1, e1, b1⟩ := f_mixL c 9907 6 (by decide) (by decide) (by decide)
    obtain ⟨a2, e2, b2⟩ := f_mixL c 9901 4 (by decide) (by decide) (by decide)
    obtain ⟨a3, e3, b3⟩ := f_mixL c 9887 4 (by decide) (by decide) (by decide)
    obtain ⟨l1, q1, q2, q3⟩ := f_letters c (m := a1 + 1) (by omega)
    obtain ⟨l2, p1, p2, p3⟩ := f_letters (c + 1) (m := 6) (by omega)
    obtain ⟨w1, w2⟩ := lowO_let q3 (by omega)
    obtain ⟨v1, v2⟩ := lowO_let p3 (by omega)
    have q1' : f_law_letters [.int c, .int (1 + (a1 : Nat))] = .ok (.str l1) := by
      have : ((a1 + 1 : Nat) : Int) = 1 + (a1 : Nat) := by omega
      rw [← this]; exact q1
    have p1' : f_law_letters [.int (c + 1), .int 6] = .ok (.str l2) := p1
    obtain ⟨x, hx, ox⟩ := at4 (a := .str [97]) (b := .str wTeh) (c := .str wThe) (d := .str (l1.map lo1)) (i := a2) (by omega)
    obtain ⟨y, hy, oy⟩ := at4 (a := .str []) (b := .str [97]) (c := .str wThe) (d := .str (l2.map lo1)) (i := a3) (by omega)
    have ex : ∃ w, x = .str w ∧ 1 ≤ w.length ∧ w.length ≤ 6 ∧ w.all isSm = true := by
      rcases ox with rfl | rfl | rfl | rfl
      · exact ⟨_, rfl, by decide, by decide, by decide⟩
      · exact ⟨_, rfl, by decide, by decide, by decide⟩
      · exact ⟨_, rfl, by decide, by decide, by decide⟩
      · exact ⟨_, rfl, by simp; omega, by simp; omega, w2⟩
    have ey : ∃ w, y = .str w ∧ w.length ≤ 6 ∧ w.all isSm = true := by
      rcases oy with rfl | rfl | rfl | rfl
      · exact ⟨_, rfl, by decide, by decide⟩
      · exact ⟨_, rfl, by decide, by decide⟩
      · exact ⟨_, rfl, by decide, by decide⟩
      · exact ⟨_, rfl, by simp; omega, v2⟩
    obtain ⟨w, rfl, hw1, hw2, hw3⟩ := ex
    obtain ⟨v, rfl, hv2, hv3⟩ := ey
    refine ⟨.word w v, ?_, by simp [Rule.ok, hw1, hw2, hw3, hv2, hv3]⟩
    simp [seqS_ap, e1, e2, e3, q1', p1', w1, v1, hx, hy, setN, slE, Rule.d]
  | 1, _ =>
    obtain ⟨a1, e1, b1⟩ := f_mixL c 9883 9 (by decide) (by decide) (by decide)
    refine ⟨.long (1 + a1), ?_, by simp [Rule.ok]; omega⟩
    simp [seqS_ap, e1, slE, Rule.d]
  | 2, _ =>
    obtain ⟨a1, e1, b1⟩ := f_mixL c 9871 41 (by decide) (by decide) (by decide)
    obtain ⟨a2, e2, b2⟩ := f_mixL c 9859 3 (by decide) (by decide) (by decide)
    obtain ⟨s, hs, os⟩ := sgL_at (i := a1) (by omega)
    obtain ⟨x, hx, ox⟩ := at3 (a := .str [33]) (b := .str [46]) (c := .str [s]) (i := a2) (by omega)
    have ex : ∃ w, x = .str [w] ∧ signC w = true := by
      rcases ox with rfl | rfl | rfl
      · exact ⟨_, rfl, by decide⟩
      · exact ⟨_, rfl, by decide⟩
      · exact ⟨_, rfl, os⟩
    obtain ⟨w, rfl, hw1⟩ := ex
    refine ⟨.sign w, ?_, hw1⟩
    have hc : (chD sgL).length = 41 := by rw [chD_len, sgL_len]
    have ha : atI (chD sgL) (a1 : Nat) = some (.str [s]) := atI_n (by simp [chD, hs])
    simp [seqS_ap, e1, e2, slE, Rule.d, hc, ha, hx]
  | way + 3, h =>
    have h3 : way < 3 := by omega
    obtain ⟨x, hx, ox⟩ := at3 (a := .tup [.str wTwice]) (b := .tup [.str wBlanks]) (c := .tup [.str wGreat]) (i := way) h3
    have ex : ∃ r : Rule, x = r.d ∧ r.ok = true := by
      rcases ox with rfl | rfl | rfl
      · exact ⟨.twice, rfl, rfl⟩
      · exact ⟨.blanks, rfl, rfl⟩
      · exact ⟨.great, rfl, rfl⟩
    obtain ⟨r, rfl, hr⟩ := ex
    refine ⟨r, ?_, hr⟩
    have n0 : ¬ ((way : Int) + 3 = 0) := by omega
    have n1 : ¬ ((way : Int) + 3 = 1) := by omega
    have n2 : ¬ ((way : Int) + 3 = 2) := by omega
    have n3 : (way : Int) + 3 - 3 = way := by omega
    simp [seqS_ap, n0, n1, n2, n3, hx, slE]
/-! ### loops, equality -/
theorem forF_inv {t : Tg} {B : En → Res Fl} {items : List D} (P : Nat → En → Prop) (hs : ∀ (i : Nat) d e, items[i]? = some d → P i e → ∃ e1 e2, setT t d e = .ok e1 ∧ B e1 = .ok (.nx e2) ∧ P (i + 1) e2) :
    ∀ {e : En}, P 0 e → ∃ e', forF t B items e = .ok (.nx e') ∧ P items.length e' := by
  have key : ∀ (n i : Nat) (e : En), n + i = items.length → P i e → ∃ e', forF t B (items.drop i) e = .ok (.nx e') ∧ P items.length e' := by
    intro n
    induction n with
    | zero =>
      intro i e hi p
      have : i = items.length := by omega
      subst this
      exact ⟨e, by simp [forF], p⟩
    | succ n ih =>
      intro i e hi p
      have hlt : i < items.length := by omega
      obtain ⟨e1, e2, h1, h2, h3⟩ := hs i _ e (List.getElem?_eq_getElem hlt) p
      obtain ⟨e', h4, h5⟩ := ih (i + 1) e2 (by omega) h3
      refine ⟨e', ?_, h5⟩
      rw [List.drop_eq_getElem_cons hlt]
      simp only [forF, h1, rb_ok, h2, h4]
  intro e p
  have := key items.length 0 e (by simp) p
  simpa using this
mutual
/-- no truths within -/
def D.nb : D → Bool
  | .bl _ => false
  | .tup xs => nbAll xs
  | .lst xs => nbAll xs
  | _ => true
def nbAll : List D → Bool
  | [] => true
  | d :: ds => d.nb && nbAll ds
end
mutual
theorem eqv_iff : ∀ (d e : D), d.nb = true → e.nb = true → (eqv d e = true ↔ d = e)
  | .non, e, _, _ => by cases e <;> simp [eqv]
  | .bl _, _, h, _ => by simp [D.nb] at h
  | .int _, e, _, h => by
    cases e with
    | bl b => simp [D.nb] at h
    | _ => simp [eqv]
  | .str x, e, _, _ => by cases e <;> simp [eqv]
  | .tup xs, e, h, h2 => by
    cases e with
    | tup ys => simp only [eqv, D.tup.injEq]; exact eqvAll_iff xs ys (by simpa [D.nb] using h) (by simpa [D.nb] using h2)
    | _ => simp [eqv]
  | .lst xs, e, h, h2 => by
    cases e with
    | lst ys => simp only [eqv, D.lst.injEq]; exact eqvAll_iff xs ys (by simpa [D.nb] using h) (by simpa [D.nb] using h2)
    | _ => simp [eqv]
theorem eqvAll_iff : ∀ (ds es : List D), nbAll ds = true → nbAll es = true → (eqvAll ds es = true ↔ ds = es)
  | [], es, _, _ => by cases es <;> simp [eqvAll]
  | d :: ds, es, h, h2 => by
    cases es with
    | nil => simp [eqvAll]
    | cons e es =>
      simp only [nbAll, Bool.and_eq_true] at h h2
      simp only [eqvAll, Bool.and_eq_true, List.cons.injEq, eqv_iff d e h.1 h2.1, eqvAll_iff ds es h.2 h2.2]
end
theorem nbAll_iff {ds : List D} : nbAll ds = true ↔ ∀ d ∈ ds, d.nb = true := by
  induction ds with
  | nil => simp [nbAll]
  | cons d ds ih => simp [nbAll, ih]
theorem Rule.nb (r : Rule) : r.d.nb = true := by cases r <;> simp [Rule.d, D.nb, nbAll]
theorem Rule.lf (r : Rule) : r.d.lf = true := by cases r <;> simp [Rule.d]
theorem eqv_rule (a b : Rule) : eqv a.d b.d = decide (a = b) := by
  rw [Bool.eq_iff_iff, eqv_iff _ _ a.nb b.nb, decide_eq_true_eq]
  exact ⟨Rule.d_inj, fun h => by rw [h]⟩
theorem Rule.okN {r : Rule} (h : r.ok = true) (n : Nat) : r.d.okN (n + 1) = true := by
  have := Rule.nice h
  cases r <;> (simp only [Rule.d, D.okN]; exact nice_ok this n)
theorem rules_ok {rs : List Rule} (h : ∀ r ∈ rs, r.ok = true) (n : Nat) : okAll (n + 1) (rs.map Rule.d) = true := by
  rw [okAll_iff]
  intro d hd
  obtain ⟨r, hr, rfl⟩ := List.mem_map.mp hd
  exact Rule.okN (h r hr) n
theorem any_rule (rs : List Rule) (r : Rule) : ((rs.map Rule.d).any fun z => eqv z r.d) = decide (r ∈ rs) := by
  rw [Bool.eq_iff_iff]
  simp only [List.any_eq_true, List.mem_map, decide_eq_true_eq]
  constructor
  · rintro ⟨d, ⟨a, ha, rfl⟩, h⟩
    rw [eqv_rule, decide_eq_true_eq] at h
    exact h ▸ ha
  · intro h
    exact ⟨r.d, ⟨r, h, rfl⟩, by rw [eqv_rule]; simp⟩
theorem inB_tup {d : D} {ds : List D} (h1 : d.okN 64 = true) (h2 : okAll 63 ds = true) : inB d (.tup ds) = some (ds.any fun z => eqv z d) := by
  have h : (d.okN 64 && okAll 63 ds) = true := by rw [h1, h2]; rfl
  cases d with
  | str l =>
    cases l with
    | nil => simp only [inB]; rw [if_pos h]
    | cons c r => cases r <;> (simp only [inB]; rw [if_pos h])
  | _ => simp only [inB]; rw [if_pos h]
theorem lfAll_rules (rs : List Rule) : lfAll (rs.map Rule.d) = true := by
  rw [lfAll_iff]
  intro d hd
  obtain ⟨r, hr, rfl⟩ := List.mem_map.mp hd
  exact r.lf
theorem f_lawrules (c : Int) : ∃ rs : List Rule, f_law_rules [.int c] = .ok (.tup (rs.map Rule.d)) ∧ 1 ≤ rs.length ∧ rs.length ≤ 4 ∧ rs.Nodup ∧ ∀ r ∈ rs, r.ok = true := by
  obtain ⟨n, hn, hn4⟩ := f_mixL c 9857 4 (by decide) (by decide) (by decide)
  have hit : ∀ e : En, getE 0 e = .ok (.int c) → itF asRng1 (consF (bopF addO (cD (.int 1)) (fnF 3 f_law_mix (consF (getE 0) (consF (cD (.int 9857)) (consF (cD (.int 4)) nilF))))) nilF) e = .ok (rgD 0 (n + 1)) := by
    intro e he
    have e1 : (1 : Int) + (n : Nat) = ((n + 1 : Nat) : Int) := by omega
    simp only [itF_ap, consF_ap, bopF_ap, cD_ap, rb_ok, fnF_ap, he, nilF_ap, List.length_cons, List.length_nil, if_true, hn, noX_ok, addO_ii, ofO_some, e1]
    exact asRng1_nat (n := n + 1) (by omega)
  let P : Nat → En → Prop := fun i e => ∃ (rs : List Rule) (x y : Sl), e = [.dat (.int c), .dat (.tup (rs.map Rule.d)), x, y] ∧ noOwn [x, y] = true ∧ rs.length ≤ i ∧ (1 ≤ i → 1 ≤ rs.length) ∧ rs.Nodup ∧ ∀ r ∈ rs, r.ok = true
  obtain ⟨e', h1, rs, x, y, rfl, _, h2, h3, h4, h5⟩ := forF_inv (t := .nm 2) (B := (seqS (asgS (.nm 3) (fnF 1 f_law_rule (consF (bopF addO (getE 0) (bopF mulI (cD (.int 19)) (getE 2))) nilF)))
  (ifS (tstF (bopF ninO (getE 3) (getE 1))) (asgS (.nm 1) (bopF addO (getE 1) (tupF (consF (getE 3) nilF)))) nilS))) (items := rgD 0 (n + 1)) P (fun i d e hd he => by
      obtain ⟨rs, x, y, rfl, hno, h2, h3, h4, h5⟩ := he
      have hi : i < n + 1 := by have := (List.getElem?_eq_some_iff.mp hd).1; simpa [rgD] using this
      have hd' : d = .int (0 + (i : Nat)) := by
        simp [rgD, hi] at hd
        rw [← hd]; simp
      subst hd'
      obtain ⟨r, hr, hro⟩ := f_lawrule (c + 19 * (0 + (i : Nat)))
      have hm : ((19 : Int).natAbs < 2 ^ 64 ∨ (0 + ((i : Nat) : Int)).natAbs < 2 ^ 64) := .inl (by decide)
      have hin := inB_tup (d := r.d) (ds := rs.map Rule.d) (Rule.okN hro 63) (rules_ok h5 62)
      rw [any_rule] at hin
      refine ⟨[.dat (.int c), .dat (.tup (rs.map Rule.d)), .dat (.int (0 + (i : Nat))), y], ?_⟩
      by_cases hr2 : r ∈ rs
      · rw [decide_eq_true hr2] at hin
        refine ⟨[.dat (.int c), .dat (.tup (rs.map Rule.d)), .dat (.int (0 + (i : Nat))), .dat r.d], by simp [setN], ?_, rs, _, _, rfl, by simp, by omega, fun _ => by have := List.length_pos_of_mem hr2; omega, h4, h5⟩
        simp only [seqS_ap, asgS_ap, fnF_ap, consF_ap, bopF_ap, getE_dat, getE_1, getE_2, getE_3, rb_ok, cD_ap, mulI_ii, if_pos hm, ofO_some, addO_ii, nilF_ap, List.length_cons, List.length_nil, hr, noX_ok, setT_nm, setN_lf r.lf, List.set, nxS_ok, ifS_ap, tstF_ap, ninO, hin, Option.map_some, isBl_ap, Bool.not_true, Bool.false_eq_true, if_false, nilS_ap, if_true]
      · rw [decide_eq_false hr2] at hin
        have hadd : addO (.tup (rs.map Rule.d)) (.tup [r.d]) = some (.tup ((rs ++ [r]).map Rule.d)) := by
          rw [addO_tt (by rw [slE]; simp; omega)]; simp
        refine ⟨[.dat (.int c), .dat (.tup ((rs ++ [r]).map Rule.d)), .dat (.int (0 + (i : Nat))), .dat r.d], by simp [setN], ?_, rs ++ [r], _, _, rfl, by simp, by simp; omega, fun _ => by simp, ?_, ?_⟩
        · simp only [seqS_ap, asgS_ap, fnF_ap, consF_ap, bopF_ap, getE_dat, getE_1, getE_2, getE_3, rb_ok, cD_ap, mulI_ii, if_pos hm, ofO_some, addO_ii, nilF_ap, List.length_cons, List.length_nil, hr, noX_ok, setT_nm, setN_lf r.lf, List.set, nxS_ok, ifS_ap, tstF_ap, ninO, hin, Option.map_some, isBl_ap, Bool.not_false, if_true, nilS_ap, tupF_ap]
          rw [if_pos (by rw [slE]; decide)]
          simp only [ofO_some, rb_ok, hadd]
          rw [setN_lf (by rw [lf_tup]; exact lfAll_rules _)]
          rfl
        · rw [List.nodup_append]
          refine ⟨h4, by simp, ?_⟩
          intro a ha b hb
          simp at hb
          subst hb
          rintro rfl
          exact hr2 ha
        · intro a ha
          rcases List.mem_append.mp ha with ha | ha
          · exact h5 a ha
          · simp at ha; subst ha; exact hro) (e := [.dat (.int c), .dat (.tup []), .un, .un]) ⟨[], .un, .un, rfl, rfl, Nat.le_refl _, fun h => by omega, by simp, fun _ h => by cases h⟩
  refine ⟨rs, ?_, h3 (by rw [rgD_len]; omega), by rw [rgD_len] at h2; omega, h4, h5⟩
  unfold f_law_rules runD B_law_rules
  have hit' := hit [.dat (.int c), .dat (.tup []), .un, .un] rfl
  simp only [seqS_ap, initE_cons, initE_nil, List.replicate, asgS_ap, tupF_ap, nilF_ap, rb_ok, List.length_nil, setT_nm]
  rw [if_pos (Nat.zero_le _)]
  simp only [ofO_some, rb_ok, setN, lf_tup, lfAll_nil, Bool.true_or, if_true, List.set, nxS_ok, forS_ap, hit', h1, retS_ap, getE_1, getE_dat]
end FM

set_option Elab.async false
set_option linter.all false
set_option maxRecDepth 100000
/-! FMU: more readings opened; loops. -/
namespace FM
open PySem PyProof.Rows L2
theorem le_sz {n : Nat} (h : n ≤ 1000000) : n ≤ sizeLine := by rw [slE]; omega
theorem lt_sz {n : Nat} (h : n < 1000000) : n < sizeLine := by rw [slE]; omega
theorem asg_lf {i : Nat} {f : En → Res D} {e : En} {d : D} (h : d.lf = true) (hf : f e = .ok d) : asgS (.nm i) f e = .ok (.nx (e.set i (.dat d))) := by
  simp [hf, setN_lf h]
theorem ix_str {t : List Nat} {i : Nat} {c : Nat} (hl : t.length ≤ 1000) (h : t[i]? = some c) : ixO (.str t) (.int (i : Nat)) = some (.str [c]) := by
  rw [ixO_str (le_sz (by omega)), atI_n h]; rfl
theorem len_str {t : List Nat} (hl : t.length ≤ 1000) : lenO [.str t] = some (.int (t.length : Nat)) := lenO_str (le_sz (by omega))
theorem in_chr {c : Nat} {b : List Nat} : inO (.str [c]) (.str b) = some (.bl (decide (c ∈ b))) := rfl
theorem ofO_le {α : Type} {n : Nat} {a : α} (h : n ≤ 1000000) : (ofO (if n ≤ sizeLine then some a else none) : Res α) = .ok a := by
  rw [if_pos (le_sz h)]; rfl
theorem ifS_yes {t : En → Res Bool} {A B : En → Res Fl} {e : En} (h : t e = .ok true) : ifS t A B e = A e := by rw [ifS_ap, h, rb_ok, if_pos rfl]
theorem ifS_no {t : En → Res Bool} {A B : En → Res Fl} {e : En} (h : t e = .ok false) : ifS t A B e = B e := by rw [ifS_ap, h, rb_ok, if_neg Bool.false_ne_true]
theorem app_own {i : Nat} {f : En → Res D} {e : En} {xs : List D} {d : D} (h : e[i]? = some (.own xs)) (hf : f e = .ok d) (hl : d.lf = true) (hn : xs.length < 1000000) : appS i f e = .ok (.nx (e.set i (.own (xs ++ [d])))) := by
  unfold appS
  simp only [h, hf, rb_ok]
  rw [if_pos ⟨hl, lt_sz hn⟩]
theorem tup2 {fa fb : En → Res D} {e : En} {a b : D} (h1 : fa e = .ok a) (h2 : fb e = .ok b) : tupF (consF fa (consF fb nilF)) e = .ok (.tup [a, b]) := by
  simp only [tupF_ap, consF_ap, h1, h2, rb_ok, nilF_ap, List.length_cons, List.length_nil]
  exact ofO_le (by omega)
theorem tup3 {fa fb fc : En → Res D} {e : En} {a b c : D} (h1 : fa e = .ok a) (h2 : fb e = .ok b) (h3 : fc e = .ok c) : tupF (consF fa (consF fb (consF fc nilF))) e = .ok (.tup [a, b, c]) := by
  simp only [tupF_ap, consF_ap, h1, h2, h3, rb_ok, nilF_ap, List.length_cons, List.length_nil]
  exact ofO_le (by omega)
theorem tup4 {fa fb fc fd : En → Res D} {e : En} {a b c d : D} (h1 : fa e = .ok a) (h2 : fb e = .ok b) (h3 : fc e = .ok c) (h4 : fd e = .ok d) : tupF (consF fa (consF fb (consF fc (consF fd nilF)))) e = .ok (.tup [a, b, c, d]) := by
  simp only [tupF_ap, consF_ap, h1, h2, h3, h4, rb_ok, nilF_ap, List.length_cons, List.length_nil]
  exact ofO_le (by omega)
theorem retO_own {i : Nat} {e : En} {xs : List D} (h : e[i]? = some (.own xs)) : retO i e = .ok (.rl xs) := by
  unfold retO
  simp only [h]
theorem tst_bop {g : D → D → Option D} {fa fb : En → Res D} {e : En} {x y : D} {b : Bool} (h1 : fa e = .ok x) (h2 : fb e = .ok y) (h3 : g x y = some (.bl b)) : tstF (bopF g fa fb) e = .ok b := by
  simp [h1, h2, h3]
theorem while_done {t : En → Res Bool} {B : En → Res Fl} {e : En} (h : t e = .ok false) : whileS t B e = .ok (.nx e) := whileS_false h
/-! ### runs of signs -/
/-- the runs of signs with p, from the place k on -/
def runs (p : Nat → Bool) (k : Nat) (l : List Nat) : List (Nat × Nat) :=
  match l with
  | [] => []
  | c :: r =>
    if p c then (k, k + ((c :: r).takeWhile p).length) :: runs p (k + ((c :: r).takeWhile p).length + 1) ((c :: r).drop (((c :: r).takeWhile p).length + 1))
    else runs p (k + 1) r
termination_by l.length
decreasing_by
  · simp only [List.length_drop, List.length_cons]; omega
  · simp
def wD (w : Nat × Nat) : D := .tup [.int (w.1 : Nat), .int (w.2 : Nat)]
theorem wD_lf (ws : List (Nat × Nat)) : lfAll (ws.map wD) = true := by
  rw [lfAll_iff]
  intro d hd
  obtain ⟨w, _, rfl⟩ := List.mem_map.mp hd
  rfl
theorem runs_len (p : Nat → Bool) : ∀ (n k : Nat) (l : List Nat), l.length ≤ n → (runs p k l).length ≤ l.length
  | 0, k, l, h => by
    have : l = [] := List.eq_nil_of_length_eq_zero (by omega)
    subst this
    simp [runs]
  | n + 1, k, [], _ => by simp [runs]
  | n + 1, k, c :: r, h => by
    rw [runs]
    split
    · have := runs_len p n (k + ((c :: r).takeWhile p).length + 1) ((c :: r).drop (((c :: r).takeWhile p).length + 1)) (by simp only [List.length_drop, List.length_cons] at h ⊢; omega)
      simp only [List.length_drop, List.length_cons] at this ⊢
      omega
    · have := runs_len p n (k + 1) r (by simpa using h)
      simp only [List.length_cons]
      omega
/-- what comes behind: the first sign without p, or the end -/
theorem drop_takeWhile {p : Nat → Bool} {l : List Nat} : ∀ c, l[(l.takeWhile p).length]? = some c → p c = false := by
  induction l with
  | nil => simp
  | cons a r ih =>
    intro c h
    by_cases ha : p a = true
    · simp only [List.takeWhile_cons, ha, if_true, List.length_cons, List.getElem?_cons_succ] at h
      exact ih c h
    · simp only [List.takeWhile_cons, ha, Bool.false_eq_true, if_false, List.length_nil, List.getElem?_cons_zero, Option.some.injEq] at h
      subst h
      simpa using ha
noncomputable def tIn : En → Res Bool := andF (tstF (bopF ltO (getE 4) (callF lenO (consF (getE 0) nilF)))) (tstF (bopF inO (bopF ixO (getE 0) (getE 4)) (getE 1)))
noncomputable def bIn : En → Res Fl := asgS (.nm 4) (bopF addO (getE 4) (cD (.int 1)))
theorem inner_run {t sg : List Nat} {x2 : Sl} {x3 : D} (ht : t.length ≤ 1000) : ∀ (n k : Nat), t.length - k = n → k ≤ t.length →
    whileS tIn bIn [.dat (.str t), .dat (.str sg), x2, .dat x3, .dat (.int (k : Nat))] = .ok (.nx [.dat (.str t), .dat (.str sg), x2, .dat x3, .dat (.int ((k + ((t.drop k).takeWhile fun c => decide (c ∈ sg)).length : Nat) : Int))])
  | 0, k, h, hk => by
    have : k = t.length := by omega
    subst this
    rw [whileS_false]
    · simp
    · have : ¬ ((t.length : Nat) : Int) < (t.length : Nat) := by omega
      simp [tIn, len_str ht]
  | n + 1, k, h, hk => by
    have hlt : k < t.length := by omega
    have hc := List.getElem?_eq_getElem hlt
    have hlt' : ((k : Nat) : Int) < (t.length : Nat) := by omega
    have hd : t.drop k = t[k] :: t.drop (k + 1) := List.drop_eq_getElem_cons hlt
    have htest : tIn [.dat (.str t), .dat (.str sg), x2, .dat x3, .dat (.int (k : Nat))] = .ok (decide (t[k] ∈ sg)) := by
      simp [tIn, len_str ht, hlt, ix_str ht hc, in_chr]
    by_cases hp : t[k] ∈ sg
    · rw [decide_eq_true hp] at htest
      rw [whileS_true (e1 := [.dat (.str t), .dat (.str sg), x2, .dat x3, .dat (.int ((k + 1 : Nat) : Int))]) htest (by
        unfold bIn
        rw [asg_lf (d := .int ((k + 1 : Nat) : Int)) rfl (by simp)]
        rfl), inner_run ht n (k + 1) (by omega) (by omega)]
      rw [hd, List.takeWhile_cons, if_pos (decide_eq_true hp), List.length_cons]
      rw [show k + 1 + (List.takeWhile (fun c => decide (c ∈ sg)) (t.drop (k + 1))).length = k + ((List.takeWhile (fun c => decide (c ∈ sg)) (t.drop (k + 1))).length + 1) by omega]
    · rw [decide_eq_false hp] at htest
      rw [whileS_false htest, hd, List.takeWhile_cons, if_neg (by simp [hp])]
      simp
noncomputable def bOut : En → Res Fl := (seqS (asgS (.nm 4) (getE 3))
  (seqS (whileS tIn bIn)
  (seqS (ifS (tstF (bopF gtO (getE 4) (getE 3))) (appS 2 (tupF (consF (getE 3) (consF (getE 4) nilF)))) nilS)
  (asgS (.nm 3) (bopF addO (getE 4) (cD (.int 1)))))))
noncomputable def tOut : En → Res Bool := tstF (bopF ltO (getE 3) (callF lenO (consF (getE 0) nilF)))
theorem runs_step (p : Nat → Bool) (k : Nat) (l : List Nat) (h : l ≠ []) : runs p k l = (if (l.takeWhile p).length > 0 then [(k, k + (l.takeWhile p).length)] else []) ++ runs p (k + (l.takeWhile p).length + 1) (l.drop ((l.takeWhile p).length + 1)) := by
  cases l with
  | nil => exact absurd rfl h
  | cons c r =>
    by_cases hc : p c = true
    · conv => lhs; rw [runs]
      rw [if_pos hc]
      have : (List.takeWhile p (c :: r)).length > 0 := by simp [List.takeWhile_cons, hc]
      rw [if_pos this]
      rfl
    · conv => lhs; rw [runs]
      rw [if_neg hc]
      have : (List.takeWhile p (c :: r)).length = 0 := by simp [List.takeWhile_cons, hc]
      rw [this]
      simp
theorem bOut_run {t sg : List Nat} {ws : List (Nat × Nat)} {k : Nat} {x4 : Sl} (ht : t.length ≤ 1000) (hk : k ≤ t.length) (hw : ws.length ≤ 1000) :
    bOut [.dat (.str t), .dat (.str sg), .own (ws.map wD), .dat (.int (k : Nat)), x4] = .ok (.nx [.dat (.str t), .dat (.str sg), .own ((ws ++ (if ((t.drop k).takeWhile fun c => decide (c ∈ sg)).length > 0 then [(k, k + ((t.drop k).takeWhile fun c => decide (c ∈ sg)).length)] else [])).map wD),
      .dat (.int ((k + ((t.drop k).takeWhile fun c => decide (c ∈ sg)).length + 1 : Nat) : Int)), .dat (.int ((k + ((t.drop k).takeWhile fun c => decide (c ∈ sg)).length : Nat) : Int))]) := by
  unfold bOut
  rw [seqS_nx (asg_lf (d := .int (k : Nat)) rfl (by simp))]
  simp only [List.set]
  rw [seqS_nx (inner_run ht _ k rfl hk)]
  generalize ((t.drop k).takeWhile fun c => decide (c ∈ sg)).length = m
  have hif : ifS (tstF (bopF gtO (getE 4) (getE 3))) (appS 2 (tupF (consF (getE 3) (consF (getE 4) nilF)))) nilS [.dat (.str t), .dat (.str sg), .own (ws.map wD), .dat (.int (k : Nat)), .dat (.int ((k + m : Nat) : Int))] =
      .ok (.nx [.dat (.str t), .dat (.str sg), .own ((ws ++ (if m > 0 then [(k, k + m)] else [])).map wD), .dat (.int (k : Nat)), .dat (.int ((k + m : Nat) : Int))]) := by
    have htst : tstF (bopF gtO (getE 4) (getE 3)) [.dat (.str t), .dat (.str sg), .own (ws.map wD), .dat (.int (k : Nat)), .dat (.int ((k + m : Nat) : Int))] = .ok (decide (m > 0)) := by
      refine (tst_bop (x := .int ((k + m : Nat) : Int)) (y := .int (k : Nat)) (by simp) (by simp) gtO_ii).trans ?_
      congr 1
      rw [Bool.eq_iff_iff, decide_eq_true_eq, decide_eq_true_eq]
      omega
    by_cases hm : m > 0
    · rw [decide_eq_true hm] at htst
      rw [ifS_yes htst, app_own (xs := ws.map wD) (d := wD (k, k + m)) rfl (tup2 (by simp) (by simp)) rfl (by simp; omega), if_pos hm]
      simp
    · rw [decide_eq_false hm] at htst
      rw [ifS_no htst, if_neg hm, List.append_nil]
      rfl
  rw [seqS_nx hif, asg_lf (d := .int ((k + m + 1 : Nat) : Int)) rfl (by simp)]
  rfl
end FM

set_option Elab.async false
set_option linter.all false
set_option maxRecDepth 100000
/-! W02: words. -/
namespace FM
open PySem PyProof.Rows L2
theorem tOut_eq {t sg : List Nat} {x2 x4 : Sl} {k : Nat} (ht : t.length ≤ 1000) : tOut [.dat (.str t), .dat (.str sg), x2, .dat (.int (k : Nat)), x4] = .ok (decide (k < t.length)) := by
  unfold tOut
  refine (tst_bop (x := .int (k : Nat)) (y := .int (t.length : Nat)) (by simp) (by simp [len_str ht]) ltO_ii).trans ?_
  congr 1
  rw [Bool.eq_iff_iff, decide_eq_true_eq, decide_eq_true_eq]
  omega
theorem out_run {t sg : List Nat} (ht : t.length ≤ 1000) : ∀ (n k : Nat) (ws : List (Nat × Nat)) (x4 : Sl), t.length + 1 - k ≤ n → k ≤ t.length + 1 → ws.length ≤ k → ∃ k' x4', 
    whileS tOut bOut [.dat (.str t), .dat (.str sg), .own (ws.map wD), .dat (.int (k : Nat)), x4] = .ok (.nx [.dat (.str t), .dat (.str sg), .own ((ws ++ runs (fun c => decide (c ∈ sg)) k (t.drop k)).map wD), .dat (.int (k' : Nat)), x4'])
  | n, k, ws, x4, hn, hk, hw => by
    by_cases hlt : k < t.length
    · have hne : t.drop k ≠ [] := by
        intro z
        have := congrArg List.length z
        simp at this
        omega
      have htk : ((t.drop k).takeWhile fun c => decide (c ∈ sg)).length ≤ t.length - k := by
        have := (List.takeWhile_prefix (l := t.drop k) (fun c => decide (c ∈ sg))).length_le
        simpa using this
      rw [whileS_true (by rw [tOut_eq ht, decide_eq_true hlt]) (bOut_run ht (by omega) (by omega)), runs_step _ k _ hne]
      rw [List.drop_drop, ← List.append_assoc]
      match n with
      | 0 => omega
      | n + 1 =>
        obtain ⟨k', x', h⟩ := out_run ht n (k + ((t.drop k).takeWhile fun c => decide (c ∈ sg)).length + 1) (ws ++ (if ((t.drop k).takeWhile fun c => decide (c ∈ sg)).length > 0 then [(k, k + ((t.drop k).takeWhile fun c => decide (c ∈ sg)).length)] else [])) (.dat (.int ((k + ((t.drop k).takeWhile fun c => decide (c ∈ sg)).length : Nat) : Int))) (by omega) (by omega) (by
          split <;> simp <;> omega)
        exact ⟨k', x', by rw [h]; rw [Nat.add_assoc k]⟩
    · rw [whileS_false (by rw [tOut_eq ht, decide_eq_false hlt])]
      have : t.drop k = [] := List.drop_eq_nil_of_le (by omega)
      rw [this]
      exact ⟨k, x4, by simp [runs]⟩
theorem f_stretch {t sg : List Nat} (ht : t.length ≤ 1000) : f_stretches [.str t, .str sg] = .ok ((runs (fun c => decide (c ∈ sg)) 0 t).map wD) := by
  unfold f_stretches runL
  have hB : B_stretches = seqS (asgO 2 (lstF nilF)) (seqS (asgS (.nm 3) (cD (.int 0))) (seqS (whileS tOut bOut) (retO 2))) := rfl
  have e0 : initE 5 [.str t, .str sg] = [.dat (.str t), .dat (.str sg), .un, .un, .un] := rfl
  obtain ⟨k', x', h⟩ := out_run (sg := sg) ht (t.length + 1) 0 [] .un (by omega) (by omega) (by simp)
  rw [hB, e0, seqS_nx (e1 := [.dat (.str t), .dat (.str sg), .own [], .un, .un]) (by simp [ofO_le]), seqS_nx (asg_lf (d := .int 0) rfl rfl)]
  simp only [List.set]
  have h' : whileS tOut bOut [.dat (.str t), .dat (.str sg), .own [], .dat (.int 0), .un] = _ := h
  rw [seqS_nx h', retO_own rfl]
  simp
/-! ### the law's words -/
def addW (p : Nat → Bool) (found : List (Nat × Nat)) (k c : Nat) : List (Nat × Nat) :=
  if p c then (match found.getLast? with
    | some w => if w.2 = k then found.dropLast ++ [(w.1, k + 1)] else found ++ [(k, k + 1)]
    | none => found ++ [(k, k + 1)]) else found
def fw (p : Nat → Bool) (found : List (Nat × Nat)) (k : Nat) : List Nat → List (Nat × Nat)
  | [] => found
  | c :: r => fw p (addW p found k c) (k + 1) r
theorem fw_run (p : Nat → Bool) (found : List (Nat × Nat)) (a : Nat) : ∀ (l : List Nat) (k : Nat), fw p (found ++ [(a, k)]) k l = fw p (found ++ [(a, k + (l.takeWhile p).length)]) (k + (l.takeWhile p).length) (l.drop (l.takeWhile p).length)
  | [], k => by simp
  | c :: r, k => by
    by_cases hc : p c = true
    · have e1 : addW p (found ++ [(a, k)]) k c = found ++ [(a, k + 1)] := by simp [addW, hc]
      rw [fw, e1, fw_run p found a r (k + 1)]
      simp only [List.takeWhile_cons, hc, if_true, List.length_cons, List.drop_succ_cons]
      rw [show k + 1 + (r.takeWhile p).length = k + ((r.takeWhile p).length + 1) by omega]
    · simp [List.takeWhile_cons, hc]
theorem fw_runs (p : Nat → Bool) : ∀ (n : Nat) (l : List Nat) (k : Nat) (found : List (Nat × Nat)), l.length ≤ n → (∀ w, found.getLast? = some w → w.2 < k) → fw p found k l = found ++ runs p k l
  | _, [], k, found, _, _ => by simp [fw, runs]
  | 0, c :: r, k, found, h, _ => by simp at h
  | n + 1, c :: r, k, found, h, hf => by
    by_cases hc : p c = true
    · have e1 : addW p found k c = found ++ [(k, k + 1)] := by
        unfold addW
        rw [if_pos hc]
        split
        · rename_i w hw
          have := hf w hw
          rw [if_neg (by omega)]
        · rfl
      rw [fw, e1, fw_run]
      conv => rhs; rw [runs]
      rw [if_pos hc]
      simp only [List.takeWhile_cons, hc, if_true, List.length_cons, List.drop_succ_cons]
      have hlen : (r.takeWhile p).length ≤ r.length := (List.takeWhile_prefix (l := r) p).length_le
      cases hd : r.drop (r.takeWhile p).length with
      | nil =>
        have : r.drop ((r.takeWhile p).length + 1) = [] := by
          have := congrArg (List.drop 1) hd
          rw [List.drop_drop] at this
          simpa using this
        rw [this]
        simp only [fw, runs]
        rw [show k + 1 + (r.takeWhile p).length = k + ((r.takeWhile p).length + 1) by omega]
      | cons d r2 =>
        have hpd : p d = false := drop_takeWhile (l := r) (p := p) d (by rw [← List.head?_drop, hd]; rfl)
        have h2 : r.drop ((r.takeWhile p).length + 1) = r2 := by
          have := congrArg (List.drop 1) hd
          rw [List.drop_drop] at this
          simpa using this
        have e2 : addW p (found ++ [(k, k + 1 + (r.takeWhile p).length)]) (k + 1 + (r.takeWhile p).length) d = found ++ [(k, k + 1 + (r.takeWhile p).length)] := by simp [addW, hpd]
        rw [fw, e2, h2, fw_runs p n r2 _ _ ?_ ?_]
        · rw [List.append_assoc]
          simp only [List.singleton_append]
          rw [show k + 1 + (r.takeWhile p).length = k + ((r.takeWhile p).length + 1) by omega]
        · have := congrArg List.length hd
          simp only [List.length_drop, List.length_cons] at this h
          omega
        · intro w hw
          simp at hw
          subst hw
          simp
    · have e1 : addW p found k c = found := by simp [addW, hc]
      rw [fw, e1, fw_runs p n r (k + 1) found (by simpa using h) (fun w hw => by have := hf w hw; omega)]
      conv => rhs; rw [runs]
      rw [if_neg hc]
def lastEnd (ws : List (Nat × Nat)) (k : Nat) : Prop := ∃ w, ws.getLast? = some w ∧ w.2 = k
noncomputable def bW : En → Res Fl := (ifS (tstF (bopF inO (getE 3) (cD (.str tLetters)))) (ifS (andF (truF (getE 1)) (tstF (bopF eqO (bopF ixO (bopF ixO (getE 1) (uopF negI (cD (.int 1)))) (cD (.int 1))) (getE 2)))) (stoS 1 (uopF negI (cD (.int 1))) (tupF (consF (bopF ixO (bopF ixO (getE 1) (uopF negI (cD (.int 1)))) (cD (.int 0))) (consF (bopF addO (getE 2) (cD (.int 1))) nilF)))) (appS 1 (tupF (consF (getE 2) (consF (bopF addO (getE 2) (cD (.int 1))) nilF))))) nilS)
theorem atI_m1 {α : Type} {l : List α} {x : α} (h : l.getLast? = some x) : atI l (-1) = some x := by
  have hne : l ≠ [] := by rintro rfl; cases h
  have e : l = l.dropLast ++ [x] := by
    have h2 := List.getLast?_eq_some_getLast hne
    rw [h] at h2
    have h3 := List.dropLast_concat_getLast hne
    rw [← Option.some.inj h2] at h3
    exact h3.symm
  rw [e]
  exact atI_last _ _
theorem ixN_m1 {n : Nat} (h : 0 < n) : ixN n (-1) = some (n - 1) := by
  unfold ixN
  simp
  omega
theorem set_last {α : Type} {l : List α} {x : α} (h : l ≠ []) : l.set (l.length - 1) x = l.dropLast ++ [x] := by
  have e := List.dropLast_concat_getLast h
  conv => lhs; rw [← e]
  have hl : (l.dropLast).length = l.length - 1 := by simp
  rw [List.length_append, hl, List.length_singleton, Nat.sub_add_cancel (by have := List.length_pos_iff.mpr h; omega)]
  rw [List.set_append_right _ _ (by rw [hl]; exact Nat.le_refl _), hl, Nat.sub_self]
  rfl
theorem bW_run {t : List Nat} {ws : List (Nat × Nat)} {k c : Nat} (hw : ws.length ≤ 1000) : bW [.dat (.str t), .own (ws.map wD), .dat (.int (k : Nat)), .dat (.str [c])] =
    .ok (.nx [.dat (.str t), .own ((addW (fun c => decide (c ∈ tLetters)) ws k c).map wD), .dat (.int (k : Nat)), .dat (.str [c])]) := by
  unfold bW
  have h0 : tstF (bopF inO (getE 3) (cD (.str tLetters))) [.dat (.str t), .own (ws.map wD), .dat (.int (k : Nat)), .dat (.str [c])] = .ok (decide (c ∈ tLetters)) := tst_bop (x := .str [c]) (y := .str tLetters) (by simp) rfl in_chr
  have happ : appS 1 (tupF (consF (getE 2) (consF (bopF addO (getE 2) (cD (.int 1))) nilF))) [.dat (.str t), .own (ws.map wD), .dat (.int (k : Nat)), .dat (.str [c])] = .ok (.nx [.dat (.str t), .own ((ws ++ [(k, k + 1)]).map wD), .dat (.int (k : Nat)), .dat (.str [c])]) := by
    rw [app_own (xs := ws.map wD) (d := wD (k, k + 1)) rfl (tup2 (by simp) (by simp)) rfl (by simp; omega)]
    simp
  by_cases hc : c ∈ tLetters
  · rw [decide_eq_true hc] at h0
    rw [ifS_yes h0]
    unfold addW
    simp only [decide_eq_true hc, if_true]
    cases hl : ws.getLast? with
    | none =>
      have : ws = [] := by simpa using hl
      subst this
      rw [ifS_no (by simp)]
      exact happ
    | some w =>
      have hne : ws ≠ [] := by rintro rfl; cases hl
      have hlD : (ws.map wD).getLast? = some (wD w) := by simp [List.getLast?_map, hl]
      have hix : bopF ixO (getE 1) (uopF negI (cD (.int 1))) [.dat (.str t), .own (ws.map wD), .dat (.int (k : Nat)), .dat (.str [c])] = .ok (wD w) := by
        simp only [bopF_ap, getE_1, getE_own, rb_ok, uopF_ap, cD_ap, negI_i, ofO_some, ixO_lst]
        rw [atI_m1 hlD]
        rfl
      have hw1 : atI [D.int (w.1 : Nat), .int (w.2 : Nat)] 1 = some (.int (w.2 : Nat)) := atI_n (i := 1) rfl
      have ht : andF (truF (getE 1)) (tstF (bopF eqO (bopF ixO (bopF ixO (getE 1) (uopF negI (cD (.int 1)))) (cD (.int 1))) (getE 2))) [.dat (.str t), .own (ws.map wD), .dat (.int (k : Nat)), .dat (.str [c])] = .ok (decide (w.2 = k)) := by
        have h2 : tstF (bopF eqO (bopF ixO (bopF ixO (getE 1) (uopF negI (cD (.int 1)))) (cD (.int 1))) (getE 2)) [.dat (.str t), .own (ws.map wD), .dat (.int (k : Nat)), .dat (.str [c])] = .ok (((w.2 : Nat) : Int) == ((k : Nat) : Int)) := by
          refine tst_bop (x := .int (w.2 : Nat)) (y := .int (k : Nat)) ?_ (by simp) eqO_ii
          rw [bopF_ap, hix, rb_ok, cD_ap, rb_ok]
          show ofO (atI [D.int (w.1 : Nat), .int (w.2 : Nat)] 1) = _
          rw [hw1]
          rfl
        have hemp : (ws.map wD).isEmpty = false := by simp [hne]
        rw [andF_ap, truF_ap, getE_1, getE_own, rb_ok, truD_lst, hemp, rb_ok]
        simp only [Bool.not_false, if_true, h2]
        congr 1
        rw [Bool.eq_iff_iff, beq_iff_eq, decide_eq_true_eq]
        omega
      by_cases hk : w.2 = k
      · rw [decide_eq_true hk] at ht
        rw [ifS_yes ht]
        simp only [if_pos hk]
        have hf : tupF (consF (bopF ixO (bopF ixO (getE 1) (uopF negI (cD (.int 1)))) (cD (.int 0))) (consF (bopF addO (getE 2) (cD (.int 1))) nilF)) [.dat (.str t), .own (ws.map wD), .dat (.int (k : Nat)), .dat (.str [c])] = .ok (wD (w.1, k + 1)) := by
          refine tup2 ?_ (by simp)
          rw [bopF_ap, hix, rb_ok, cD_ap, rb_ok]
          rfl
        have hlen : 0 < (ws.map wD).length := by simp; exact List.length_pos_iff.mpr hne
        unfold stoS
        simp only [List.getElem?_cons_succ, List.getElem?_cons_zero, hf, rb_ok, uopF_ap, cD_ap, negI_i, ofO_some, ixN_m1 hlen]
        have hlf : (wD (w.1, k + 1)).lf = true := rfl
        rw [if_pos hlf, set_last (by simpa using hne)]
        simp [List.map_dropLast]
      · rw [decide_eq_false hk] at ht
        rw [ifS_no ht]
        simp only [if_neg hk]
        exact happ
  · rw [decide_eq_false hc] at h0
    rw [ifS_no h0]
    simp [addW, hc]
theorem fw_snoc (p : Nat → Bool) (c : Nat) : ∀ (l : List Nat) (found : List (Nat × Nat)) (k : Nat), fw p found k (l ++ [c]) = addW p (fw p found k l) (k + l.length) c
  | [], found, k => by simp [fw]
  | d :: r, found, k => by
    simp only [List.cons_append, fw, List.length_cons]
    rw [fw_snoc p c r, show k + 1 + r.length = k + (r.length + 1) by omega]
theorem fw_eq (p : Nat → Bool) (l : List Nat) : fw p [] 0 l = runs p 0 l := by
  rw [fw_runs p l.length l 0 [] (Nat.le_refl _) (fun w h => by cases h)]
  simp
abbrev isL (c : Nat) : Bool := decide (c ∈ tLetters)
/-- the words of a text -/
def words (t : List Nat) : List (Nat × Nat) := runs isL 0 t
theorem set_pair {t : List Nat} {xs : List D} {x2 x3 : Sl} {i c : Nat} : setT (.tp [.nm 2, .nm 3]) (.tup [.int (i : Nat), .str [c]]) [.dat (.str t), .own xs, x2, x3] = .ok [.dat (.str t), .own xs, .dat (.int (i : Nat)), .dat (.str [c])] := by
  simp [setT, setTs, setN]
theorem f_lwords {t : List Nat} (ht : t.length ≤ 1000) : f_law_words [.str t] = .ok ((words t).map wD) := by
  unfold f_law_words runL
  have hB : B_law_words = seqS (asgO 1 (lstF nilF)) (seqS (forS (itF enumStr (getE 0)) (.tp [.nm 2, .nm 3]) bW) (retO 1)) := rfl
  have e0 : initE 4 [.str t] = [.dat (.str t), .un, .un, .un] := rfl
  let P : Nat → En → Prop := fun i e => ∃ x2 x3, e = [.dat (.str t), .own ((fw isL [] 0 (t.take i)).map wD), x2, x3]
  obtain ⟨e', h1, x2, x3, rfl⟩ := forF_inv (t := .tp [.nm 2, .nm 3]) (B := bW) (items := enumD (chD t)) P (fun i d e hd he => by
    obtain ⟨x2, x3, rfl⟩ := he
    obtain ⟨x, hx, rfl⟩ := enumD_get hd
    simp only [chD, List.getElem?_map, Option.map_eq_some_iff] at hx
    obtain ⟨c, hc, rfl⟩ := hx
    have hi : i < t.length := (List.getElem?_eq_some_iff.mp hc).1
    have hlen : (fw isL [] 0 (t.take i)).length ≤ 1000 := by
      rw [fw_eq]
      have := runs_len isL _ 0 (t.take i) (Nat.le_refl _)
      simp at this
      omega
    refine ⟨_, _, set_pair, bW_run hlen, .dat (.int (i : Nat)), .dat (.str [c]), ?_⟩
    have e1 : t.take (i + 1) = t.take i ++ [c] := by
      rw [List.take_succ, hc]; rfl
    have e2 : 0 + (t.take i).length = i := by simp; omega
    rw [e1, fw_snoc, e2]) (e := [.dat (.str t), .own [], .un, .un]) ⟨.un, .un, by simp [fw]⟩
  rw [hB, e0, seqS_nx (e1 := [.dat (.str t), .own [], .un, .un]) (by simp [ofO_le]), seqS_nx (by simp only [forS_ap, itF_ap, getE_dat, rb_ok, enumStr]; exact h1), retO_own rfl]
  rw [enumD_len, show (chD t).length = t.length from by simp [chD], List.take_of_length_le (Nat.le_refl _), fw_eq]
  rfl
end FM

set_option Elab.async false
set_option linter.all false
set_option maxRecDepth 100000
/-! F02: faults. -/
namespace FM
open PySem PyProof.Rows L2
/-- a fault: where it begins, where it ends, its mend -/
structure Flt where
  b : Nat
  e : Nat
  m : Option (List Nat)
  deriving DecidableEq
def mD : Option (List Nat) → D
  | none => .non
  | some l => .str l
def fD (f : Flt) : D := .tup [.int (f.b : Nat), .int (f.e : Nat), mD f.m]
theorem mD_lf (m : Option (List Nat)) : (mD m).lf = true := by cases m <;> rfl
theorem fD_lf (f : Flt) : (fD f).lf = true := by simp [fD, mD_lf]
theorem fDs_lf (fs : List Flt) : lfAll (fs.map fD) = true := by
  rw [lfAll_iff]
  intro d hd
  obtain ⟨f, _, rfl⟩ := List.mem_map.mp hd
  exact fD_lf f
/-- the part of a text -/
def cut (t : List Nat) (b e : Nat) : List Nat := (t.drop b).take (e - b)
theorem cut_eq (t : List Nat) {b e : Nat} (h1 : b ≤ e) (h2 : e ≤ t.length) : cutL t (some (b : Nat)) (some (e : Nat)) = cut t b e := by
  unfold cutL cut
  rw [HT.sIx_nat, HT.sIx_nat, Nat.min_eq_left (Nat.le_trans h1 h2), Nat.min_eq_left h2]
theorem cut_len {t : List Nat} {b e : Nat} (h1 : b ≤ e) (h2 : e ≤ t.length) : (cut t b e).length = e - b := by
  unfold cut
  simp
  omega
/-! ### where words lie -/
structure WOk (p : Nat → Bool) (t : List Nat) (k : Nat) (ws : List (Nat × Nat)) : Prop where
  lt : ∀ w ∈ ws, w.1 < w.2 ∧ w.2 ≤ t.length ∧ k ≤ w.1
  in_ : ∀ w ∈ ws, ∀ j, w.1 ≤ j → j < w.2 → ∃ c, t[j]? = some c ∧ p c = true
  asc : ws.Pairwise (fun v w => v.2 < w.1)
theorem takeWhile_all {p : Nat → Bool} {l : List Nat} {j : Nat} (h : j < (l.takeWhile p).length) : ∃ c, l[j]? = some c ∧ p c = true := by
  have hp := List.takeWhile_prefix (l := l) p
  have hl := hp.length_le
  obtain ⟨r, hr⟩ := hp
  refine ⟨(l.takeWhile p)[j], ?_, ?_⟩
  · conv => lhs; rw [← hr]
    rw [List.getElem?_append_left h, List.getElem?_eq_getElem h]
  · have := List.all_takeWhile (p := p) (l := l)
    exact List.all_eq_true.mp this _ (List.getElem_mem h)
theorem runs_ok (p : Nat → Bool) (t : List Nat) : ∀ (n k : Nat), t.length - k ≤ n → WOk p t k (runs p k (t.drop k))
  | n, k, hn => by
    by_cases hk : k < t.length
    · have hd : t.drop k = t[k] :: t.drop (k + 1) := List.drop_eq_getElem_cons hk
      have hne : t.drop k ≠ [] := by rw [hd]; exact List.cons_ne_nil _ _
      have hm : ((t.drop k).takeWhile p).length ≤ t.length - k := by
        have := (List.takeWhile_prefix (l := t.drop k) p).length_le
        simpa using this
      match n with
      | 0 => omega
      | n + 1 =>
        have ih := runs_ok p t n (k + ((t.drop k).takeWhile p).length + 1) (by omega)
        rw [runs_step p k _ hne, List.drop_drop, show k + (((t.drop k).takeWhile p).length + 1) = k + ((t.drop k).takeWhile p).length + 1 by omega]
        split
        · rename_i hpos
          refine ⟨fun w hw => ?_, fun w hw j h1 h2 => ?_, ?_⟩
          · rcases List.mem_append.mp hw with h | h
            · simp at h; subst h; exact ⟨by simp; omega, by simp; omega, by simp⟩
            · obtain ⟨a, b, c⟩ := ih.lt w h
              exact ⟨a, b, by omega⟩
          · rcases List.mem_append.mp hw with h | h
            · simp at h
              subst h
              simp at h1 h2
              obtain ⟨c, hc, hp⟩ := takeWhile_all (l := t.drop k) (p := p) (j := j - k) (by omega)
              refine ⟨c, ?_, hp⟩
              rw [List.getElem?_drop, show k + (j - k) = j by omega] at hc
              exact hc
            · exact ih.in_ w h j h1 h2
          · rw [List.pairwise_append]
            refine ⟨by simp, ih.asc, fun v hv w hw => ?_⟩
            simp at hv
            subst hv
            have := (ih.lt w hw).2.2
            simp
            omega
        · simp only [List.nil_append]
          exact ⟨fun w hw => by obtain ⟨a, b, c⟩ := ih.lt w hw; exact ⟨a, b, by omega⟩, ih.in_, ih.asc⟩
    · have : t.drop k = [] := List.drop_eq_nil_of_le (by omega)
      rw [this]
      have e : runs p k [] = [] := by simp [runs]
      rw [e]
      exact ⟨(fun w h => absurd h (by simp)), (fun w h => absurd h (by simp)), List.Pairwise.nil⟩
theorem words_ok (t : List Nat) : WOk isL t 0 (words t) := by
  have := runs_ok isL t t.length 0 (by omega)
  simpa [words] using this
/-! ### the faults of a rule -/
def low (l : List Nat) : List Nat := l.map lo1
def blank (l : List Nat) : Bool := l.all (· == 32)
/-- the end of the word ahead -/
def prevE (ws : List (Nat × Nat)) (k : Nat) : Nat := (ws.getD (k - 1) (0, 0)).2
def prevB (ws : List (Nat × Nat)) (k : Nat) : Nat := (ws.getD (k - 1) (0, 0)).1
/-- what the k-th word adds -/
def atWord (t : List Nat) (ws : List (Nat × Nat)) : Rule → Nat → Nat × Nat → List Flt
  | .long n, _, w => if n < ((w.2 - w.1 : Nat) : Int) then [⟨w.1, w.2, none⟩] else []
  | .word x r, _, w => if low (cut t w.1 w.2) = x then [⟨w.1, w.2, some r⟩] else []
  | .great, k, w => if (k = 0 ∨ 46 ∈ cut t (prevE ws k) w.1) ∧ isSm (t.getD w.1 0) = true then [⟨w.1, w.1 + 1, some [up1 (t.getD w.1 0)]⟩] else []
  | .twice, k, w => if 0 < k ∧ blank (cut t (prevE ws k) w.1) = true ∧ low (cut t (prevB ws k) (prevE ws k)) = low (cut t w.1 w.2) then [⟨prevE ws k, w.2, some []⟩] else []
  | _, _, _ => []
def perWord (t : List Nat) (r : Rule) : List Flt := ((words t).zipIdx.map fun p => atWord t (words t) r p.2 p.1).flatten
def blanks (t : List Nat) : List Flt := ((runs (fun c => decide (c ∈ [32])) 0 t).filter fun w => decide (w.1 + 1 < w.2)).map fun w => ⟨w.1 + 1, w.2, some []⟩
def signs (t : List Nat) (c : Nat) : List Flt := ((List.range t.length).filter fun k => decide (t[k]? = some c)).map fun k => ⟨k, k + 1, some []⟩
def faults (t : List Nat) : Rule → List Flt
  | .blanks => blanks t
  | .sign c => signs t c
  | r => perWord t r
end FM

set_option Elab.async false
set_option linter.all false
set_option maxRecDepth 100000
/-! G02: the program's faults. -/
namespace FM
open PySem PyProof.Rows L2
def accW (t : List Nat) (r : Rule) (i : Nat) : List Flt := (((words t).zipIdx.take i).map fun p => atWord t (words t) r p.2 p.1).flatten
theorem accW_succ {t : List Nat} {r : Rule} {i : Nat} {w : Nat × Nat} (h : (words t)[i]? = some w) : accW t r (i + 1) = accW t r i ++ atWord t (words t) r i w := by
  have h2 : (words t).zipIdx[i]? = some (w, i) := by rw [List.getElem?_zipIdx, h]; simp
  unfold accW
  rw [List.take_succ, h2]
  simp
theorem accW_all (t : List Nat) (r : Rule) : accW t r (words t).length = perWord t r := by
  unfold accW perWord
  rw [List.take_of_length_le (by simp)]
theorem atWord_len (t : List Nat) (ws : List (Nat × Nat)) (r : Rule) (k : Nat) (w : Nat × Nat) : (atWord t ws r k w).length ≤ 1 := by
  cases r <;> simp only [atWord] <;> (try split) <;> simp
theorem accW_len (t : List Nat) (r : Rule) : ∀ i, (accW t r i).length ≤ i
  | 0 => by simp [accW]
  | i + 1 => by
    cases h : (words t)[i]? with
    | none =>
      have h2 : (words t).zipIdx[i]? = none := by rw [List.getElem?_zipIdx, h]; rfl
      have : accW t r (i + 1) = accW t r i := by
        unfold accW
        rw [List.take_succ, h2]
        simp
      rw [this]
      have := accW_len t r i
      omega
    | some w =>
      rw [accW_succ h, List.length_append]
      have := accW_len t r i
      have := atWord_len t (words t) r i w
      omega
theorem words_len (t : List Nat) : (words t).length ≤ t.length := runs_len isL _ 0 t (Nat.le_refl _)
theorem ix_words {ws : List (Nat × Nat)} {i : Nat} {w : Nat × Nat} (h : ws[i]? = some w) : atI (ws.map wD) ((i : Nat) : Int) = some (wD w) := atI_n (by simp [h])
theorem w_at0 (w : Nat × Nat) : ixO (wD w) (.int 0) = some (.int (w.1 : Nat)) := rfl
theorem w_at1 (w : Nat × Nat) : ixO (wD w) (.int 1) = some (.int (w.2 : Nat)) := by
  show atI [D.int (w.1 : Nat), .int (w.2 : Nat)] 1 = _
  exact atI_n (i := 1) rfl
theorem prev_at {t : List Nat} {i : Nat} {w : Nat × Nat} (h : (words t)[i]? = some w) (h0 : 0 < i) : ∃ v, (words t)[i - 1]? = some v ∧ prevE (words t) i = v.2 ∧ prevB (words t) i = v.1 ∧ v.1 < v.2 ∧ v.2 < w.1 ∧ w.1 < w.2 ∧ w.2 ≤ t.length := by
  have hi := (List.getElem?_eq_some_iff.mp h).1
  have hv : (words t)[i - 1]? = some (words t)[i - 1] := List.getElem?_eq_getElem (by omega)
  have ok := words_ok t
  have hasc := List.pairwise_iff_getElem.mp ok.asc (i - 1) i (by omega) hi (by omega)
  have hw := (List.getElem?_eq_some_iff.mp h).2
  rw [hw] at hasc
  have l1 := ok.lt _ (List.getElem_mem (by omega : i - 1 < (words t).length))
  have l2 := ok.lt w (List.mem_of_getElem? h)
  exact ⟨_, hv, by unfold prevE; rw [List.getD_eq_getElem?_getD, hv]; rfl, by unfold prevB; rw [List.getD_eq_getElem?_getD, hv]; rfl, l1.1, hasc, l2.1, l2.2.1⟩
theorem upp_chr {c : Nat} (h : c < 128) : uppO (.str [c]) = some (.str [up1 c]) := by
  simp only [uppO]
  rw [if_pos ⟨by simp, by simpa using h⟩]
  rfl
theorem low_str {l : List Nat} (h1 : l.length ≤ 1000) (h2 : l.all (· < 128) = true) : lowO (.str l) = some (.str (low l)) := by
  simp only [lowO]
  rw [if_pos ⟨by omega, h2⟩]
  rfl
theorem cut_all {t : List Nat} {b e : Nat} (h : t.all (· < 128) = true) : (cut t b e).all (· < 128) = true := by
  rw [List.all_eq_true] at h ⊢
  intro x hx
  exact h x (List.mem_of_mem_drop (List.mem_of_mem_take hx))
/-- text[b:e] -/
theorem sl_cut {t : List Nat} {b e : Nat} (ht : t.length ≤ 1000) (h1 : b ≤ e) (h2 : e ≤ t.length) {ft : En → Res D} {fl fh : En → Res (Option Int)} {en : En} (f1 : ft en = .ok (.str t)) (f2 : fl en = .ok (some (b : Nat))) (f3 : fh en = .ok (some (e : Nat))) : slF slO ft fl fh en = .ok (.str (cut t b e)) := by
  rw [slF_ap, f1, rb_ok, f2, rb_ok, f3, rb_ok, slO_str (le_sz (by omega)), cut_eq t h1 h2]
  rfl
theorem bop_ok {g : D → D → Option D} {fa fb : En → Res D} {e : En} {x y z : D} (h1 : fa e = .ok x) (h2 : fb e = .ok y) (h3 : g x y = some z) : bopF g fa fb e = .ok z := by
  rw [bopF_ap, h1, rb_ok, h2, rb_ok, h3]; rfl
theorem uop_ok {g : D → Option D} {fa : En → Res D} {e : En} {x z : D} (h1 : fa e = .ok x) (h3 : g x = some z) : uopF g fa e = .ok z := by
  rw [uopF_ap, h1, rb_ok, h3]; rfl
theorem soP_ok {f : En → Res D} {e : En} {i : Int} (h : f e = .ok (.int i)) : soP f e = .ok (some i) := by
  simp [h]
noncomputable def bG : En → Res Fl := (seqS (asgS (.nm 6) (orV (bopF eqO (getE 3) (cD (.int 0))) (bopF inO (cD (.str [46])) (slF slO (getE 0) (soP (bopF ixO (bopF ixO (getE 1) (bopF subI (getE 3) (cD (.int 1)))) (cD (.int 1)))) (soP (getE 4))))))
  (ifS (andF (truF (getE 6)) (tstF (bopF inO (bopF ixO (getE 0) (getE 4)) (cD (.str tSmall))))) (appS 2 (tupF (consF (getE 4) (consF (bopF addO (getE 4) (cD (.int 1))) (consF (uopF uppO (bopF ixO (getE 0) (getE 4))) nilF))))) nilS))
theorem bG_run {t : List Nat} {i : Nat} {w : Nat × Nat} {x6 : Sl} {fs : List Flt} (ht : t.length ≤ 1000) (ha : t.all (· < 128) = true) (h : (words t)[i]? = some w) (hf : fs.length ≤ 1000) :
    ∃ x6', bG [.dat (.str t), .dat (.lst ((words t).map wD)), .own (fs.map fD), .dat (.int (i : Nat)), .dat (.int (w.1 : Nat)), .dat (.int (w.2 : Nat)), x6] =
      .ok (.nx [.dat (.str t), .dat (.lst ((words t).map wD)), .own ((fs ++ atWord t (words t) .great i w).map fD), .dat (.int (i : Nat)), .dat (.int (w.1 : Nat)), .dat (.int (w.2 : Nat)), x6']) := by
  have l2 := (words_ok t).lt w (List.mem_of_getElem? h)
  have hc : t[w.1]? = some (t.getD w.1 0) := by
    rw [List.getD_eq_getElem?_getD, List.getElem?_eq_getElem (by omega)]
    rfl
  have hc128 : t.getD w.1 0 < 128 := by
    have := List.all_eq_true.mp ha _ (List.mem_of_getElem? hc)
    simpa using this
  have hfirst : ∃ b : Bool, (b = true ↔ (i = 0 ∨ 46 ∈ cut t (prevE (words t) i) w.1)) ∧ orV (bopF eqO (getE 3) (cD (.int 0))) (bopF inO (cD (.str [46])) (slF slO (getE 0) (soP (bopF ixO (bopF ixO (getE 1) (bopF subI (getE 3) (cD (.int 1)))) (cD (.int 1)))) (soP (getE 4))))
      [.dat (.str t), .dat (.lst ((words t).map wD)), .own (fs.map fD), .dat (.int (i : Nat)), .dat (.int (w.1 : Nat)), .dat (.int (w.2 : Nat)), x6] = .ok (.bl b) := by
    by_cases h0 : i = 0
    · subst h0
      exact ⟨true, by simp, by simp⟩
    · obtain ⟨v, hv, e1, e2, q1, q2, q3, q4⟩ := prev_at h (by omega)
      have hi1 : ((i : Nat) : Int) - 1 = ((i - 1 : Nat) : Int) := by omega
      have hne : ¬ ((i : Nat) : Int) = 0 := by omega
      refine ⟨decide (46 ∈ cut t (prevE (words t) i) w.1), by simp [h0], ?_⟩
      have hsl : slF slO (getE 0) (soP (bopF ixO (bopF ixO (getE 1) (bopF subI (getE 3) (cD (.int 1)))) (cD (.int 1)))) (soP (getE 4)) [.dat (.str t), .dat (.lst ((words t).map wD)), .own (fs.map fD), .dat (.int (i : Nat)), .dat (.int (w.1 : Nat)), .dat (.int (w.2 : Nat)), x6] = .ok (.str (cut t (prevE (words t) i) w.1)) := by
        rw [e1]
        refine sl_cut ht (by omega) (by omega) (by simp) (soP_ok ?_) (soP_ok (by simp))
        refine bop_ok (bop_ok (x := .lst ((words t).map wD)) (y := .int ((i - 1 : Nat) : Int)) (z := wD v) (by simp) (by simp [hi1]) (by rw [ixO_lst]; exact ix_words hv)) rfl (w_at1 v)
      have heq : (((i : Nat) : Int) == 0) = false := by simpa using hne
      rw [orV_ap]
      have e1' : bopF eqO (getE 3) (cD (.int 0)) [.dat (.str t), .dat (.lst ((words t).map wD)), .own (fs.map fD), .dat (.int (i : Nat)), .dat (.int (w.1 : Nat)), .dat (.int (w.2 : Nat)), x6] = .ok (.bl false) := bop_ok (x := .int (i : Nat)) (y := .int 0) (by simp) rfl (by rw [eqO_ii, heq])
      rw [e1', rb_ok]
      simp only [isBl_ap, rb_ok, truD_bl, Bool.false_eq_true, if_false]
      exact bop_ok rfl hsl in_chr
  obtain ⟨b, hb, hfirst⟩ := hfirst
  refine ⟨.dat (.bl b), ?_⟩
  unfold bG
  rw [seqS_nx (asg_lf (d := .bl b) rfl hfirst)]
  simp only [List.set]
  have htst : andF (truF (getE 6)) (tstF (bopF inO (bopF ixO (getE 0) (getE 4)) (cD (.str tSmall)))) [.dat (.str t), .dat (.lst ((words t).map wD)), .own (fs.map fD), .dat (.int (i : Nat)), .dat (.int (w.1 : Nat)), .dat (.int (w.2 : Nat)), .dat (.bl b)] = .ok (b && isSm (t.getD w.1 0)) := by
    have h2 : tstF (bopF inO (bopF ixO (getE 0) (getE 4)) (cD (.str tSmall))) [.dat (.str t), .dat (.lst ((words t).map wD)), .own (fs.map fD), .dat (.int (i : Nat)), .dat (.int (w.1 : Nat)), .dat (.int (w.2 : Nat)), .dat (.bl b)] = .ok (isSm (t.getD w.1 0)) := by
      rw [← mem_small]
      exact tst_bop (bop_ok (x := .str t) (y := .int (w.1 : Nat)) (by simp) (by simp) (ix_str ht hc)) rfl in_chr
    rw [andF_ap, truF_ap]
    simp only [getE_6, getE_5, getE_4, getE_3, getE_2, getE_1, getE_dat, rb_ok, truD_bl, h2]
    cases b <;> simp
  by_cases hg : b = true ∧ isSm (t.getD w.1 0) = true
  · rw [hg.1, hg.2] at htst
    have hatw : atWord t (words t) .great i w = [⟨w.1, w.1 + 1, some [up1 (t.getD w.1 0)]⟩] := by
      simp only [atWord]
      rw [if_pos ⟨hb.mp hg.1, hg.2⟩]
    rw [hg.1, ifS_yes htst, hatw, app_own (xs := fs.map fD) (d := fD ⟨w.1, w.1 + 1, some [up1 (t.getD w.1 0)]⟩) rfl (tup3 (by simp) (by simp) (uop_ok (bop_ok (x := .str t) (y := .int (w.1 : Nat)) (by simp) (by simp) (ix_str ht hc)) (upp_chr hc128))) (fD_lf _) (by simp; omega)]
    simp
  · have hb2 : (b && isSm (t.getD w.1 0)) = false := by
      rw [Bool.and_eq_false_iff]
      cases hbb : b with
      | false => exact .inl rfl
      | true => right; cases hs : isSm (t.getD w.1 0) with
        | false => rfl
        | true => exact absurd ⟨hbb, hs⟩ hg
    rw [hb2] at htst
    have hatw : atWord t (words t) .great i w = [] := by
      simp only [atWord]
      rw [if_neg (fun z => hg ⟨hb.mpr z.1, z.2⟩)]
    rw [ifS_no htst, hatw, List.append_nil]
    rfl
theorem set_tri {a b c : Sl} {x3 x4 x5 x6 : Sl} {i : Nat} {w : Nat × Nat} : setT (.tp [.nm 3, .tp [.nm 4, .nm 5]]) (.tup [.int (i : Nat), wD w]) [a, b, c, x3, x4, x5, x6] = .ok [a, b, c, .dat (.int (i : Nat)), .dat (.int (w.1 : Nat)), .dat (.int (w.2 : Nat)), x6] := by
  simp [setT, setTs, setN, wD]
theorem asgL_ok {i : Nat} {f : En → Res (List D)} {e : En} {xs : List D} (h : f e = .ok xs) (hl : lfAll xs = true) : asgL i f e = .ok (.nx (e.set i (.dat (.lst xs)))) := by
  rw [asgL_ap, h, rb_ok, hl]; rfl
theorem asgO_nil {i : Nat} {e : En} : asgO i (lstF nilF) e = .ok (.nx (e.set i (.own []))) := by
  simp [ofO_le]
theorem fn_ok {α : Type} {n : Nat} {g : List D → Res α} {f : En → Res (List D)} {e : En} {ds : List D} {z : α} (h1 : f e = .ok ds) (h2 : ds.length = n) (h3 : g ds = .ok z) : fnF n g f e = .ok z := by
  rw [fnF_ap, h1, rb_ok, if_pos h2, h3]; rfl
theorem cons_ok {f : En → Res D} {r : En → Res (List D)} {e : En} {d : D} {ds : List D} (h1 : f e = .ok d) (h2 : r e = .ok ds) : consF f r e = .ok (d :: ds) := by
  rw [consF_ap, h1, rb_ok, h2]; rfl
theorem str_words {t : List Nat} (ht : t.length ≤ 1000) {e : En} (h : getE 0 e = .ok (.str t)) : fnF 2 f_stretches (consF (getE 0) (consF (cD (.str tLetters)) nilF)) e = .ok ((words t).map wD) :=
  fn_ok (cons_ok h (cons_ok rfl rfl)) rfl (f_stretch ht)
theorem f_great_ok {t : List Nat} (ht : t.length ≤ 1000) (ha : t.all (· < 128) = true) : f_great [.str t] = .ok ((perWord t .great).map fD) := by
  unfold f_great runL
  have hB : B_great = seqS (asgL 1 (fnF 2 f_stretches (consF (getE 0) (consF (cD (.str tLetters)) nilF)))) (seqS (asgO 2 (lstF nilF)) (seqS (forS (varEnum 1) (.tp [.nm 3, .tp [.nm 4, .nm 5]]) bG) (retO 2))) := rfl
  have e0 : initE 7 [.str t] = [.dat (.str t), .un, .un, .un, .un, .un, .un] := rfl
  let P : Nat → En → Prop := fun i e => ∃ x3 x4 x5 x6, e = [.dat (.str t), .dat (.lst ((words t).map wD)), .own ((accW t .great i).map fD), x3, x4, x5, x6]
  obtain ⟨e', h1, x3, x4, x5, x6, rfl⟩ := forF_inv (t := .tp [.nm 3, .tp [.nm 4, .nm 5]]) (B := bG) (items := enumD ((words t).map wD)) P (fun i d e hd he => by
    obtain ⟨x3, x4, x5, x6, rfl⟩ := he
    obtain ⟨x, hx, rfl⟩ := enumD_get hd
    simp only [List.getElem?_map, Option.map_eq_some_iff] at hx
    obtain ⟨w, hw, rfl⟩ := hx
    have hi : i < (words t).length := (List.getElem?_eq_some_iff.mp hw).1
    have hl := accW_len t .great i
    have hwl := words_len t
    obtain ⟨x6', hb⟩ := bG_run (x6 := x6) (fs := accW t .great i) ht ha hw (by omega)
    exact ⟨_, _, set_tri, hb, _, _, _, x6', by rw [accW_succ hw]⟩) (e := [.dat (.str t), .dat (.lst ((words t).map wD)), .own [], .un, .un, .un, .un]) ⟨.un, .un, .un, .un, by simp [accW]⟩
  rw [hB, e0, seqS_nx (asgL_ok (str_words ht rfl) (wD_lf _))]
  simp only [List.set]
  rw [seqS_nx asgO_nil]
  simp only [List.set]
  rw [seqS_nx (by simp only [forS_ap, varEnum, List.getElem?_cons_succ, List.getElem?_cons_zero, rb_ok]; exact h1), retO_own rfl]
  rw [enumD_len, List.length_map, accW_all]
/-! ### twice -/
theorem tw_lt {g : Nat → Bool} : ∀ {l : List Nat}, ¬ l.all g = true → (l.takeWhile g).length < l.length
  | [], h => absurd rfl h
  | c :: r, h => by
    by_cases hc : g c = true
    · have hr : ¬ r.all g = true := fun z => h (by simp [hc, z])
      have := tw_lt hr
      simp only [List.takeWhile_cons, hc, if_true, List.length_cons]
      omega
    · simp [List.takeWhile_cons, hc]
theorem tw_all {g : Nat → Bool} : ∀ {l : List Nat}, l.all g = true → l.takeWhile g = l
  | [], _ => rfl
  | c :: r, h => by
    simp only [List.all_cons, Bool.and_eq_true] at h
    rw [List.takeWhile_cons, if_pos h.1, tw_all h.2]
theorem goes32 : (S [32]).cps.contains = fun c : Nat => c == 32 := by
  funext c
  have h : (S [32]).cps = #[32] := rfl
  rw [h]
  simp
  by_cases hc : c = 32
  · subst hc; simp
  · simp [hc]
theorem strip_blank {l : List Nat} : (Txt.stripChars (S l) (S [32])).cps.toList = [] ↔ blank l = true := by
  unfold Txt.stripChars Txt.stripBy
  rw [goes32]
  have hS : (S l).cps.toList = l := by simp
  have hlen : (S l).length = l.length := by simp [Str.length]
  by_cases hb : blank l = true
  · refine ⟨fun _ => hb, fun _ => ?_⟩
    have htw : l.takeWhile (fun c => c == 32) = l := tw_all hb
    have hlo : stripLo (fun c => c == 32) true (S l) = l.length := by
      unfold stripLo
      rw [hS, htw]
      rfl
    split
    · rename_i hs
      unfold stripSame at hs
      rw [hlo] at hs
      simp at hs
      have : l = [] := hs.1
      subst this
      rfl
    · unfold stripped
      rw [hlo]
      unfold stripHi
      rw [hS, List.drop_length]
      simp [Builtin.Str.strSub, hlen]
  · refine ⟨fun z => ?_, fun z => absurd z hb⟩
    exfalso
    have hnb : ¬ l.all (fun c => c == 32) = true := hb
    have h1 := tw_lt hnb
    have hlo : stripLo (fun c => c == 32) true (S l) = (l.takeWhile fun c => c == 32).length := by
      unfold stripLo
      rw [hS]
      rfl
    have hdn : ¬ (l.drop (l.takeWhile fun c => c == 32).length).reverse.all (fun c => c == 32) = true := by
      intro q
      have hc : l[(l.takeWhile fun c => c == 32).length]? = some l[(l.takeWhile fun c => c == 32).length] := List.getElem?_eq_getElem h1
      have hn := drop_takeWhile (l := l) (p := fun c => c == 32) _ hc
      rw [List.all_reverse, List.all_eq_true] at q
      have := q l[(l.takeWhile fun c => c == 32).length] (by
        rw [List.drop_eq_getElem_cons h1]
        exact List.mem_cons_self)
      rw [this] at hn
      cases hn
    have h2 := tw_lt hdn
    simp only [List.length_reverse, List.length_drop] at h2
    split at z
    · rw [hS] at z
      subst z
      exact hb rfl
    · unfold stripped at z
      rw [hlo] at z
      unfold stripHi at z
      rw [hS, hlen] at z
      have := congrArg List.length z
      simp [Builtin.Str.strSub] at this
      omega
end FM

set_option Elab.async false
set_option linter.all false
set_option maxRecDepth 100000
/-! G03: the program's faults: twice, and all rules. -/
namespace FM
open PySem PyProof.Rows L2
noncomputable def bT : En → Res Fl := (seqS (parS 4 5 (consF (bopF ixO (getE 1) (bopF subI (getE 3) (cD (.int 1)))) (consF (bopF ixO (getE 1) (getE 3)) nilF)))
  (seqS (asgS (.nm 6) (bopF eqO (uopF lowO (slF slO (getE 0) (soP (bopF ixO (getE 4) (cD (.int 0)))) (soP (bopF ixO (getE 4) (cD (.int 1)))))) (uopF lowO (slF slO (getE 0) (soP (bopF ixO (getE 5) (cD (.int 0)))) (soP (bopF ixO (getE 5) (cD (.int 1))))))))
  (ifS (andF (truF (getE 6)) (tstF (bopF eqO (bopS stripO (slF slO (getE 0) (soP (bopF ixO (getE 4) (cD (.int 1)))) (soP (bopF ixO (getE 5) (cD (.int 0))))) (cD (.str [32]))) (cD (.str []))))) (appS 2 (tupF (consF (bopF ixO (getE 4) (cD (.int 1))) (consF (bopF ixO (getE 5) (cD (.int 1))) (consF (cD (.str [])) nilF))))) nilS)))
theorem cut_len_le (t : List Nat) (b e : Nat) : (cut t b e).length ≤ t.length := by
  unfold cut
  simp
  omega
theorem bT_run {t : List Nat} {i : Nat} {w : Nat × Nat} {x4 x5 x6 : Sl} {fs : List Flt} (ht : t.length ≤ 1000) (ha : t.all (· < 128) = true) (h : (words t)[i]? = some w) (h0 : 0 < i) (hf : fs.length ≤ 1000) :
    ∃ y4 y5 y6, bT [.dat (.str t), .dat (.lst ((words t).map wD)), .own (fs.map fD), .dat (.int (i : Nat)), x4, x5, x6] =
      .ok (.nx [.dat (.str t), .dat (.lst ((words t).map wD)), .own ((fs ++ atWord t (words t) .twice i w).map fD), .dat (.int (i : Nat)), y4, y5, y6]) := by
  obtain ⟨v, hv, e1, e2, q1, q2, q3, q4⟩ := prev_at h h0
  have hi1 : ((i : Nat) : Int) - 1 = ((i - 1 : Nat) : Int) := by omega
  have hpar : parS 4 5 (consF (bopF ixO (getE 1) (bopF subI (getE 3) (cD (.int 1)))) (consF (bopF ixO (getE 1) (getE 3)) nilF)) [.dat (.str t), .dat (.lst ((words t).map wD)), .own (fs.map fD), .dat (.int (i : Nat)), x4, x5, x6] =
      .ok (.nx [.dat (.str t), .dat (.lst ((words t).map wD)), .own (fs.map fD), .dat (.int (i : Nat)), .dat (wD v), .dat (wD w), x6]) := by
    have hl1 : (wD v).lf = true := rfl
    have hl2 : (wD w).lf = true := rfl
    have hc : consF (bopF ixO (getE 1) (bopF subI (getE 3) (cD (.int 1)))) (consF (bopF ixO (getE 1) (getE 3)) nilF) [.dat (.str t), .dat (.lst ((words t).map wD)), .own (fs.map fD), .dat (.int (i : Nat)), x4, x5, x6] = .ok [wD v, wD w] :=
      cons_ok (bop_ok (x := .lst ((words t).map wD)) (y := .int ((i - 1 : Nat) : Int)) (by simp) (by simp [hi1]) (by rw [ixO_lst]; exact ix_words hv)) (cons_ok (bop_ok (x := .lst ((words t).map wD)) (y := .int (i : Nat)) (by simp) (by simp) (by rw [ixO_lst]; exact ix_words h)) rfl)
    rw [parS_ap, hc, rb_ok]
    simp only [setN_lf hl1, rb_ok, setN_lf hl2, nxS_ok, List.set]
  have hlow : bopF eqO (uopF lowO (slF slO (getE 0) (soP (bopF ixO (getE 4) (cD (.int 0)))) (soP (bopF ixO (getE 4) (cD (.int 1)))))) (uopF lowO (slF slO (getE 0) (soP (bopF ixO (getE 5) (cD (.int 0)))) (soP (bopF ixO (getE 5) (cD (.int 1))))))
      [.dat (.str t), .dat (.lst ((words t).map wD)), .own (fs.map fD), .dat (.int (i : Nat)), .dat (wD v), .dat (wD w), x6] = .ok (.bl (low (cut t v.1 v.2) == low (cut t w.1 w.2))) := by
    refine bop_ok (uop_ok (sl_cut (b := v.1) (e := v.2) ht (by omega) (by omega) (by simp) (soP_ok (bop_ok (x := wD v) (by simp) rfl (w_at0 v))) (soP_ok (bop_ok (x := wD v) (by simp) rfl (w_at1 v)))) (low_str (by have := cut_len_le t v.1 v.2; omega) (cut_all ha)))
      (uop_ok (sl_cut (b := w.1) (e := w.2) ht (by omega) (by omega) (by simp) (soP_ok (bop_ok (x := wD w) (by simp) rfl (w_at0 w))) (soP_ok (bop_ok (x := wD w) (by simp) rfl (w_at1 w)))) (low_str (by have := cut_len_le t w.1 w.2; omega) (cut_all ha))) eqO_ss
  have hstrip : tstF (bopF eqO (bopS stripO (slF slO (getE 0) (soP (bopF ixO (getE 4) (cD (.int 1)))) (soP (bopF ixO (getE 5) (cD (.int 0))))) (cD (.str [32]))) (cD (.str [])))
      [.dat (.str t), .dat (.lst ((words t).map wD)), .own (fs.map fD), .dat (.int (i : Nat)), .dat (wD v), .dat (wD w), .dat (.bl (low (cut t v.1 v.2) == low (cut t w.1 w.2)))] = .ok (blank (cut t v.2 w.1)) := by
    have hc := cut_len_le t v.2 w.1
    have hs : bopS stripO (slF slO (getE 0) (soP (bopF ixO (getE 4) (cD (.int 1)))) (soP (bopF ixO (getE 5) (cD (.int 0))))) (cD (.str [32])) [.dat (.str t), .dat (.lst ((words t).map wD)), .own (fs.map fD), .dat (.int (i : Nat)), .dat (wD v), .dat (wD w), .dat (.bl (low (cut t v.1 v.2) == low (cut t w.1 w.2)))] =
        .ok (.str (Txt.stripChars (S (cut t v.2 w.1)) (S [32])).cps.toList) := by
      have hsl := sl_cut (b := v.2) (e := w.1) (ft := getE 0) (fl := soP (bopF ixO (getE 4) (cD (.int 1)))) (fh := soP (bopF ixO (getE 5) (cD (.int 0)))) (en := [.dat (.str t), .dat (.lst ((words t).map wD)), .own (fs.map fD), .dat (.int (i : Nat)), .dat (wD v), .dat (wD w), .dat (.bl (low (cut t v.1 v.2) == low (cut t w.1 w.2)))]) ht (by omega) (by omega) (by simp) (soP_ok (bop_ok (x := wD v) (by simp) rfl (w_at1 v))) (soP_ok (bop_ok (x := wD w) (by simp) rfl (w_at0 w)))
      unfold bopS
      rw [hsl, rb_ok, if_pos (show isS (.str (cut t v.2 w.1)) = true from rfl), cD_ap, rb_ok]
      simp only [stripO]
      rw [if_pos (by omega)]
      rfl
    refine (tst_bop hs rfl eqO_ss).trans ?_
    congr 1
    rw [Bool.eq_iff_iff, beq_iff_eq]
    exact strip_blank
  refine ⟨.dat (wD v), .dat (wD w), .dat (.bl (low (cut t v.1 v.2) == low (cut t w.1 w.2))), ?_⟩
  unfold bT
  rw [seqS_nx hpar, seqS_nx (asg_lf rfl hlow)]
  simp only [List.set]
  have htst : andF (truF (getE 6)) (tstF (bopF eqO (bopS stripO (slF slO (getE 0) (soP (bopF ixO (getE 4) (cD (.int 1)))) (soP (bopF ixO (getE 5) (cD (.int 0))))) (cD (.str [32]))) (cD (.str []))))
      [.dat (.str t), .dat (.lst ((words t).map wD)), .own (fs.map fD), .dat (.int (i : Nat)), .dat (wD v), .dat (wD w), .dat (.bl (low (cut t v.1 v.2) == low (cut t w.1 w.2)))] = .ok ((low (cut t v.1 v.2) == low (cut t w.1 w.2)) && blank (cut t v.2 w.1)) := by
    rw [andF_ap, truF_ap]
    simp only [getE_6, getE_5, getE_4, getE_3, getE_2, getE_1, getE_dat, rb_ok, truD_bl, hstrip]
    cases (low (cut t v.1 v.2) == low (cut t w.1 w.2)) <;> simp
  by_cases hg : low (cut t v.1 v.2) = low (cut t w.1 w.2) ∧ blank (cut t v.2 w.1) = true
  · have hatw : atWord t (words t) .twice i w = [⟨v.2, w.2, some []⟩] := by
      simp only [atWord, e1, e2]
      rw [if_pos ⟨h0, hg.2, hg.1⟩]
    have hy : ((low (cut t v.1 v.2) == low (cut t w.1 w.2)) && blank (cut t v.2 w.1)) = true := by rw [hg.2, Bool.and_true, beq_iff_eq]; exact hg.1
    rw [hy] at htst
    rw [ifS_yes htst, hatw, app_own (xs := fs.map fD) (d := fD ⟨v.2, w.2, some []⟩) rfl (tup3 (bop_ok (x := wD v) (by simp) rfl (w_at1 v)) (bop_ok (x := wD w) (by simp) rfl (w_at1 w)) rfl) (fD_lf _) (by simp; omega)]
    simp
  · have hatw : atWord t (words t) .twice i w = [] := by
      simp only [atWord, e1, e2]
      rw [if_neg (fun z => hg ⟨z.2.2, z.2.1⟩)]
    have hy : ((low (cut t v.1 v.2) == low (cut t w.1 w.2)) && blank (cut t v.2 w.1)) = false := by
      cases hz : ((low (cut t v.1 v.2) == low (cut t w.1 w.2)) && blank (cut t v.2 w.1)) with
      | false => rfl
      | true =>
        rw [Bool.and_eq_true, beq_iff_eq] at hz
        exact absurd hz hg
    rw [hy] at htst
    rw [ifS_no htst, hatw, List.append_nil]
    rfl
theorem rng2_eq {n : Nat} (h : n ≤ 1000000) : asRng2 [.int 1, .int (n : Nat)] = .ok (rgD 1 (n - 1)) := by
  simp only [asRng2]
  rw [if_pos ⟨by decide, by omega⟩]
  rw [show (((n : Nat) : Int) - 1).toNat = n - 1 by omega]
theorem rgD_get {lo : Int} {n i : Nat} {d : D} (h : (rgD lo n)[i]? = some d) : i < n ∧ d = .int (lo + (i : Nat)) := by
  have hi : i < n := by have := (List.getElem?_eq_some_iff.mp h).1; simpa [rgD] using this
  simp [rgD, hi] at h
  exact ⟨hi, h.symm⟩
theorem accW_one (t : List Nat) : accW t .twice 1 = [] := by
  cases h : (words t)[0]? with
  | none =>
    have h2 : (words t).zipIdx[0]? = none := by rw [List.getElem?_zipIdx, h]; rfl
    unfold accW
    rw [List.take_succ, h2]
    simp
  | some w =>
    rw [show (1 : Nat) = 0 + 1 from rfl, accW_succ h]
    simp [accW, atWord]
theorem f_twice_ok {t : List Nat} (ht : t.length ≤ 1000) (ha : t.all (· < 128) = true) : f_twice [.str t] = .ok ((perWord t .twice).map fD) := by
  unfold f_twice runL
  have hB : B_twice = seqS (asgL 1 (fnF 2 f_stretches (consF (getE 0) (consF (cD (.str tLetters)) nilF)))) (seqS (asgO 2 (lstF nilF)) (seqS (forS (itF asRng2 (consF (cD (.int 1)) (consF (callF lenO (consF (getE 1) nilF)) nilF))) (.nm 3) bT) (retO 2))) := rfl
  have e0 : initE 7 [.str t] = [.dat (.str t), .un, .un, .un, .un, .un, .un] := rfl
  have hwl := words_len t
  let P : Nat → En → Prop := fun i e => ∃ x3 x4 x5 x6, e = [.dat (.str t), .dat (.lst ((words t).map wD)), .own ((accW t .twice (i + 1)).map fD), x3, x4, x5, x6]
  obtain ⟨e', h1, x3, x4, x5, x6, rfl⟩ := forF_inv (t := .nm 3) (B := bT) (items := rgD 1 ((words t).length - 1)) P (fun i d e hd he => by
    obtain ⟨x3, x4, x5, x6, rfl⟩ := he
    obtain ⟨hi, rfl⟩ := rgD_get hd
    have hw : (words t)[i + 1]? = some (words t)[i + 1] := List.getElem?_eq_getElem (by omega)
    have hl := accW_len t .twice (i + 1)
    have e1 : (1 : Int) + ((i : Nat) : Int) = ((i + 1 : Nat) : Int) := by omega
    obtain ⟨y4, y5, y6, hb⟩ := bT_run (x4 := x4) (x5 := x5) (x6 := x6) (fs := accW t .twice (i + 1)) ht ha hw (by omega) (by omega)
    refine ⟨_, _, by rw [setT_nm, setN_lf rfl, e1]; rfl, hb, .dat (.int ((i + 1 : Nat) : Int)), y4, y5, y6, by rw [accW_succ hw]⟩) (e := [.dat (.str t), .dat (.lst ((words t).map wD)), .own [], .un, .un, .un, .un]) ⟨.un, .un, .un, .un, by simp [accW_one]⟩
  rw [hB, e0, seqS_nx (asgL_ok (str_words ht rfl) (wD_lf _))]
  simp only [List.set]
  rw [seqS_nx asgO_nil]
  simp only [List.set]
  have hit : itF asRng2 (consF (cD (.int 1)) (consF (callF lenO (consF (getE 1) nilF)) nilF)) [.dat (.str t), .dat (.lst ((words t).map wD)), .own [], .un, .un, .un, .un] = .ok (rgD 1 ((words t).length - 1)) := by
    simp only [itF_ap, consF_ap, cD_ap, rb_ok, callF_ap, getE_1, getE_dat, nilF_ap, lenO_lst, List.length_map, ofO_some]
    exact rng2_eq (by omega)
  rw [seqS_nx (by simp only [forS_ap, hit, rb_ok]; exact h1), retO_own rfl]
  have hfin : accW t .twice ((rgD 1 ((words t).length - 1)).length + 1) = perWord t .twice := by
    rw [rgD_len]
    by_cases h0 : (words t).length = 0
    · have : words t = [] := List.eq_nil_of_length_eq_zero h0
      simp [accW, perWord, this]
    · rw [show (words t).length - 1 + 1 = (words t).length by omega, accW_all]
  simp only [hfin]
/-! ### filters over words -/
theorem perWord_filter {t : List Nat} {r : Rule} {p : Nat × Nat → Bool} {g : Nat × Nat → Flt} (h : ∀ k w, atWord t (words t) r k w = if p w then [g w] else []) : perWord t r = ((words t).filter p).map g := by
  unfold perWord
  have key : ∀ (l : List (Nat × Nat)) (n : Nat), ((l.zipIdx n).map fun q => atWord t (words t) r q.2 q.1).flatten = (l.filter p).map g := by
    intro l
    induction l with
    | nil => intro n; simp
    | cons w r ih =>
      intro n
      rw [List.zipIdx_cons, List.map_cons, List.flatten_cons, ih (n + 1), h]
      by_cases hp : p w = true
      · simp [hp]
      · simp [hp]
  exact key (words t) 0
theorem rule_at0 {r : Rule} : ∃ w rest, r.d = .tup (.str w :: rest) ∧ ixO r.d (.int 0) = some (.str w) := by
  cases r <;> exact ⟨_, _, rfl, rfl⟩
def Rule.nm : Rule → List Nat
  | .twice => wTwice
  | .blanks => wBlanks
  | .great => wGreat
  | .word _ _ => wWord
  | .long _ => wLong
  | .sign _ => wSign
theorem rule_ix0 (r : Rule) : ixO r.d (.int 0) = some (.str r.nm) := by cases r <;> rfl
/-- rule[0] == x -/
theorem rule_tst {r : Rule} {x : List Nat} {e : En} (h : getE 1 e = .ok r.d) : tstF (bopF eqO (bopF ixO (getE 1) (cD (.int 0))) (cD (.str x))) e = .ok (r.nm == x) :=
  tst_bop (bop_ok h rfl (rule_ix0 r)) rfl eqO_ss
theorem set_two {a b c x3 x4 x5 : Sl} {w : Nat × Nat} : setT (.tp [.nm 3, .nm 4]) (wD w) [a, b, c, x3, x4, x5] = .ok [a, b, c, .dat (.int (w.1 : Nat)), .dat (.int (w.2 : Nat)), x5] := by
  simp [setT, setTs, setN, wD]
/-- a comprehension over words, with a test -/
theorem comp_words {t : List Nat} {a b c x5 : Sl} {x3 x4 : Sl} {ws : List (Nat × Nat)} {fi : En → Res (List D)} {tt : En → Res Bool} {te : En → Res D} {p : Nat × Nat → Bool} {g : Nat × Nat → Flt} (hws : ws.length ≤ 1000)
    (hi : fi [a, b, c, x3, x4, x5] = .ok (ws.map wD)) (ht : ∀ w ∈ ws, tt [a, b, c, .dat (.int (w.1 : Nat)), .dat (.int (w.2 : Nat)), x5] = .ok (p w)) (hg : ∀ w ∈ ws, te [a, b, c, .dat (.int (w.1 : Nat)), .dat (.int (w.2 : Nat)), x5] = .ok (fD (g w))) :
    compF [3, 4] fi (.tp [.nm 3, .nm 4]) tt te [a, b, c, x3, x4, x5] = .ok (((ws.filter p).map g).map fD) := by
  let pD : D → Bool := fun d => match d with
    | .tup [.int b, .int e] => p (b.toNat, e.toNat)
    | _ => false
  let gD : D → D := fun d => match d with
    | .tup [.int b, .int e] => fD (g (b.toNat, e.toNat))
    | _ => .non
  have e1 : ((ws.filter p).map g).map fD = ((ws.map wD).filter pD).map gD := by
    rw [List.filter_map, List.map_map, List.map_map]
    have hp : (pD ∘ wD) = p := by funext w; simp [pD, wD]
    rw [hp]
    apply List.map_congr_left
    intro w _
    simp [gD, wD]
  rw [e1]
  refine compF_ok (items := ws.map wD) hi (le_sz (by simp; omega)) (lcF_filter fun d hd => ?_)
  obtain ⟨w, hw, rfl⟩ := List.mem_map.mp hd
  refine ⟨_, by simp only [wipeE_cons, wipeE_nil, List.set]; exact set_two, ?_, fun _ => ⟨?_, ?_⟩⟩
  · rw [ht w hw]; simp [pD, wD]
  · rw [hg w hw]; simp [gD, wD]
  · simp only [gD, wD]; exact fD_lf _
theorem retN_ok {f : En → Res (List D)} {e : En} {xs : List D} (h : f e = .ok xs) : retN f e = .ok (.rl xs) := by
  rw [retN_ap, h]; rfl
theorem f_faults {t : List Nat} {r : Rule} (ht : t.length ≤ 1000) (ha : t.all (· < 128) = true) : f_faults_of [.str t, r.d] = .ok ((faults t r).map fD) := by
  unfold f_faults_of runL B_faults_of
  have e0 : initE 6 [.str t, r.d] = [.dat (.str t), .dat r.d, .un, .un, .un, .un] := rfl
  rw [e0]
  have hwl := words_len t
  have h1 : ∀ x : List Nat, tstF (bopF eqO (bopF ixO (getE 1) (cD (.int 0))) (cD (.str x))) [.dat (.str t), .dat r.d, .un, .un, .un, .un] = .ok (r.nm == x) := fun x => rule_tst rfl
  have skip : ∀ {x : List Nat} {A B : En → Res Fl} {e : En}, getE 1 e = .ok r.d → (r.nm == x) = false → seqS (ifS (tstF (bopF eqO (bopF ixO (getE 1) (cD (.int 0))) (cD (.str x)))) A nilS) B e = B e := fun {x A B e} hg hx => by
    rw [seqS_nx (e1 := e) (by rw [ifS_no (by rw [rule_tst hg, hx])]; rfl)]
  have take : ∀ {x : List Nat} {f : En → Res (List D)} {B : En → Res Fl} {e : En} {xs : List D}, getE 1 e = .ok r.d → (r.nm == x) = true → f e = .ok xs → seqS (ifS (tstF (bopF eqO (bopF ixO (getE 1) (cD (.int 0))) (cD (.str x)))) (retN f) nilS) B e = .ok (.rl xs) := fun {x f B e xs} hg hx hf => by
    rw [seqS_ap, ifS_yes (by rw [rule_tst hg, hx]), retN_ok hf]; rfl
  cases r with
  | twice =>
    have h2 : fnF 1 f_twice (consF (getE 0) nilF) [.dat (.str t), .dat Rule.twice.d, .un, .un, .un, .un] = .ok ((perWord t .twice).map fD) := fn_ok (cons_ok rfl rfl) rfl (f_twice_ok ht ha)
    rw [take rfl rfl h2]
    rfl
  | great =>
    have h2 : fnF 1 f_great (consF (getE 0) nilF) [.dat (.str t), .dat Rule.great.d, .un, .un, .un, .un] = .ok ((perWord t .great).map fD) := fn_ok (cons_ok rfl rfl) rfl (f_great_ok ht ha)
    rw [skip rfl rfl, take rfl rfl h2]
    rfl
  | blanks =>
    have hrl := runs_len (fun c => decide (c ∈ [32])) _ 0 t (Nat.le_refl _)
    rw [skip rfl rfl, skip rfl rfl, take rfl rfl (comp_words (t := t) (ws := runs (fun c => decide (c ∈ [32])) 0 t) (p := fun w => decide (w.1 + 1 < w.2)) (g := fun w => ⟨w.1 + 1, w.2, some []⟩) (by omega) ?_ (fun w _ => ?_) (fun w _ => ?_))]
    · rfl
    · have hst : fnF 2 f_stretches (consF (getE 0) (consF (cD (.str [32])) nilF)) [.dat (.str t), .dat Rule.blanks.d, .un, .un, .un, .un] = .ok ((runs (fun c => decide (c ∈ [32])) 0 t).map wD) := fn_ok (cons_ok rfl (cons_ok rfl rfl)) rfl (f_stretch ht)
      rw [itF_ap, mkL_ap, hst]; rfl
    · refine (tst_bop (x := .int (w.2 : Nat)) (y := .int ((w.1 : Nat) + 1)) (by simp) (by simp) gtO_ii).trans ?_
      congr 1
      rw [Bool.eq_iff_iff, decide_eq_true_eq, decide_eq_true_eq]
      omega
    · exact tup3 (by simp) (by simp) rfl
  | sign c =>
    have h2 : compF [5] (itF asRng1 (consF (callF lenO (consF (getE 0) nilF)) nilF)) (.nm 5) (tstF (bopF eqO (bopF ixO (getE 0) (getE 5)) (bopF ixO (getE 1) (cD (.int 1))))) (tupF (consF (getE 5) (consF (bopF addO (getE 5) (cD (.int 1))) (consF (cD (.str [])) nilF)))) [.dat (.str t), .dat (Rule.sign c).d, .un, .un, .un, .un] = .ok ((signs t c).map fD) := by
      let pD : D → Bool := fun d => match d with
        | .int k => decide (t[k.toNat]? = some c)
        | _ => false
      let gD : D → D := fun d => match d with
        | .int k => fD ⟨k.toNat, k.toNat + 1, some []⟩
        | _ => .non
      have e1 : (signs t c).map fD = ((rgD 0 t.length).filter pD).map gD := by
        unfold signs rgD
        rw [List.filter_map, List.map_map, List.map_map]
        have hp : (pD ∘ fun i : Nat => D.int (0 + (i : Nat))) = fun k => decide (t[k]? = some c) := by funext k; simp [pD]
        rw [hp]
        apply List.map_congr_left
        intro k _
        simp [gD]
      rw [e1]
      refine compF_ok (items := rgD 0 t.length) ?_ (le_sz (by rw [rgD_len]; omega)) (lcF_filter fun d hd => ?_)
      · simp only [itF_ap, consF_ap, callF_ap, getE_dat, rb_ok, nilF_ap, len_str ht, ofO_some]
        exact asRng1_nat (by omega)
      · simp only [rgD, List.mem_map, List.mem_range] at hd
        obtain ⟨k, hk, rfl⟩ := hd
        have hc : t[k]? = some t[k] := List.getElem?_eq_getElem hk
        refine ⟨[.dat (.str t), .dat (Rule.sign c).d, .un, .un, .un, .dat (.int ((k : Nat) : Int))], by simp [setN], ?_, fun _ => ⟨?_, by simp only [gD]; exact fD_lf _⟩⟩
        · refine (tst_bop (bop_ok (x := .str t) (y := .int (k : Nat)) (by simp) (by simp) (ix_str ht hc)) (bop_ok (x := (Rule.sign c).d) (y := .int 1) (z := .str [c]) (by simp) rfl (atI_n (i := 1) rfl)) eqO_ss).trans ?_
          congr 1
          rw [Bool.eq_iff_iff, beq_iff_eq]
          simp [pD, hc]
        · have : gD (.int (0 + (k : Nat))) = fD ⟨k, k + 1, some []⟩ := by simp [gD]
          rw [this]
          exact tup3 (by simp) (by simp) rfl
    rw [skip rfl rfl, skip rfl rfl, skip rfl rfl, take rfl rfl h2]
    rfl
  | long n =>
    have h3 : perWord t (.long n) = ((words t).filter fun w => decide (n < ((w.2 - w.1 : Nat) : Int))).map fun w => ⟨w.1, w.2, none⟩ := perWord_filter fun k w => by simp [atWord]
    rw [skip rfl rfl, skip rfl rfl, skip rfl rfl, skip rfl rfl, seqS_nx (asgL_ok (str_words ht rfl) (wD_lf _))]
    simp only [List.set]
    have h2 : compF [3, 4] (itF asLst (getE 2)) (.tp [.nm 3, .nm 4]) (tstF (bopF gtO (bopF subI (getE 4) (getE 3)) (bopF ixO (getE 1) (cD (.int 1))))) (tupF (consF (getE 3) (consF (getE 4) (consF (cD .non) nilF)))) [.dat (.str t), .dat (Rule.long n).d, .dat (.lst ((words t).map wD)), .un, .un, .un] = .ok ((perWord t (.long n)).map fD) := by
      rw [h3]
      refine comp_words (t := t) (ws := words t) (by omega) (by simp) (fun w hw => ?_) (fun w _ => tup3 (by simp) (by simp) rfl)
      have := (words_ok t).lt w hw
      refine (tst_bop (x := .int ((w.2 : Nat) - (w.1 : Nat))) (y := .int n) (by simp) (bop_ok (x := (Rule.long n).d) (y := .int 1) (by simp) rfl (atI_n (i := 1) rfl)) gtO_ii).trans ?_
      congr 1
      rw [Bool.eq_iff_iff, decide_eq_true_eq, decide_eq_true_eq]
      omega
    rw [take rfl rfl h2]
    rfl
  | word x y =>
    have h3 : perWord t (.word x y) = ((words t).filter fun w => decide (low (cut t w.1 w.2) = x)).map fun w => ⟨w.1, w.2, some y⟩ := perWord_filter fun k w => by simp [atWord]
    rw [skip rfl rfl, skip rfl rfl, skip rfl rfl, skip rfl rfl, seqS_nx (asgL_ok (str_words ht rfl) (wD_lf _))]
    simp only [List.set]
    have h2 : compF [3, 4] (itF asLst (getE 2)) (.tp [.nm 3, .nm 4]) (tstF (bopF eqO (uopF lowO (slF slO (getE 0) (soP (getE 3)) (soP (getE 4)))) (bopF ixO (getE 1) (cD (.int 1))))) (tupF (consF (getE 3) (consF (getE 4) (consF (bopF ixO (getE 1) (cD (.int 2))) nilF)))) [.dat (.str t), .dat (Rule.word x y).d, .dat (.lst ((words t).map wD)), .un, .un, .un] = .ok ((perWord t (.word x y)).map fD) := by
      rw [h3]
      refine comp_words (t := t) (ws := words t) (by omega) (by simp) (fun w hw => ?_) (fun w _ => tup3 (by simp) (by simp) (bop_ok (x := (Rule.word x y).d) (y := .int 2) (by simp) rfl (atI_n (i := 2) rfl)))
      have := (words_ok t).lt w hw
      refine (tst_bop (uop_ok (sl_cut (b := w.1) (e := w.2) ht (by omega) (by omega) (by simp) (soP_ok (by simp)) (soP_ok (by simp))) (low_str (by have := cut_len_le t w.1 w.2; omega) (cut_all ha))) (bop_ok (x := (Rule.word x y).d) (y := .int 1) (z := .str x) (by simp) rfl (atI_n (i := 1) rfl)) eqO_ss).trans ?_
      congr 1
      rw [Bool.eq_iff_iff, beq_iff_eq, decide_eq_true_eq]
    rw [skip rfl rfl, retN_ok h2]
    rfl
end FM

set_option Elab.async false
set_option linter.all false
set_option maxRecDepth 100000
/-! L02: the law's faults. -/
namespace FM
open PySem PyProof.Rows L2
noncomputable def i1 : En → Res Fl := (ifS (andF (tstF (bopF eqO (bopF ixO (getE 1) (cD (.int 0))) (cD (.str wLong)))) (tstF (bopF gtO (callF lenO (consF (getE 7) nilF)) (bopF ixO (getE 1) (cD (.int 1)))))) (appS 3 (tupF (consF (getE 5) (consF (getE 6) (consF (cD .non) nilF))))) nilS)
noncomputable def i2 : En → Res Fl := (ifS (andF (tstF (bopF eqO (bopF ixO (getE 1) (cD (.int 0))) (cD (.str wWord)))) (tstF (bopF eqO (uopF lowO (getE 7)) (bopF ixO (getE 1) (cD (.int 1)))))) (appS 3 (tupF (consF (getE 5) (consF (getE 6) (consF (bopF ixO (getE 1) (cD (.int 2))) nilF))))) nilS)
noncomputable def i3 : En → Res Fl := (ifS (andF (tstF (bopF eqO (bopF ixO (getE 1) (cD (.int 0))) (cD (.str wGreat)))) (andF (tstF (bopF inO (cD (.str [46])) (getE 8))) (tstF (bopF eqO (bopF ixO (getE 7) (cD (.int 0))) (uopF lowO (bopF ixO (getE 7) (cD (.int 0)))))))) (appS 3 (tupF (consF (getE 5) (consF (bopF addO (getE 5) (cD (.int 1))) (consF (uopF uppO (bopF ixO (getE 7) (cD (.int 0)))) nilF))))) nilS)
noncomputable def i4 : En → Res Fl := (ifS (andF (tstF (bopF eqO (bopF ixO (getE 1) (cD (.int 0))) (cD (.str wTwice)))) (andF (tstF (bopF gtO (getE 4) (cD (.int 0)))) (tstF (bopF eqO (getE 8) (bopF mulS (cD (.str [32])) (callF lenO (consF (getE 8) nilF))))))) (seqS (asgS (.tp [(.nm 9), (.nm 10)]) (bopF ixO (getE 2) (bopF subI (getE 4) (cD (.int 1)))))
  (ifS (tstF (bopF eqO (uopF lowO (slF slO (getE 0) (soP (getE 9)) (soP (getE 10)))) (uopF lowO (getE 7)))) (appS 3 (tupF (consF (getE 10) (consF (getE 6) (consF (cD (.str [])) nilF))))) nilS)) nilS)
noncomputable def bL : En → Res Fl := (seqS (asgS (.nm 7) (slF slO (getE 0) (soP (getE 5)) (soP (getE 6))))
  (seqS (asgS (.nm 8) (ifF (tstF (bopF gtO (getE 4) (cD (.int 0)))) (slF slO (getE 0) (soP (bopF ixO (bopF ixO (getE 2) (bopF subI (getE 4) (cD (.int 1)))) (cD (.int 1)))) (soP (getE 5))) (cD (.str [46]))))
  (seqS i1 (seqS i2 (seqS i3 i4)))))
abbrev eL (t : List Nat) (r : Rule) (fs : List Flt) (i : Nat) (w : Nat × Nat) (x7 x8 x9 x10 x11 : Sl) : En := [.dat (.str t), .dat r.d, .dat (.lst ((words t).map wD)), .own (fs.map fD), .dat (.int (i : Nat)), .dat (.int (w.1 : Nat)), .dat (.int (w.2 : Nat)), x7, x8, x9, x10, x11]
def gapL (t : List Nat) (i : Nat) (w : Nat × Nat) : List Nat := if 0 < i then cut t (prevE (words t) i) w.1 else [46]
section
variable {t : List Nat} {r : Rule} {fs : List Flt} {i : Nat} {w : Nat × Nat} {x9 x10 x11 : Sl}
theorem skipR {x : List Nat} {tt : En → Res Bool} {A : En → Res Fl} {e : En} (h : getE 1 e = .ok r.d) (hx : (r.nm == x) = false) : ifS (andF (tstF (bopF eqO (bopF ixO (getE 1) (cD (.int 0))) (cD (.str x)))) tt) A nilS e = .ok (.nx e) := by
  rw [ifS_no (by rw [andF_ap, rule_tst h, hx, rb_ok]; rfl)]; rfl
theorem sk1 {e : En} (r : Rule) (h : getE 1 e = .ok r.d) (hx : (r.nm == wLong) = false) : i1 e = .ok (.nx e) := skipR h hx
theorem sk2 {e : En} (r : Rule) (h : getE 1 e = .ok r.d) (hx : (r.nm == wWord) = false) : i2 e = .ok (.nx e) := skipR h hx
theorem sk3 {e : En} (r : Rule) (h : getE 1 e = .ok r.d) (hx : (r.nm == wGreat) = false) : i3 e = .ok (.nx e) := skipR h hx
theorem sk4 {e : En} (r : Rule) (h : getE 1 e = .ok r.d) (hx : (r.nm == wTwice) = false) : i4 e = .ok (.nx e) := skipR h hx
theorem andR {x : List Nat} {tt : En → Res Bool} {e : En} (h : getE 1 e = .ok r.d) (hx : (r.nm == x) = true) : andF (tstF (bopF eqO (bopF ixO (getE 1) (cD (.int 0))) (cD (.str x)))) tt e = tt e := by
  rw [andF_ap, rule_tst h, hx, rb_ok]; rfl
theorem cut_0 {t : List Nat} {b e : Nat} {c : Nat} (hc : t[b]? = some c) (h : b < e) : ∃ l, cut t b e = c :: l := by
  have hb : b < t.length := (List.getElem?_eq_some_iff.mp hc).1
  have he := (List.getElem?_eq_some_iff.mp hc).2
  refine ⟨(t.drop (b + 1)).take (e - b - 1), ?_⟩
  unfold cut
  rw [List.drop_eq_getElem_cons hb, he, show e - b = (e - b - 1) + 1 by omega, List.take_succ_cons]
  rfl
theorem lo_small {c : Nat} (h : isL c = true) : ([c] == [lo1 c]) = isSm c := by
  have hl : isSm c = true ∨ isGr c = true := by
    have hm : c ∈ tLetters := by simpa using h
    have key : tLetters.all (fun c => isSm c || isGr c) = true := by decide
    have := List.all_eq_true.mp key c hm
    simpa using this
  rw [Bool.eq_iff_iff, beq_iff_eq]
  unfold lo1
  rcases hl with h1 | h1 <;> simp only [isSm, isGr, Bool.and_eq_true, decide_eq_true_eq] at h1 ⊢
  · rw [if_neg (by omega)]; simp; omega
  · rw [if_pos (by omega)]; simp; omega
theorem mul_blank {l : List Nat} (h : l.length ≤ 1000) : mulS (.str [32]) (.int (l.length : Nat)) = some (.str (List.replicate l.length 32)) := by
  simp only [mulS]
  rw [if_pos ⟨by omega, by omega, by simp⟩]
  congr 2
  rw [Int.toNat_natCast]
  induction l.length with
  | zero => rfl
  | succ n ih => rw [List.replicate_succ, List.flatten_cons, ih]; rfl
theorem blank_rep {l : List Nat} : (l == List.replicate l.length 32) = blank l := by
  rw [Bool.eq_iff_iff, beq_iff_eq]
  unfold blank
  induction l with
  | nil => simp
  | cons c r ih => simp [List.replicate_succ, ih]
theorem bL_head {x7 x8 : Sl} (ht : t.length ≤ 1000) (h : (words t)[i]? = some w) {B : En → Res Fl} :
    seqS (asgS (.nm 7) (slF slO (getE 0) (soP (getE 5)) (soP (getE 6)))) (seqS (asgS (.nm 8) (ifF (tstF (bopF gtO (getE 4) (cD (.int 0)))) (slF slO (getE 0) (soP (bopF ixO (bopF ixO (getE 2) (bopF subI (getE 4) (cD (.int 1)))) (cD (.int 1)))) (soP (getE 5))) (cD (.str [46])))) B) (eL t r fs i w x7 x8 x9 x10 x11) =
    B (eL t r fs i w (.dat (.str (cut t w.1 w.2))) (.dat (.str (gapL t i w))) x9 x10 x11) := by
  have l2 := (words_ok t).lt w (List.mem_of_getElem? h)
  rw [seqS_nx (asg_lf (d := .str (cut t w.1 w.2)) rfl (sl_cut ht (by omega) (by omega) (by simp) (soP_ok (by simp)) (soP_ok (by simp))))]
  simp only [List.set]
  rw [seqS_nx (asg_lf (d := .str (gapL t i w)) rfl ?_)]
  · rfl
  · unfold gapL
    by_cases h0 : 0 < i
    · obtain ⟨v, hv, e1, e2, q1, q2, q3, q4⟩ := prev_at h h0
      have hi1 : ((i : Nat) : Int) - 1 = ((i - 1 : Nat) : Int) := by omega
      have hgt : (0 : Int) < ((i : Nat) : Int) := by omega
      rw [if_pos h0, ifF_ap, tst_bop (x := .int (i : Nat)) (y := .int 0) (by simp) rfl gtO_ii, rb_ok, decide_eq_true hgt, if_pos rfl, e1]
      exact sl_cut ht (by omega) (by omega) (by simp) (soP_ok (bop_ok (bop_ok (x := .lst ((words t).map wD)) (y := .int ((i - 1 : Nat) : Int)) (z := wD v) (by simp) (by simp [hi1]) (by rw [ixO_lst]; exact ix_words hv)) rfl (w_at1 v))) (soP_ok (by simp))
    · have hgt : ¬ (0 : Int) < ((i : Nat) : Int) := by omega
      rw [if_neg h0, ifF_ap, tst_bop (x := .int (i : Nat)) (y := .int 0) (by simp) rfl gtO_ii, rb_ok, decide_eq_false hgt, if_neg Bool.false_ne_true]
      rfl
theorem app3 {x7 x8 : Sl} {f : En → Res D} {d : Flt} (hf : fs.length ≤ 1000) (h : f (eL t r fs i w x7 x8 x9 x10 x11) = .ok (fD d)) : appS 3 f (eL t r fs i w x7 x8 x9 x10 x11) = .ok (.nx (eL t r (fs ++ [d]) i w x7 x8 x9 x10 x11)) := by
  rw [app_own (xs := fs.map fD) rfl h (fD_lf _) (by simp; omega)]
  simp
theorem bL_run {x7 x8 : Sl} (ht : t.length ≤ 1000) (ha : t.all (· < 128) = true) (h : (words t)[i]? = some w) (hf : fs.length ≤ 1000) :
    ∃ y7 y8 y9 y10, bL (eL t r fs i w x7 x8 x9 x10 x11) = .ok (.nx (eL t r (fs ++ atWord t (words t) r i w) i w y7 y8 y9 y10 x11)) := by
  have l2 := (words_ok t).lt w (List.mem_of_getElem? h)
  have hcl := cut_len (t := t) (b := w.1) (e := w.2) (by omega) (by omega)
  unfold bL
  rw [bL_head ht h]
  cases r with
  | blanks =>
    refine ⟨.dat (.str (cut t w.1 w.2)), .dat (.str (gapL t i w)), x9, x10, ?_⟩
    rw [seqS_nx (sk1 .blanks rfl rfl), seqS_nx (sk2 .blanks rfl rfl), seqS_nx (sk3 .blanks rfl rfl), sk4 .blanks rfl rfl]
    simp [atWord]
  | sign c =>
    refine ⟨.dat (.str (cut t w.1 w.2)), .dat (.str (gapL t i w)), x9, x10, ?_⟩
    rw [seqS_nx (sk1 (.sign c) rfl rfl), seqS_nx (sk2 (.sign c) rfl rfl), seqS_nx (sk3 (.sign c) rfl rfl), sk4 (.sign c) rfl rfl]
    simp [atWord]
  | long n =>
    refine ⟨.dat (.str (cut t w.1 w.2)), .dat (.str (gapL t i w)), x9, x10, ?_⟩
    have h1 : i1 (eL t (.long n) fs i w (.dat (.str (cut t w.1 w.2))) (.dat (.str (gapL t i w))) x9 x10 x11) = .ok (.nx (eL t (.long n) (fs ++ atWord t (words t) (.long n) i w) i w (.dat (.str (cut t w.1 w.2))) (.dat (.str (gapL t i w))) x9 x10 x11)) := by
      have htst : andF (tstF (bopF eqO (bopF ixO (getE 1) (cD (.int 0))) (cD (.str wLong)))) (tstF (bopF gtO (callF lenO (consF (getE 7) nilF)) (bopF ixO (getE 1) (cD (.int 1))))) (eL t (.long n) fs i w (.dat (.str (cut t w.1 w.2))) (.dat (.str (gapL t i w))) x9 x10 x11) = .ok (decide (n < ((w.2 - w.1 : Nat) : Int))) := by
        rw [andR rfl rfl]
        refine tst_bop (x := .int ((w.2 - w.1 : Nat) : Int)) (y := .int n) ?_ (bop_ok (x := (Rule.long n).d) (y := .int 1) (by simp) rfl (atI_n (i := 1) rfl)) gtO_ii
        simp only [callF_ap, consF_ap, getE_7, getE_6, getE_5, getE_4, getE_3, getE_2, getE_1, getE_dat, rb_ok, nilF_ap, len_str (by rw [hcl]; omega), hcl]
        rfl
      unfold i1
      simp only [atWord]
      by_cases hn : n < ((w.2 - w.1 : Nat) : Int)
      · rw [decide_eq_true hn] at htst
        rw [ifS_yes htst, if_pos hn, app3 (d := ⟨w.1, w.2, none⟩) hf (tup3 (by simp) (by simp) rfl)]
      · rw [decide_eq_false hn] at htst
        rw [ifS_no htst, if_neg hn, List.append_nil]
        rfl
    rw [seqS_nx h1, seqS_nx (sk2 (.long n) rfl rfl), seqS_nx (sk3 (.long n) rfl rfl), sk4 (.long n) rfl rfl]
  | word x y =>
    refine ⟨.dat (.str (cut t w.1 w.2)), .dat (.str (gapL t i w)), x9, x10, ?_⟩
    have h1 : i2 (eL t (.word x y) fs i w (.dat (.str (cut t w.1 w.2))) (.dat (.str (gapL t i w))) x9 x10 x11) = .ok (.nx (eL t (.word x y) (fs ++ atWord t (words t) (.word x y) i w) i w (.dat (.str (cut t w.1 w.2))) (.dat (.str (gapL t i w))) x9 x10 x11)) := by
      have htst : andF (tstF (bopF eqO (bopF ixO (getE 1) (cD (.int 0))) (cD (.str wWord)))) (tstF (bopF eqO (uopF lowO (getE 7)) (bopF ixO (getE 1) (cD (.int 1))))) (eL t (.word x y) fs i w (.dat (.str (cut t w.1 w.2))) (.dat (.str (gapL t i w))) x9 x10 x11) = .ok (low (cut t w.1 w.2) == x) := by
        rw [andR rfl rfl]
        exact tst_bop (uop_ok (by simp) (low_str (by rw [hcl]; omega) (cut_all ha))) (bop_ok (x := (Rule.word x y).d) (y := .int 1) (z := .str x) (by simp) rfl (atI_n (i := 1) rfl)) eqO_ss
      unfold i2
      simp only [atWord]
      by_cases hn : low (cut t w.1 w.2) = x
      · rw [beq_iff_eq.mpr hn] at htst
        rw [ifS_yes htst, if_pos hn, app3 (d := ⟨w.1, w.2, some y⟩) hf (tup3 (by simp) (by simp) (bop_ok (x := (Rule.word x y).d) (y := .int 2) (by simp) rfl (atI_n (i := 2) rfl)))]
      · rw [beq_false_of_ne hn] at htst
        rw [ifS_no htst, if_neg hn, List.append_nil]
        rfl
    rw [seqS_nx (sk1 (.word x y) rfl rfl), seqS_nx h1, seqS_nx (sk3 (.word x y) rfl rfl), sk4 (.word x y) rfl rfl]
  | great =>
    have hc : t[w.1]? = some (t.getD w.1 0) := by
      rw [List.getD_eq_getElem?_getD, List.getElem?_eq_getElem (by omega)]
      rfl
    have hc128 : t.getD w.1 0 < 128 := by
      have := List.all_eq_true.mp ha _ (List.mem_of_getElem? hc)
      simpa using this
    obtain ⟨c0, hc0, hL⟩ := (words_ok t).in_ w (List.mem_of_getElem? h) w.1 (Nat.le_refl _) l2.1
    have hL' : isL (t.getD w.1 0) = true := by
      rw [hc] at hc0
      rw [Option.some.inj hc0]
      exact hL
    obtain ⟨tl, htl⟩ := cut_0 hc l2.1
    refine ⟨.dat (.str (cut t w.1 w.2)), .dat (.str (gapL t i w)), x9, x10, ?_⟩
    have h7 : bopF ixO (getE 7) (cD (.int 0)) (eL t .great fs i w (.dat (.str (cut t w.1 w.2))) (.dat (.str (gapL t i w))) x9 x10 x11) = .ok (.str [t.getD w.1 0]) :=
      bop_ok (x := .str (cut t w.1 w.2)) (y := .int 0) (by simp) rfl (ix_str (i := 0) (by rw [hcl]; omega) (by rw [htl]; rfl))
    have hlo : lowO (.str [t.getD w.1 0]) = some (.str [lo1 (t.getD w.1 0)]) := low_str (by simp) (by simpa using hc128)
    have h1 : i3 (eL t .great fs i w (.dat (.str (cut t w.1 w.2))) (.dat (.str (gapL t i w))) x9 x10 x11) = .ok (.nx (eL t .great (fs ++ atWord t (words t) .great i w) i w (.dat (.str (cut t w.1 w.2))) (.dat (.str (gapL t i w))) x9 x10 x11)) := by
      have htst : andF (tstF (bopF eqO (bopF ixO (getE 1) (cD (.int 0))) (cD (.str wGreat)))) (andF (tstF (bopF inO (cD (.str [46])) (getE 8))) (tstF (bopF eqO (bopF ixO (getE 7) (cD (.int 0))) (uopF lowO (bopF ixO (getE 7) (cD (.int 0))))))) (eL t .great fs i w (.dat (.str (cut t w.1 w.2))) (.dat (.str (gapL t i w))) x9 x10 x11) = .ok (decide (46 ∈ gapL t i w) && isSm (t.getD w.1 0)) := by
        rw [andR rfl rfl, andF_ap, tst_bop (y := .str (gapL t i w)) rfl (by simp) in_chr, rb_ok, tst_bop h7 (uop_ok h7 hlo) eqO_ss, lo_small hL']
        cases decide (46 ∈ gapL t i w) <;> rfl
      have hgap : 46 ∈ gapL t i w ↔ (i = 0 ∨ 46 ∈ cut t (prevE (words t) i) w.1) := by
        unfold gapL
        by_cases h0 : 0 < i
        · rw [if_pos h0]
          constructor
          · exact fun z => .inr z
          · rintro (z | z)
            · omega
            · exact z
        · rw [if_neg h0]
          simp
          omega
      unfold i3
      simp only [atWord]
      by_cases hg : (i = 0 ∨ 46 ∈ cut t (prevE (words t) i) w.1) ∧ isSm (t.getD w.1 0) = true
      · rw [decide_eq_true (hgap.mpr hg.1), hg.2] at htst
        rw [ifS_yes htst, if_pos hg, app3 (d := ⟨w.1, w.1 + 1, some [up1 (t.getD w.1 0)]⟩) hf (tup3 (by simp) (by simp) (uop_ok h7 (upp_chr hc128)))]
      · have hz : (decide (46 ∈ gapL t i w) && isSm (t.getD w.1 0)) = false := by
          cases hq : (decide (46 ∈ gapL t i w) && isSm (t.getD w.1 0)) with
          | false => rfl
          | true =>
            rw [Bool.and_eq_true, decide_eq_true_eq] at hq
            exact absurd ⟨hgap.mp hq.1, hq.2⟩ hg
        rw [hz] at htst
        rw [ifS_no htst, if_neg hg, List.append_nil]
        rfl
    rw [seqS_nx (sk1 .great rfl rfl), seqS_nx (sk2 .great rfl rfl), seqS_nx h1, sk4 .great rfl rfl]
  | twice =>
    have h1 : ∃ y9 y10, i4 (eL t .twice fs i w (.dat (.str (cut t w.1 w.2))) (.dat (.str (gapL t i w))) x9 x10 x11) = .ok (.nx (eL t .twice (fs ++ atWord t (words t) .twice i w) i w (.dat (.str (cut t w.1 w.2))) (.dat (.str (gapL t i w))) y9 y10 x11)) := by
      have hgl : (gapL t i w).length ≤ 1000 := by
        unfold gapL
        split
        · have := cut_len_le t (prevE (words t) i) w.1; omega
        · simp
      have htst : andF (tstF (bopF eqO (bopF ixO (getE 1) (cD (.int 0))) (cD (.str wTwice)))) (andF (tstF (bopF gtO (getE 4) (cD (.int 0)))) (tstF (bopF eqO (getE 8) (bopF mulS (cD (.str [32])) (callF lenO (consF (getE 8) nilF)))))) (eL t .twice fs i w (.dat (.str (cut t w.1 w.2))) (.dat (.str (gapL t i w))) x9 x10 x11) = .ok (decide (0 < i) && blank (gapL t i w)) := by
        have hln : callF lenO (consF (getE 8) nilF) (eL t .twice fs i w (.dat (.str (cut t w.1 w.2))) (.dat (.str (gapL t i w))) x9 x10 x11) = .ok (.int ((gapL t i w).length : Nat)) := by
          simp only [callF_ap, consF_ap, getE_8, getE_7, getE_6, getE_5, getE_4, getE_3, getE_2, getE_1, getE_dat, rb_ok, nilF_ap, len_str hgl]
          rfl
        rw [andR rfl rfl, andF_ap, tst_bop (x := .int (i : Nat)) (y := .int 0) (by simp) rfl gtO_ii, rb_ok, tst_bop (x := .str (gapL t i w)) (by simp) (bop_ok rfl hln (mul_blank hgl)) eqO_ss, blank_rep]
        have : decide ((0 : Int) < ((i : Nat) : Int)) = decide (0 < i) := by
          rw [Bool.eq_iff_iff, decide_eq_true_eq, decide_eq_true_eq]; omega
        rw [this]
        cases decide (0 < i) <;> rfl
      unfold i4
      simp only [atWord]
      by_cases h0 : 0 < i
      · obtain ⟨v, hv, e1, e2, q1, q2, q3, q4⟩ := prev_at h h0
        have hgap : gapL t i w = cut t v.2 w.1 := by unfold gapL; rw [if_pos h0, e1]
        rw [decide_eq_true h0, Bool.true_and] at htst
        rw [e1, e2]
        by_cases hb : blank (cut t v.2 w.1) = true
        · rw [hgap, hb] at htst
          have hi1 : ((i : Nat) : Int) - 1 = ((i - 1 : Nat) : Int) := by omega
          refine ⟨.dat (.int (v.1 : Nat)), .dat (.int (v.2 : Nat)), ?_⟩
          rw [hgap, ifS_yes htst]
          have hset : asgS (.tp [.nm 9, .nm 10]) (bopF ixO (getE 2) (bopF subI (getE 4) (cD (.int 1)))) (eL t .twice fs i w (.dat (.str (cut t w.1 w.2))) (.dat (.str (cut t v.2 w.1))) x9 x10 x11) = .ok (.nx (eL t .twice fs i w (.dat (.str (cut t w.1 w.2))) (.dat (.str (cut t v.2 w.1))) (.dat (.int (v.1 : Nat))) (.dat (.int (v.2 : Nat))) x11)) := by
            rw [asgS_ap, bop_ok (x := .lst ((words t).map wD)) (y := .int ((i - 1 : Nat) : Int)) (z := wD v) (by simp) (by simp [hi1]) (by rw [ixO_lst]; exact ix_words hv), rb_ok]
            simp [setT, setTs, setN, wD]
          rw [seqS_nx hset]
          have ht2 : tstF (bopF eqO (uopF lowO (slF slO (getE 0) (soP (getE 9)) (soP (getE 10)))) (uopF lowO (getE 7))) (eL t .twice fs i w (.dat (.str (cut t w.1 w.2))) (.dat (.str (cut t v.2 w.1))) (.dat (.int (v.1 : Nat))) (.dat (.int (v.2 : Nat))) x11) = .ok (low (cut t v.1 v.2) == low (cut t w.1 w.2)) :=
            tst_bop (uop_ok (sl_cut (b := v.1) (e := v.2) ht (by omega) (by omega) (by simp) (soP_ok (by simp)) (soP_ok (by simp))) (low_str (by have := cut_len_le t v.1 v.2; omega) (cut_all ha))) (uop_ok (x := .str (cut t w.1 w.2)) (by simp) (low_str (by rw [hcl]; omega) (cut_all ha))) eqO_ss
          by_cases hq : low (cut t v.1 v.2) = low (cut t w.1 w.2)
          · rw [beq_iff_eq.mpr hq] at ht2
            rw [ifS_yes ht2, if_pos ⟨h0, hb, hq⟩, app3 (d := ⟨v.2, w.2, some []⟩) hf (tup3 (by simp) (by simp) rfl)]
          · rw [beq_false_of_ne hq] at ht2
            rw [ifS_no ht2, if_neg (fun z => hq z.2.2), List.append_nil]
            rfl
        · have hb' : blank (cut t v.2 w.1) = false := by simpa using hb
          rw [hgap, hb'] at htst
          refine ⟨x9, x10, ?_⟩
          rw [hgap, ifS_no htst, if_neg (fun z => hb z.2.1), List.append_nil]
          rfl
      · rw [decide_eq_false h0, Bool.false_and] at htst
        refine ⟨x9, x10, ?_⟩
        rw [ifS_no htst, if_neg (fun z => h0 z.1), List.append_nil]
        rfl
    obtain ⟨y9, y10, h1⟩ := h1
    refine ⟨.dat (.str (cut t w.1 w.2)), .dat (.str (gapL t i w)), y9, y10, ?_⟩
    rw [seqS_nx (sk1 .twice rfl rfl), seqS_nx (sk2 .twice rfl rfl), seqS_nx (sk3 .twice rfl rfl), h1]
end
end FM

set_option Elab.async false
set_option linter.all false
set_option maxRecDepth 100000
/-! L03: the law's faults, all rules. -/
namespace FM
open PySem PyProof.Rows L2
theorem set_triL {a b c d : Sl} {x4 x5 x6 x7 x8 x9 x10 x11 : Sl} {i : Nat} {w : Nat × Nat} : setT (.tp [.nm 4, .tp [.nm 5, .nm 6]]) (.tup [.int (i : Nat), wD w]) [a, b, c, d, x4, x5, x6, x7, x8, x9, x10, x11] = .ok [a, b, c, d, .dat (.int (i : Nat)), .dat (.int (w.1 : Nat)), .dat (.int (w.2 : Nat)), x7, x8, x9, x10, x11] := by
  simp [setT, setTs, setN, wD]
theorem loopL {t : List Nat} {r : Rule} (ht : t.length ≤ 1000) (ha : t.all (· < 128) = true) : ∃ x4 x5 x6 x7 x8 x9 x10 x11, forF (.tp [.nm 4, .tp [.nm 5, .nm 6]]) bL (enumD ((words t).map wD)) [.dat (.str t), .dat r.d, .dat (.lst ((words t).map wD)), .own [], .un, .un, .un, .un, .un, .un, .un, .un] =
    .ok (.nx [.dat (.str t), .dat r.d, .dat (.lst ((words t).map wD)), .own ((perWord t r).map fD), x4, x5, x6, x7, x8, x9, x10, x11]) := by
  let P : Nat → En → Prop := fun i e => ∃ x4 x5 x6 x7 x8 x9 x10 x11, e = [.dat (.str t), .dat r.d, .dat (.lst ((words t).map wD)), .own ((accW t r i).map fD), x4, x5, x6, x7, x8, x9, x10, x11]
  obtain ⟨e', h1, x4, x5, x6, x7, x8, x9, x10, x11, rfl⟩ := forF_inv (t := .tp [.nm 4, .tp [.nm 5, .nm 6]]) (B := bL) (items := enumD ((words t).map wD)) P (fun i d e hd he => by
    obtain ⟨x4, x5, x6, x7, x8, x9, x10, x11, rfl⟩ := he
    obtain ⟨x, hx, rfl⟩ := enumD_get hd
    simp only [List.getElem?_map, Option.map_eq_some_iff] at hx
    obtain ⟨w, hw, rfl⟩ := hx
    have hi : i < (words t).length := (List.getElem?_eq_some_iff.mp hw).1
    have hl := accW_len t r i
    have hwl := words_len t
    obtain ⟨y7, y8, y9, y10, hb⟩ := bL_run (r := r) (x7 := x7) (x8 := x8) (x9 := x9) (x10 := x10) (x11 := x11) (fs := accW t r i) ht ha hw (by omega)
    exact ⟨_, _, set_triL, hb, _, _, _, y7, y8, y9, y10, x11, by rw [accW_succ hw]⟩) (e := [.dat (.str t), .dat r.d, .dat (.lst ((words t).map wD)), .own [], .un, .un, .un, .un, .un, .un, .un, .un]) ⟨.un, .un, .un, .un, .un, .un, .un, .un, by simp [accW]⟩
  rw [enumD_len, List.length_map, accW_all] at h1
  exact ⟨x4, x5, x6, x7, x8, x9, x10, x11, h1⟩
/-! ### blanks: runs of pairs -/
def pr (p : Nat → Bool) : List Nat → List Nat
  | [] => []
  | [_] => []
  | a :: b :: r => (if p a && p b then 1 else 0) :: pr p (b :: r)
theorem pr_no {p : Nat → Bool} {c : Nat} {r : List Nat} (h : p c = false) : ∀ k, runs (· == 1) k (pr p (c :: r)) = (if r = [] then [] else runs (· == 1) (k + 1) (pr p r)) := by
  intro k
  cases r with
  | nil => simp [pr, runs]
  | cons d r =>
    rw [pr, h]
    simp only [Bool.false_and, Bool.false_eq_true, if_false, List.cons_ne_nil]
    rw [runs]
    simp
/-- the pairs of a run of n + 1 signs with p, then what comes -/
theorem pr_run (p : Nat → Bool) : ∀ (n : Nat) (l r : List Nat), l.length = n + 1 → l.all p = true → pr p (l ++ r) = List.replicate n 1 ++ (match r with | [] => [] | d :: r2 => (if p d then 1 else 0) :: pr p (d :: r2))
  | 0, l, r, h, ha => by
    match l, h with
    | [c], _ =>
      simp only [List.all_cons, List.all_nil, Bool.and_true] at ha
      cases r with
      | nil => simp [pr]
      | cons d r2 => simp [pr, ha]
  | n + 1, l, r, h, ha => by
    match l, h with
    | c :: d :: l2, h =>
      simp only [List.all_cons, Bool.and_eq_true] at ha
      have ih := pr_run p n (d :: l2) r (by simpa using h) (by simp [ha.2.1, ha.2.2])
      rw [List.cons_append, List.cons_append, pr, ha.1, ha.2.1]
      simp only [Bool.and_self, if_true]
      rw [← List.cons_append, ih, List.replicate_succ, List.cons_append]
theorem tw_rep (n : Nat) (q : List Nat) : (List.replicate n 1 ++ 0 :: q).takeWhile (· == 1) = List.replicate n 1 := by
  induction n with
  | zero => simp
  | succ n ih => rw [List.replicate_succ, List.cons_append, List.takeWhile_cons, if_pos (by rfl), ih]
theorem tw_rep0 (n : Nat) : (List.replicate n 1).takeWhile (· == 1) = List.replicate n 1 := by
  induction n with
  | zero => simp
  | succ n ih => rw [List.replicate_succ, List.takeWhile_cons, if_pos (by rfl), ih]
theorem runs_rep (n k : Nat) (q : List Nat) : runs (· == 1) k (List.replicate n 1 ++ 0 :: q) = (if n > 0 then [(k, k + n)] else []) ++ runs (· == 1) (k + n + 1) q := by
  rw [runs_step _ k _ (by simp), tw_rep, List.length_replicate]
  have : (List.replicate n 1 ++ 0 :: q).drop (n + 1) = q := by
    rw [List.drop_append]
    simp
  rw [this]
theorem runs_rep0 (n k : Nat) : runs (· == 1) k (List.replicate n 1) = if n > 0 then [(k, k + n)] else [] := by
  cases n with
  | zero => simp [runs]
  | succ n =>
    rw [runs_step _ k _ (by simp), tw_rep0, List.length_replicate]
    have : (List.replicate (n + 1) 1).drop (n + 1 + 1) = ([] : List Nat) := by simp
    rw [this]
    simp [runs]
theorem pr_runs (p : Nat → Bool) : ∀ (n : Nat) (l : List Nat) (k : Nat), l.length ≤ n → runs (· == 1) (k + 1) (pr p l) = ((runs p k l).filter fun w => decide (w.1 + 1 < w.2)).map fun w => (w.1 + 1, w.2)
  | _, [], k, _ => by simp [pr, runs]
  | 0, c :: r, k, h => by simp at h
  | n + 1, c :: r, k, h => by
    by_cases hc : p c = true
    · have hpre := List.takeWhile_append_dropWhile (p := p) (l := c :: r)
      have hall : ((c :: r).takeWhile p).all p = true := List.all_takeWhile
      obtain ⟨m, hm⟩ : ∃ m, ((c :: r).takeWhile p).length = m + 1 := ⟨(r.takeWhile p).length, by simp [List.takeWhile_cons, hc]⟩
      have hlen : m + 1 + ((c :: r).dropWhile p).length = r.length + 1 := by
        have := congrArg List.length hpre
        rw [List.length_append, hm] at this
        simpa using this
      have hpr := pr_run p m ((c :: r).takeWhile p) ((c :: r).dropWhile p) hm hall
      rw [hpre] at hpr
      have hdrop : (c :: r).drop (m + 1) = (c :: r).dropWhile p := by
        conv => lhs; rw [← hpre]
        rw [List.drop_left' hm]
      have hruns : runs p k (c :: r) = (k, k + (m + 1)) :: runs p (k + (m + 1) + 1) (((c :: r).dropWhile p).drop 1) := by
        conv => lhs; rw [runs]
        rw [if_pos hc, hm, ← hdrop, List.drop_drop]
      rw [hpr, hruns]
      cases hd : (c :: r).dropWhile p with
      | nil =>
        simp only [List.append_nil, List.drop_nil]
        rw [runs_rep0]
        have e0 : runs p (k + (m + 1) + 1) [] = [] := by simp [runs]
        rw [e0]
        by_cases hm0 : m > 0
        · rw [if_pos hm0]
          have : k + 1 < k + (m + 1) := by omega
          simp [this]
          omega
        · rw [if_neg hm0]
          have : ¬ (k + 1 < k + (m + 1)) := by omega
          simp [this]
      | cons d r2 =>
        have hpd : p d = false := by
          have := List.head?_dropWhile_not p (c :: r)
          rw [hd] at this
          simpa using this
        simp only [hpd, Bool.false_eq_true, if_false, List.drop_succ_cons, List.drop_zero]
        rw [runs_rep]
        have ih := pr_runs p n (d :: r2) (k + 1 + m) (by rw [hd] at hlen; simp only [List.length_cons] at hlen h ⊢; omega)
        have hr2 : runs p (k + 1 + m) (d :: r2) = runs p (k + (m + 1) + 1) r2 := by
          rw [runs, if_neg (by rw [hpd]; exact Bool.false_ne_true)]
          rw [show k + 1 + m + 1 = k + (m + 1) + 1 by omega]
        rw [ih, hr2]
        by_cases hm0 : m > 0
        · rw [if_pos hm0]
          have : k + 1 < k + (m + 1) := by omega
          simp [List.filter_cons, this]
          omega
        · rw [if_neg hm0]
          have : ¬ (k + 1 < k + (m + 1)) := by omega
          simp [List.filter_cons, this]
    · have hc' : p c = false := by simpa using hc
      rw [pr_no hc']
      conv => rhs; rw [runs]
      rw [if_neg hc]
      split
      · rename_i hr
        subst hr
        simp [runs]
      · exact pr_runs p n r (k + 1) (by simpa using h)
end FM

set_option Elab.async false
set_option linter.all false
set_option maxRecDepth 100000
/-! L04: the law's faults of blanks and signs; all together. -/
namespace FM
open PySem PyProof.Rows L2
def bw (w : Nat × Nat) : Flt := ⟨w.1, w.2, some []⟩
abbrev eB (t : List Nat) (ws : List (Nat × Nat)) (k : Sl) (xs : List Sl) : En := .dat (.str t) :: .dat Rule.blanks.d :: .dat (.lst ((words t).map wD)) :: .own ((ws.map bw).map fD) :: k :: xs
noncomputable def bB : En → Res Fl := (ifS (tstF (bopF eqO (slF slO (getE 0) (soP (bopF subI (getE 4) (cD (.int 1)))) (soP (bopF addO (getE 4) (cD (.int 1))))) (cD (.str [32, 32])))) (ifS (andF (truF (getE 3)) (tstF (bopF eqO (bopF ixO (bopF ixO (getE 3) (uopF negI (cD (.int 1)))) (cD (.int 1))) (getE 4)))) (stoS 3 (uopF negI (cD (.int 1))) (tupF (consF (bopF ixO (bopF ixO (getE 3) (uopF negI (cD (.int 1)))) (cD (.int 0))) (consF (bopF addO (getE 4) (cD (.int 1))) (consF (cD (.str [])) nilF))))) (appS 3 (tupF (consF (getE 4) (consF (bopF addO (getE 4) (cD (.int 1))) (consF (cD (.str [])) nilF)))))) nilS)
theorem cut_two {t : List Nat} {j a b : Nat} (h1 : t[j]? = some a) (h2 : t[j + 1]? = some b) : cut t j (j + 2) = [a, b] := by
  obtain ⟨p1, q1⟩ := List.getElem?_eq_some_iff.mp h1
  obtain ⟨p2, q2⟩ := List.getElem?_eq_some_iff.mp h2
  unfold cut
  rw [List.drop_eq_getElem_cons p1, List.drop_eq_getElem_cons p2, q1, q2, show j + 2 - j = 2 by omega]
  rfl
theorem pr_len (p : Nat → Bool) : ∀ t : List Nat, (pr p t).length = t.length - 1
  | [] => rfl
  | [_] => rfl
  | a :: b :: r => by
    have := pr_len p (b :: r)
    simp only [pr, List.length_cons] at this ⊢
    omega
theorem pr_get (p : Nat → Bool) : ∀ (t : List Nat) (j a b : Nat), t[j]? = some a → t[j + 1]? = some b → (pr p t)[j]? = some (if p a && p b then 1 else 0)
  | [], j, a, b, h, _ => by simp at h
  | [_], j, a, b, h, h2 => by
    cases j <;> simp at h2
  | x :: y :: r, 0, a, b, h, h2 => by
    simp at h h2
    subst h h2
    simp [pr]
  | x :: y :: r, j + 1, a, b, h, h2 => by
    simp only [pr, List.getElem?_cons_succ] at h h2 ⊢
    exact pr_get p (y :: r) j a b h h2
theorem bB_run {t : List Nat} {ws : List (Nat × Nat)} {j a b : Nat} {xs : List Sl} (ht : t.length ≤ 1000) (hw : ws.length ≤ 1000) (h1 : t[j]? = some a) (h2 : t[j + 1]? = some b) :
    bB (eB t ws (.dat (.int ((j + 1 : Nat) : Int))) xs) = .ok (.nx (eB t (addW (· == 1) ws (j + 1) (if decide (a ∈ [32]) && decide (b ∈ [32]) then 1 else 0)) (.dat (.int ((j + 1 : Nat) : Int))) xs)) := by
  have hj : j + 1 < t.length := (List.getElem?_eq_some_iff.mp h2).1
  have hm1 : ((j + 1 : Nat) : Int) - 1 = ((j : Nat) : Int) := by omega
  have hp1 : ((j + 1 : Nat) : Int) + 1 = ((j + 2 : Nat) : Int) := by omega
  unfold bB
  have h0 : tstF (bopF eqO (slF slO (getE 0) (soP (bopF subI (getE 4) (cD (.int 1)))) (soP (bopF addO (getE 4) (cD (.int 1))))) (cD (.str [32, 32]))) (eB t ws (.dat (.int ((j + 1 : Nat) : Int))) xs) = .ok (decide (a ∈ [32]) && decide (b ∈ [32])) := by
    refine (tst_bop (sl_cut (b := j) (e := j + 2) ht (by omega) (by omega) (by simp) (soP_ok (bop_ok (x := .int ((j + 1 : Nat) : Int)) (by simp) rfl (by rw [subI_ii, hm1]))) (soP_ok (bop_ok (x := .int ((j + 1 : Nat) : Int)) (by simp) rfl (by rw [addO_ii, hp1])))) rfl eqO_ss).trans ?_
    rw [cut_two h1 h2]
    congr 1
    rw [Bool.eq_iff_iff, beq_iff_eq]
    simp
  have happ : appS 3 (tupF (consF (getE 4) (consF (bopF addO (getE 4) (cD (.int 1))) (consF (cD (.str [])) nilF)))) (eB t ws (.dat (.int ((j + 1 : Nat) : Int))) xs) = .ok (.nx (eB t (ws ++ [(j + 1, j + 2)]) (.dat (.int ((j + 1 : Nat) : Int))) xs)) := by
    rw [app_own (xs := (ws.map bw).map fD) (d := fD (bw (j + 1, j + 2))) rfl (tup3 (by simp [bw]) (bop_ok (x := .int ((j + 1 : Nat) : Int)) (by simp) rfl (by rw [addO_ii, hp1]; rfl)) rfl) (fD_lf _) (by simp; omega)]
    simp
  cases hq : (decide (a ∈ [32]) && decide (b ∈ [32])) with
  | false =>
    rw [hq] at h0
    rw [ifS_no h0]
    simp [addW]
  | true =>
    rw [hq] at h0
    rw [ifS_yes h0]
    unfold addW
    simp only [if_true, beq_self_eq_true]
    cases hl : ws.getLast? with
    | none =>
      have : ws = [] := by simpa using hl
      subst this
      rw [ifS_no (by simp)]
      exact happ
    | some w =>
      have hne : ws ≠ [] := by rintro rfl; cases hl
      have hlD : ((ws.map bw).map fD).getLast? = some (fD (bw w)) := by simp [List.getLast?_map, hl]
      have hix : bopF ixO (getE 3) (uopF negI (cD (.int 1))) (eB t ws (.dat (.int ((j + 1 : Nat) : Int))) xs) = .ok (fD (bw w)) := by
        simp only [bopF_ap, getE_3, getE_2, getE_1, getE_own, rb_ok, uopF_ap, cD_ap, negI_i, ofO_some, ixO_lst]
        rw [atI_m1 hlD]
        rfl
      have hw1 : ixO (fD (bw w)) (.int 1) = some (.int (w.2 : Nat)) := by
        show atI [D.int (w.1 : Nat), .int (w.2 : Nat), mD (some [])] 1 = _
        exact atI_n (i := 1) rfl
      have htst : andF (truF (getE 3)) (tstF (bopF eqO (bopF ixO (bopF ixO (getE 3) (uopF negI (cD (.int 1)))) (cD (.int 1))) (getE 4))) (eB t ws (.dat (.int ((j + 1 : Nat) : Int))) xs) = .ok (decide (w.2 = j + 1)) := by
        have h3 := tst_bop (g := eqO) (fb := getE 4) (y := .int ((j + 1 : Nat) : Int)) (bop_ok hix (rfl : cD (.int 1) _ = _) hw1) (by simp) eqO_ii
        have hemp : ((ws.map bw).map fD).isEmpty = false := by simp [hne]
        rw [andF_ap, truF_ap]
        simp only [getE_3, getE_2, getE_1, getE_own, rb_ok, truD_lst, hemp, Bool.not_false, if_true]
        refine h3.trans ?_
        congr 1
        rw [Bool.eq_iff_iff, beq_iff_eq, decide_eq_true_eq]
        omega
      by_cases hk : w.2 = j + 1
      · rw [decide_eq_true hk] at htst
        rw [ifS_yes htst]
        simp only [if_pos hk]
        have hf : tupF (consF (bopF ixO (bopF ixO (getE 3) (uopF negI (cD (.int 1)))) (cD (.int 0))) (consF (bopF addO (getE 4) (cD (.int 1))) (consF (cD (.str [])) nilF))) (eB t ws (.dat (.int ((j + 1 : Nat) : Int))) xs) = .ok (fD (bw (w.1, j + 2))) :=
          tup3 (bop_ok hix rfl rfl) (bop_ok (x := .int ((j + 1 : Nat) : Int)) (by simp) rfl (by rw [addO_ii, hp1]; rfl)) rfl
        have hlen : 0 < ((ws.map bw).map fD).length := by simp; exact List.length_pos_iff.mpr hne
        unfold stoS
        simp only [List.getElem?_cons_succ, List.getElem?_cons_zero, hf, rb_ok, uopF_ap, cD_ap, negI_i, ofO_some, ixN_m1 hlen]
        rw [if_pos (fD_lf _), set_last (by simpa using hne)]
        simp [List.map_dropLast]
      · rw [decide_eq_false hk] at htst
        rw [ifS_no htst]
        simp only [if_neg hk]
        exact happ
theorem loopB {t : List Nat} (ht : t.length ≤ 1000) : ∃ x4, forF (.nm 4) bB (rgD 1 (t.length - 1)) (eB t [] .un [.un, .un, .un, .un, .un, .un, .un]) =
    .ok (.nx (eB t (runs (· == 1) 1 (pr (fun c => decide (c ∈ [32])) t)) x4 [.un, .un, .un, .un, .un, .un, .un])) := by
  let u := pr (fun c => decide (c ∈ [32])) t
  have hu : u.length = t.length - 1 := pr_len _ t
  let P : Nat → En → Prop := fun i e => ∃ x4, e = eB t (fw (· == 1) [] 1 (u.take i)) x4 [.un, .un, .un, .un, .un, .un, .un]
  have fl : ∀ i, (fw (· == 1) [] 1 (u.take i)).length ≤ 1000 := fun i => by
    rw [fw_runs (· == 1) _ (u.take i) 1 [] (Nat.le_refl _) (fun w h => by cases h), List.nil_append]
    have := runs_len (· == 1) _ 1 (u.take i) (Nat.le_refl _)
    rw [List.length_take] at this
    omega
  obtain ⟨e', h1, x4, rfl⟩ := forF_inv (t := .nm 4) (B := bB) (items := rgD 1 (t.length - 1)) P (fun i d e hd he => by
    obtain ⟨x4, rfl⟩ := he
    obtain ⟨hi, rfl⟩ := rgD_get hd
    have ha : t[i]? = some t[i] := List.getElem?_eq_getElem (by omega)
    have hb : t[i + 1]? = some t[i + 1] := List.getElem?_eq_getElem (by omega)
    have hg := pr_get (fun c => decide (c ∈ [32])) t i _ _ ha hb
    have e1 : (1 : Int) + ((i : Nat) : Int) = ((i + 1 : Nat) : Int) := by omega
    refine ⟨_, _, by rw [setT_nm, setN_lf rfl, e1]; rfl, bB_run ht (fl i) ha hb, .dat (.int ((i + 1 : Nat) : Int)), ?_⟩
    have e2 : u.take (i + 1) = u.take i ++ [if decide (t[i] ∈ [32]) && decide (t[i + 1] ∈ [32]) then 1 else 0] := by
      rw [List.take_succ, hg]; rfl
    have e3 : 1 + (u.take i).length = i + 1 := by rw [List.length_take]; omega
    rw [e2, fw_snoc, e3]) (e := eB t [] .un [.un, .un, .un, .un, .un, .un, .un]) ⟨.un, by simp [fw]⟩
  rw [rgD_len, List.take_of_length_le (Nat.le_of_eq hu), fw_runs (· == 1) _ u 1 [] (Nat.le_refl _) (fun w h => by cases h), List.nil_append] at h1
  exact ⟨x4, h1⟩
theorem blanks_eq (t : List Nat) : (runs (· == 1) 1 (pr (fun c => decide (c ∈ [32])) t)).map bw = blanks t := by
  have := pr_runs (fun c => decide (c ∈ [32])) t.length t 0 (Nat.le_refl _)
  rw [show (1 : Nat) = 0 + 1 from rfl]
  rw [this]
  unfold blanks bw
  simp [List.map_map, Function.comp_def]
theorem f_lfaults {t : List Nat} {r : Rule} (ht : t.length ≤ 1000) (ha : t.all (· < 128) = true) : f_law_faults [.str t, r.d] = .ok ((faults t r).map fD) := by
  unfold f_law_faults runL
  have hB : B_law_faults = seqS (asgL 2 (fnF 1 f_law_words (consF (getE 0) nilF))) (seqS (asgO 3 (lstF nilF))
    (seqS (ifS (tstF (bopF eqO (bopF ixO (getE 1) (cD (.int 0))) (cD (.str wSign)))) (retN (compF [4, 11] (itF enumStr (getE 0)) (.tp [(.nm 4), (.nm 11)]) (tstF (bopF eqO (getE 11) (bopF ixO (getE 1) (cD (.int 1))))) (tupF (consF (getE 4) (consF (bopF addO (getE 4) (cD (.int 1))) (consF (cD (.str [])) nilF)))))) nilS)
    (seqS (ifS (tstF (bopF eqO (bopF ixO (getE 1) (cD (.int 0))) (cD (.str wBlanks)))) (seqS (forS (itF asRng2 (consF (cD (.int 1)) (consF (callF lenO (consF (getE 0) nilF)) nilF))) (.nm 4) bB) (retO 3)) nilS)
    (seqS (forS (varEnum 2) (.tp [(.nm 4), (.tp [(.nm 5), (.nm 6)])]) bL) (retO 3))))) := rfl
  have e0 : initE 12 [.str t, r.d] = [.dat (.str t), .dat r.d, .un, .un, .un, .un, .un, .un, .un, .un, .un, .un] := rfl
  have hwd : fnF 1 f_law_words (consF (getE 0) nilF) [.dat (.str t), .dat r.d, .un, .un, .un, .un, .un, .un, .un, .un, .un, .un] = .ok ((words t).map wD) := fn_ok (cons_ok rfl rfl) rfl (f_lwords ht)
  rw [hB, e0, seqS_nx (asgL_ok hwd (wD_lf _))]
  simp only [List.set]
  rw [seqS_nx asgO_nil]
  simp only [List.set]
  have skip : ∀ {x : List Nat} {A B : En → Res Fl} {e : En}, getE 1 e = .ok r.d → (r.nm == x) = false → seqS (ifS (tstF (bopF eqO (bopF ixO (getE 1) (cD (.int 0))) (cD (.str x)))) A nilS) B e = B e := fun {x A B e} hg hx => by
    rw [seqS_nx (e1 := e) (by rw [ifS_no (by rw [rule_tst hg, hx])]; rfl)]
  have fin : ∀ (hr1 : (r.nm == wSign) = false) (hr2 : (r.nm == wBlanks) = false), (match (seqS (ifS (tstF (bopF eqO (bopF ixO (getE 1) (cD (.int 0))) (cD (.str wSign)))) (retN (compF [4, 11] (itF enumStr (getE 0)) (.tp [(.nm 4), (.nm 11)]) (tstF (bopF eqO (getE 11) (bopF ixO (getE 1) (cD (.int 1))))) (tupF (consF (getE 4) (consF (bopF addO (getE 4) (cD (.int 1))) (consF (cD (.str [])) nilF)))))) nilS)
    (seqS (ifS (tstF (bopF eqO (bopF ixO (getE 1) (cD (.int 0))) (cD (.str wBlanks)))) (seqS (forS (itF asRng2 (consF (cD (.int 1)) (consF (callF lenO (consF (getE 0) nilF)) nilF))) (.nm 4) bB) (retO 3)) nilS)
    (seqS (forS (varEnum 2) (.tp [(.nm 4), (.tp [(.nm 5), (.nm 6)])]) bL) (retO 3)))) [.dat (.str t), .dat r.d, .dat (.lst ((words t).map wD)), .own [], .un, .un, .un, .un, .un, .un, .un, .un] with
      | .ok (.rl xs) => (.ok xs : Res (List D))
      | _ => .bad) = .ok ((perWord t r).map fD) := fun hr1 hr2 => by
    obtain ⟨x4, x5, x6, x7, x8, x9, x10, x11, hl⟩ := loopL (r := r) ht ha
    rw [skip rfl hr1, skip rfl hr2, seqS_nx (by simp only [forS_ap, varEnum, List.getElem?_cons_succ, List.getElem?_cons_zero, rb_ok]; exact hl), retO_own rfl]
  cases r with
  | twice => exact fin rfl rfl
  | great => exact fin rfl rfl
  | long n => exact fin rfl rfl
  | word x y => exact fin rfl rfl
  | blanks =>
    obtain ⟨x4, hl⟩ := loopB ht
    have hit : itF asRng2 (consF (cD (.int 1)) (consF (callF lenO (consF (getE 0) nilF)) nilF)) (eB t [] .un [.un, .un, .un, .un, .un, .un, .un]) = .ok (rgD 1 (t.length - 1)) := by
      simp only [itF_ap, consF_ap, cD_ap, rb_ok, callF_ap, getE_dat, nilF_ap, len_str ht, ofO_some]
      exact rng2_eq (by omega)
    have hthen : seqS (forS (itF asRng2 (consF (cD (.int 1)) (consF (callF lenO (consF (getE 0) nilF)) nilF))) (.nm 4) bB) (retO 3) (eB t [] .un [.un, .un, .un, .un, .un, .un, .un]) = .ok (.rl ((blanks t).map fD)) := by
      rw [seqS_nx (by simp only [forS_ap, hit, rb_ok]; exact hl), retO_own rfl, blanks_eq]
    rw [skip rfl rfl, seqS_ap, ifS_yes (by rw [rule_tst (r := .blanks) rfl]; rfl)]
    have hthen' : seqS (forS (itF asRng2 (consF (cD (.int 1)) (consF (callF lenO (consF (getE 0) nilF)) nilF))) (.nm 4) bB) (retO 3) [.dat (.str t), .dat Rule.blanks.d, .dat (.lst ((words t).map wD)), .own [], .un, .un, .un, .un, .un, .un, .un, .un] = .ok (.rl ((blanks t).map fD)) := hthen
    rw [hthen']
    rfl
  | sign c =>
    have h2 : compF [4, 11] (itF enumStr (getE 0)) (.tp [.nm 4, .nm 11]) (tstF (bopF eqO (getE 11) (bopF ixO (getE 1) (cD (.int 1))))) (tupF (consF (getE 4) (consF (bopF addO (getE 4) (cD (.int 1))) (consF (cD (.str [])) nilF)))) [.dat (.str t), .dat (Rule.sign c).d, .dat (.lst ((words t).map wD)), .own [], .un, .un, .un, .un, .un, .un, .un, .un] = .ok ((signs t c).map fD) := by
      let pD : D → Bool := fun d => match d with
        | .tup [.int k, _] => decide (t[k.toNat]? = some c)
        | _ => false
      let gD : D → D := fun d => match d with
        | .tup [.int k, _] => fD ⟨k.toNat, k.toNat + 1, some []⟩
        | _ => .non
      have e1 : (signs t c).map fD = ((enumD (chD t)).filter pD).map gD := by
        have hen : enumD (chD t) = (List.range t.length).map fun k => .tup [.int (k : Nat), .str [t.getD k 0]] := by
          apply List.ext_getElem?
          intro i
          rw [List.getElem?_map]
          by_cases hi : i < t.length
          · have h1 : (enumD (chD t))[i]? = some (.tup [.int (i : Nat), .str [t[i]]]) := by
              simp [enumD, chD, hi]
            rw [h1]
            simp [hi]
          · rw [List.getElem?_eq_none (by rw [enumD_len]; simp [chD]; omega)]
            simp [hi]
        rw [hen]
        unfold signs
        rw [List.filter_map, List.map_map, List.map_map]
        have hp : (pD ∘ fun k : Nat => D.tup [.int (k : Nat), .str [t.getD k 0]]) = fun k => decide (t[k]? = some c) := by funext k; simp [pD]
        rw [hp]
        apply List.map_congr_left
        intro k _
        simp [gD]
      rw [e1]
      refine compF_ok (items := enumD (chD t)) rfl (le_sz (by rw [enumD_len]; simp [chD]; omega)) (lcF_filter fun d hd => ?_)
      obtain ⟨i, hi, rfl⟩ := List.getElem_of_mem hd
      have hd2 := List.getElem?_eq_getElem hi
      obtain ⟨x, hx, hxe⟩ := enumD_get hd2
      simp only [chD, List.getElem?_map, Option.map_eq_some_iff] at hx
      obtain ⟨a, hat, rfl⟩ := hx
      rw [hxe]
      refine ⟨[.dat (.str t), .dat (Rule.sign c).d, .dat (.lst ((words t).map wD)), .own [], .dat (.int (i : Nat)), .un, .un, .un, .un, .un, .un, .dat (.str [a])], by simp [setT, setTs, setN], ?_, fun _ => ⟨?_, by simp only [gD]; exact fD_lf _⟩⟩
      · refine (tst_bop (x := .str [a]) (by simp) (bop_ok (x := (Rule.sign c).d) (y := .int 1) (z := .str [c]) (by simp) rfl (atI_n (i := 1) rfl)) eqO_ss).trans ?_
        congr 1
        rw [Bool.eq_iff_iff, beq_iff_eq]
        simp [pD, hat]
      · have : gD (.tup [.int (i : Nat), .str [a]]) = fD ⟨i, i + 1, some []⟩ := by simp [gD]
        rw [this]
        exact tup3 (by simp) (by simp) rfl
    rw [seqS_ap, ifS_yes (by rw [rule_tst (r := .sign c) rfl]; rfl), retN_ok h2]
    rfl
end FM

set_option Elab.async false
set_option linter.all false
set_option maxRecDepth 100000
/-! A02: all marks. -/
namespace FM
open PySem PyProof.Rows L2
theorem perWord_len (t : List Nat) (r : Rule) : (perWord t r).length ≤ t.length := by
  have h1 := accW_len t r (words t).length
  rw [accW_all] at h1
  have := words_len t
  omega
theorem faults_len (t : List Nat) (r : Rule) : (faults t r).length ≤ t.length := by
  cases r with
  | blanks =>
    show (blanks t).length ≤ _
    unfold blanks
    have := runs_len (fun c => decide (c ∈ [32])) _ 0 t (Nat.le_refl _)
    have h2 := List.length_filter_le (fun w : Nat × Nat => decide (w.1 + 1 < w.2)) (runs (fun c => decide (c ∈ [32])) 0 t)
    rw [List.length_map]
    omega
  | sign c =>
    show (signs t c).length ≤ _
    unfold signs
    have h2 := List.length_filter_le (fun k => decide (t[k]? = some c)) (List.range t.length)
    rw [List.length_map]
    simpa using h2
  | twice => exact perWord_len t _
  | great => exact perWord_len t _
  | long n => exact perWord_len t _
  | word x y => exact perWord_len t _
def mk (n : Nat) (f : Flt) : D := .tup [.int (f.b : Nat), .int (f.e : Nat), .int (n : Nat), mD f.m]
theorem mk_lf (n : Nat) (f : Flt) : (mk n f).lf = true := by simp [mk, mD_lf]
/-- the marks of the first i rules -/
def accM (t : List Nat) (rs : List Rule) (i : Nat) : List D := ((rs.zipIdx.take i).map fun p => (faults t p.1).map (mk p.2)).flatten
theorem accM_succ {t : List Nat} {rs : List Rule} {i : Nat} {r : Rule} (h : rs[i]? = some r) : accM t rs (i + 1) = accM t rs i ++ (faults t r).map (mk i) := by
  have h2 : rs.zipIdx[i]? = some (r, i) := by rw [List.getElem?_zipIdx, h]; simp
  unfold accM
  rw [List.take_succ, h2]
  simp
def marksD (t : List Nat) (rs : List Rule) : List D := accM t rs rs.length
theorem accM_len (t : List Nat) (rs : List Rule) : ∀ i, (accM t rs i).length ≤ i * t.length
  | 0 => by simp [accM]
  | i + 1 => by
    cases h : rs[i]? with
    | none =>
      have h2 : rs.zipIdx[i]? = none := by rw [List.getElem?_zipIdx, h]; rfl
      have : accM t rs (i + 1) = accM t rs i := by
        unfold accM
        rw [List.take_succ, h2]
        simp
      rw [this]
      have := accM_len t rs i
      rw [Nat.succ_mul]
      omega
    | some r =>
      rw [accM_succ h, List.length_append, List.length_map, Nat.succ_mul]
      have := accM_len t rs i
      have := faults_len t r
      omega
theorem accM_mem {t : List Nat} {rs : List Rule} {i : Nat} {d : D} (h : d ∈ accM t rs i) : ∃ n f, d = mk n f := by
  unfold accM at h
  simp only [List.mem_flatten, List.mem_map] at h
  obtain ⟨l, ⟨p, _, rfl⟩, hd⟩ := h
  obtain ⟨f, _, rfl⟩ := List.mem_map.mp hd
  exact ⟨p.2, f, rfl⟩
theorem accM_lf (t : List Nat) (rs : List Rule) (i : Nat) : lfAll (accM t rs i) = true := by
  rw [lfAll_iff]
  intro d hd
  obtain ⟨n, f, rfl⟩ := accM_mem hd
  exact mk_lf n f
theorem key_mk (n : Nat) (f : Flt) : keyP (mk n f) = .tuple [.int (f.b : Nat), .int (f.e : Nat), .int (n : Nat)] := rfl
theorem okSortK {t : List Nat} {rs : List Rule} (ht : t.length ≤ 1000) (hr : rs.length ≤ 4) : OkSortK (marksD t rs) where
  four := fun d hd => by
    obtain ⟨n, f, rfl⟩ := accM_mem hd
    exact ⟨_, _, _, _, rfl, rfl, rfl, rfl⟩
  al := fun a ha b hb => by
    obtain ⟨x, hx, rfl⟩ := List.mem_map.mp ha
    obtain ⟨y, hy, rfl⟩ := List.mem_map.mp hb
    obtain ⟨n, f, rfl⟩ := accM_mem hx
    obtain ⟨n2, f2, rfl⟩ := accM_mem hy
    rw [key_mk, key_mk]
    rfl
  dp := fun d hd => by
    obtain ⟨n, f, rfl⟩ := accM_mem hd
    rw [key_mk]
    simp [PyData.depth, PyData.depthAll]
  ln := by
    have := accM_len t rs rs.length
    unfold marksD
    have : rs.length * t.length ≤ 4 * 1000 := Nat.mul_le_mul hr ht
    omega
theorem set_f3 {a b c d x4 : Sl} {x5 x6 x7 : Sl} {f : Flt} : setT (.tp [.nm 5, .nm 6, .nm 7]) (fD f) [a, b, c, d, x4, x5, x6, x7] = .ok [a, b, c, d, x4, .dat (.int (f.b : Nat)), .dat (.int (f.e : Nat)), .dat (mD f.m)] := by
  simp [setT, setTs, setN, fD, mD_lf]
theorem f_marks {t : List Nat} {rs : List Rule} (ht : t.length ≤ 1000) (ha : t.all (· < 128) = true) (hr : rs.length ≤ 4) : f_all_marks [.str t, .tup (rs.map Rule.d)] = .ok (.tup ((marksD t rs).mergeSort leK)) := by
  unfold f_all_marks runD B_all_marks
  have e0 : initE 8 [.str t, .tup (rs.map Rule.d)] = [.dat (.str t), .dat (.tup (rs.map Rule.d)), .un, .un, .un, .un, .un, .un] := rfl
  let P : Nat → En → Prop := fun i e => ∃ x3 x4, e = [.dat (.str t), .dat (.tup (rs.map Rule.d)), .own (accM t rs i), x3, x4, .un, .un, .un]
  obtain ⟨e', h1, x3, x4, rfl⟩ := forF_inv (t := .tp [.nm 3, .nm 4]) (B := extS 2 (compF [5, 6, 7] (itF asLst (mkL (fnF 2 f_faults_of (consF (getE 0) (consF (getE 4) nilF))))) (.tp [(.nm 5), (.nm 6), (.nm 7)]) yesF (tupF (consF (getE 5) (consF (getE 6) (consF (getE 3) (consF (getE 7) nilF)))))))
    (items := enumD (rs.map Rule.d)) P (fun i d e hd he => by
    obtain ⟨x3, x4, rfl⟩ := he
    obtain ⟨x, hx, rfl⟩ := enumD_get hd
    simp only [List.getElem?_map, Option.map_eq_some_iff] at hx
    obtain ⟨r, hrr, rfl⟩ := hx
    have hi : i < rs.length := (List.getElem?_eq_some_iff.mp hrr).1
    have hfl := faults_len t r
    have hacc := accM_len t rs i
    have hmul : i * t.length ≤ 4 * 1000 := Nat.mul_le_mul (by omega) ht
    have hc : compF [5, 6, 7] (itF asLst (mkL (fnF 2 f_faults_of (consF (getE 0) (consF (getE 4) nilF))))) (.tp [(.nm 5), (.nm 6), (.nm 7)]) yesF (tupF (consF (getE 5) (consF (getE 6) (consF (getE 3) (consF (getE 7) nilF))))) [.dat (.str t), .dat (.tup (rs.map Rule.d)), .own (accM t rs i), .dat (.int (i : Nat)), .dat r.d, .un, .un, .un] = .ok ((faults t r).map (mk i)) := by
      let gD : D → D := fun d => match d with
        | .tup [a, b, m] => .tup [a, b, .int (i : Nat), m]
        | _ => .non
      have e1 : (faults t r).map (mk i) = ((faults t r).map fD).map gD := by
        rw [List.map_map]
        rfl
      have hff : fnF 2 f_faults_of (consF (getE 0) (consF (getE 4) nilF)) [.dat (.str t), .dat (.tup (rs.map Rule.d)), .own (accM t rs i), .dat (.int (i : Nat)), .dat r.d, .un, .un, .un] = .ok ((faults t r).map fD) := fn_ok (cons_ok rfl (cons_ok (by simp) rfl)) rfl (f_faults ht ha)
      rw [e1]
      refine compF_ok (items := (faults t r).map fD) (by rw [itF_ap, mkL_ap, hff]; rfl) (le_sz (by simp; omega)) (lcF_map fun d hd => ?_)
      obtain ⟨f, _, rfl⟩ := List.mem_map.mp hd
      exact ⟨_, set_f3, tup4 (by simp) (by simp) (by simp) (by simp), mk_lf i f⟩
    refine ⟨[.dat (.str t), .dat (.tup (rs.map Rule.d)), .own (accM t rs i), .dat (.int (i : Nat)), .dat r.d, .un, .un, .un], _, by simp [setT, setTs, setN, Rule.lf], ?_, .dat (.int (i : Nat)), .dat r.d, rfl⟩
    unfold extS
    simp only [List.getElem?_cons_succ, List.getElem?_cons_zero, hc, rb_ok]
    rw [if_pos ⟨by rw [lfAll_iff]; intro d hd; obtain ⟨f, _, rfl⟩ := List.mem_map.mp hd; exact mk_lf i f, le_sz (by rw [List.length_map]; omega)⟩, accM_succ hrr]
    rfl) (e := [.dat (.str t), .dat (.tup (rs.map Rule.d)), .own [], .un, .un, .un, .un, .un]) ⟨.un, .un, by simp [accM]⟩
  rw [e0, seqS_nx asgO_nil]
  simp only [List.set]
  have hit : lfG enumTup (getE 1) [.dat (.str t), .dat (.tup (rs.map Rule.d)), .own [], .un, .un, .un, .un, .un] = .ok (enumD (rs.map Rule.d)) := by
    unfold lfG
    have : (D.tup (rs.map Rule.d)).lf = true := by rw [lf_tup]; exact lfAll_rules rs
    simp only [getE_1, getE_dat, rb_ok, this, Bool.true_or, if_true]
    rfl
  rw [seqS_nx (by simp only [forS_ap, hit, rb_ok]; exact h1)]
  rw [enumD_len, List.length_map]
  have hs : uopN sortK (getE 2) [.dat (.str t), .dat (.tup (rs.map Rule.d)), .own (accM t rs rs.length), x3, x4, .un, .un, .un] = .ok ((marksD t rs).mergeSort leK) := by
    unfold uopN
    simp only [getE_2, getE_1, getE_own, rb_ok]
    have : sortK (.lst (accM t rs rs.length)) = some ((marksD t rs).mergeSort leK) := by
      unfold sortK
      simp only
      rw [if_pos (show OkSortK (accM t rs rs.length) from okSortK ht hr)]
      rfl
    rw [this]
    rfl
  simp only [retS_ap, callF_ap, consF_ap, mkL_ap, hs, rb_ok, nilF_ap, tupleO_lst, ofO_some]
end FM

set_option Elab.async false
set_option linter.all false
set_option maxRecDepth 100000
/-! E01: the order of marks. -/
namespace FM
open PySem PyProof.Rows L2
noncomputable def sorted (t : List Nat) (rs : List Rule) : List D := (marksD t rs).mergeSort leK
theorem sorted_mem {t : List Nat} {rs : List Rule} {d : D} (h : d ∈ sorted t rs) : ∃ n f, d = mk n f := by
  have := (List.mergeSort_perm (marksD t rs) leK).mem_iff.mp h
  exact accM_mem this
theorem sorted_len {t : List Nat} {rs : List Rule} (ht : t.length ≤ 1000) (hr : rs.length ≤ 4) : (sorted t rs).length ≤ 4000 := by
  have h0 := (List.mergeSort_perm (marksD t rs) leK).length_eq
  have := accM_len t rs rs.length
  have : rs.length * t.length ≤ 4 * 1000 := Nat.mul_le_mul hr ht
  unfold sorted
  rw [h0]
  unfold marksD
  omega
def leM (n : Nat) (f : Flt) (m : Nat) (g : Flt) : Bool := decide (f.b < g.b ∨ (f.b = g.b ∧ (f.e < g.e ∨ (f.e = g.e ∧ n ≤ m))))
theorem leK_mk (n m : Nat) (f g : Flt) : leK (mk n f) (mk m g) = leM n f m g := by
  show (!PySem.W.dataLt (keyP (mk m g)) (keyP (mk n f))) = _
  rw [key_mk, key_mk]
  unfold PySem.W.dataLt
  simp only [PySem.W.keyToks, PySem.W.keyToksAll, List.cons_append, List.nil_append, lex_cons, itemOrd, itemLt]
  simp [PyProof.Rows.lexLt, leM]
  have hi : ∀ a b : Int, itemLt (Sum.inl a) (Sum.inl b) = decide (a < b) := fun _ _ => rfl
  simp only [hi]
  rw [Bool.eq_iff_iff]
  simp
  omega
def leP (p q : Nat × Flt) : Bool := leM p.1 p.2 q.1 q.2
theorem sorted_typed (l : List (Nat × Flt)) : (l.map fun p => mk p.1 p.2).mergeSort leK = (l.mergeSort leP).map fun p => mk p.1 p.2 := by
  symm
  exact List.map_mergeSort (r := leP) (s := leK) (l := l) (f := fun p => mk p.1 p.2) (fun a _ b _ => (leK_mk _ _ _ _).symm)
def accT (t : List Nat) (rs : List Rule) : List (Nat × Flt) := (rs.zipIdx.map fun p => (faults t p.1).map fun f => (p.2, f)).flatten
theorem marks_typed (t : List Nat) (rs : List Rule) : marksD t rs = (accT t rs).map fun p => mk p.1 p.2 := by
  unfold marksD accM accT
  rw [List.take_of_length_le (by simp), List.map_flatten, List.map_map]
  congr 1
  apply List.map_congr_left
  intro p _
  simp [Function.comp_def]
theorem sorted_eq (t : List Nat) (rs : List Rule) : sorted t rs = ((accT t rs).mergeSort leP).map fun p => mk p.1 p.2 := by
  unfold sorted
  rw [marks_typed, sorted_typed]
end FM

set_option Elab.async false
set_option linter.all false
set_option maxRecDepth 100000
/-! X02: the law's texts. -/
namespace FM
open PySem PyProof.Rows L2
def okStr (n : Nat) (d : D) : Prop := ∃ l, d = .str l ∧ 1 ≤ l.length ∧ l.length ≤ n ∧ l.all (· < 128) = true
theorem at_of {ds : List D} {i : Nat} {P : D → Prop} (h : i < ds.length) (hp : ∀ d ∈ ds, P d) : ∃ x, atI ds (i : Nat) = some x ∧ P x :=
  ⟨ds[i], atI_n (List.getElem?_eq_getElem h), hp _ (List.getElem_mem h)⟩
theorem mix_ok {fa fm : En → Res D} {e : En} {c p m : Int} {z : D} (h1 : fa e = .ok (.int c)) (h2 : fm e = .ok (.int m)) (h3 : f_law_mix [.int c, .int p, .int m] = .ok z) : fnF 3 f_law_mix (consF fa (consF (cD (.int p)) (consF fm nilF))) e = .ok z :=
  fn_ok (cons_ok h1 (cons_ok rfl (cons_ok h2 rfl))) rfl h3
noncomputable def bTx : En → Res Fl := (seqS (asgS (.nm 4) (bopF addO (getE 4) (cD (.int 1))))
  (seqS (asgS (.nm 5) (bopF addO (getE 0) (bopF mulI (cD (.int 13)) (getE 4))))
  (seqS (asgL 6 (lstF (consF (cD (.str [97])) (consF (cD (.str wTeh)) (consF (cD (.str wTHe)) (consF (cD (.str wThe)) (consF (cD (.str [97])) (consF (fnF 2 f_law_letters (consF (getE 5) (consF (bopF addO (cD (.int 1)) (fnF 3 f_law_mix (consF (getE 5) (consF (cD (.int 9949)) (consF (cD (.int 10)) nilF))))) nilF))) nilF))))))))
  (seqS (asgS (.nm 3) (bopF addO (getE 3) (bopF ixO (getE 6) (fnF 3 f_law_mix (consF (getE 5) (consF (cD (.int 9941)) (consF (cD (.int 6)) nilF)))))))
  (seqS (asgS (.nm 7) (bopF ixO (getE 1) (fnF 3 f_law_mix (consF (getE 5) (consF (cD (.int 9931)) (consF (callF lenO (consF (getE 1) nilF)) nilF))))))
  (seqS (asgS (.nm 8) (tupF (consF (cD (.str [32])) (consF (cD (.str [32])) (consF (cD (.str [32, 32])) (consF (cD (.str [32, 32, 32])) (consF (cD (.str [46, 32])) (consF (cD (.str [46])) (consF (cD (.str [33, 32])) (consF (getE 7) nilF))))))))))
  (asgS (.nm 3) (bopF addO (getE 3) (bopF ixO (getE 8) (fnF 3 f_law_mix (consF (getE 5) (consF (cD (.int 9929)) (consF (cD (.int 8)) nilF)))))))))))))
theorem signs_at {i : Nat} (h : i < tSigns.length) : ∃ c, tSigns[i]? = some c ∧ c < 128 := by
  have q : tSigns.all (· < 128) = true := by decide
  have := List.all_eq_true.mp q tSigns[i] (List.getElem_mem h)
  exact ⟨tSigns[i], List.getElem?_eq_getElem h, by simpa using this⟩
theorem bTx_run {c p : Int} {many : Nat} {l : List Nat} {x5 x6 x7 x8 : Sl} (hl : l.length < 41) (ha : l.all (· < 128) = true) : ∃ p' l' y5 y6 y7 y8, bTx [.dat (.int c), .dat (.str tSigns), .dat (.int (many : Nat)), .dat (.str l), .dat (.int p), x5, x6, x7, x8] =
    .ok (.nx [.dat (.int c), .dat (.str tSigns), .dat (.int (many : Nat)), .dat (.str l'), .dat (.int p'), y5, y6, y7, y8]) ∧ l.length < l'.length ∧ l'.length ≤ 100 ∧ l'.all (· < 128) = true := by
  unfold bTx
  obtain ⟨r1, h1, k1⟩ := f_mixL (c + 13 * (p + 1)) 9949 10 (by decide) (by decide) (by decide)
  obtain ⟨w, h2, k2, k3⟩ := f_letters (c + 13 * (p + 1)) (m := 1 + r1) (by omega)
  obtain ⟨r3, h3, k4⟩ := f_mixL (c + 13 * (p + 1)) 9941 6 (by decide) (by decide) (by decide)
  obtain ⟨r4, h4, k5⟩ := f_mixL (c + 13 * (p + 1)) 9931 (tSigns.length : Nat) (by decide) (by decide) (by decide)
  obtain ⟨r5, h5, k6⟩ := f_mixL (c + 13 * (p + 1)) 9929 8 (by decide) (by decide) (by decide)
  obtain ⟨ch, hch, hc128⟩ := signs_at (i := r4) (by omega)
  rw [seqS_nx (asg_lf (d := .int (p + 1)) rfl (by simp))]
  simp only [List.set]
  rw [seqS_nx (asg_lf (d := .int (c + 13 * (p + 1))) rfl (by simp))]
  simp only [List.set]
  have hlet : fnF 2 f_law_letters (consF (getE 5) (consF (bopF addO (cD (.int 1)) (fnF 3 f_law_mix (consF (getE 5) (consF (cD (.int 9949)) (consF (cD (.int 10)) nilF))))) nilF)) [.dat (.int c), .dat (.str tSigns), .dat (.int (many : Nat)), .dat (.str l), .dat (.int (p + 1)), .dat (.int (c + 13 * (p + 1))), x6, x7, x8] = .ok (.str w) := by
    refine fn_ok (ds := [.int (c + 13 * (p + 1)), .int ((1 + r1 : Nat) : Int)]) (cons_ok (by simp) (cons_ok ?_ rfl)) rfl h2
    refine bop_ok (y := .int (r1 : Nat)) rfl (mix_ok (by simp) rfl h1) ?_
    simp
  have hls : lstF (consF (cD (.str [97])) (consF (cD (.str wTeh)) (consF (cD (.str wTHe)) (consF (cD (.str wThe)) (consF (cD (.str [97])) (consF (fnF 2 f_law_letters (consF (getE 5) (consF (bopF addO (cD (.int 1)) (fnF 3 f_law_mix (consF (getE 5) (consF (cD (.int 9949)) (consF (cD (.int 10)) nilF))))) nilF))) nilF)))))) [.dat (.int c), .dat (.str tSigns), .dat (.int (many : Nat)), .dat (.str l), .dat (.int (p + 1)), .dat (.int (c + 13 * (p + 1))), x6, x7, x8] = .ok [.str [97], .str wTeh, .str wTHe, .str wThe, .str [97], .str w] := by
    simp only [lstF, consF_ap, cD_ap, hlet, rb_ok, nilF_ap]
    first | rfl | exact ofO_le (by simp)
  rw [seqS_nx (asgL_ok hls (by simp))]
  simp only [List.set]
  have hw : w.all (· < 128) = true := by
    rw [List.all_eq_true]
    intro x hx
    simpa using let_lt (k3 x hx)
  obtain ⟨x, hx, w1, rfl, q1, q2, q3⟩ := at_of (ds := [.str [97], .str wTeh, .str wTHe, .str wThe, .str [97], .str w]) (i := r3) (P := okStr 10) (by simp; omega) (by
    intro d hd
    simp only [List.mem_cons, List.not_mem_nil, or_false] at hd
    rcases hd with rfl | rfl | rfl | rfl | rfl | rfl
    · exact ⟨_, rfl, by decide, by decide, by decide⟩
    · exact ⟨_, rfl, by decide, by decide, by decide⟩
    · exact ⟨_, rfl, by decide, by decide, by decide⟩
    · exact ⟨_, rfl, by decide, by decide, by decide⟩
    · exact ⟨_, rfl, by decide, by decide, by decide⟩
    · exact ⟨_, rfl, by omega, by omega, hw⟩)
  rw [seqS_nx (asg_lf (d := .str (l ++ w1)) rfl (bop_ok (x := .str l) (y := .str w1) (by simp) (bop_ok (y := .int (r3 : Nat)) (x := .lst [.str [97], .str wTeh, .str wTHe, .str wThe, .str [97], .str w]) (by simp) (mix_ok (by simp) rfl h3) (by rw [ixO_lst]; exact hx)) (addO_ss (le_sz (by omega)))))]
  simp only [List.set]
  rw [seqS_nx (asg_lf (d := .str [ch]) rfl (bop_ok (x := .str tSigns) (y := .int (r4 : Nat)) (by simp) (mix_ok (by simp) (by simp [len_str (t := tSigns) (by decide)]) h4) (ix_str (by decide) hch)))]
  simp only [List.set]
  have htp : tupF (consF (cD (.str [32])) (consF (cD (.str [32])) (consF (cD (.str [32, 32])) (consF (cD (.str [32, 32, 32])) (consF (cD (.str [46, 32])) (consF (cD (.str [46])) (consF (cD (.str [33, 32])) (consF (getE 7) nilF)))))))) [.dat (.int c), .dat (.str tSigns), .dat (.int (many : Nat)), .dat (.str (l ++ w1)), .dat (.int (p + 1)), .dat (.int (c + 13 * (p + 1))), .dat (.lst [.str [97], .str wTeh, .str wTHe, .str wThe, .str [97], .str w]), .dat (.str [ch]), x8] = .ok (.tup [.str [32], .str [32], .str [32, 32], .str [32, 32, 32], .str [46, 32], .str [46], .str [33, 32], .str [ch]]) := by
    have : getE 7 [.dat (.int c), .dat (.str tSigns), .dat (.int (many : Nat)), .dat (.str (l ++ w1)), .dat (.int (p + 1)), .dat (.int (c + 13 * (p + 1))), .dat (.lst [.str [97], .str wTeh, .str wTHe, .str wThe, .str [97], .str w]), .dat (.str [ch]), x8] = .ok (.str [ch]) := by simp
    simp only [tupF_ap, consF_ap, cD_ap, this, rb_ok, nilF_ap, List.length_cons, List.length_nil]
    exact ofO_le (by omega)
  rw [seqS_nx (asg_lf (by simp) htp)]
  simp only [List.set]
  obtain ⟨x, hx, w2, rfl, z1, z2, z3⟩ := at_of (ds := [.str [32], .str [32], .str [32, 32], .str [32, 32, 32], .str [46, 32], .str [46], .str [33, 32], .str [ch]]) (i := r5) (P := okStr 3) (by simp; omega) (by
    intro d hd
    simp only [List.mem_cons, List.not_mem_nil, or_false] at hd
    rcases hd with rfl | rfl | rfl | rfl | rfl | rfl | rfl | rfl
    · exact ⟨_, rfl, by decide, by decide, by decide⟩
    · exact ⟨_, rfl, by decide, by decide, by decide⟩
    · exact ⟨_, rfl, by decide, by decide, by decide⟩
    · exact ⟨_, rfl, by decide, by decide, by decide⟩
    · exact ⟨_, rfl, by decide, by decide, by decide⟩
    · exact ⟨_, rfl, by decide, by decide, by decide⟩
    · exact ⟨_, rfl, by decide, by decide, by decide⟩
    · exact ⟨_, rfl, by simp, by simp, by simpa using hc128⟩)
  rw [asg_lf (d := .str ((l ++ w1) ++ w2)) rfl (bop_ok (x := .str (l ++ w1)) (y := .str w2) (by simp) (bop_ok (y := .int (r5 : Nat)) (x := .tup [.str [32], .str [32], .str [32, 32], .str [32, 32, 32], .str [46, 32], .str [46], .str [33, 32], .str [ch]]) (by simp) (mix_ok (by simp) rfl h5) (by rw [ixO_tup]; exact hx)) (addO_ss (le_sz (by rw [List.length_append]; omega))))]
  simp only [List.set]
  refine ⟨_, _, _, _, _, _, rfl, by simp only [List.length_append]; omega, by simp only [List.length_append]; omega, ?_⟩
  rw [List.all_append, List.all_append, ha, q3, z3]
  rfl
noncomputable def tTx : En → Res Bool := tstF (bopF ltO (callF lenO (consF (getE 3) nilF)) (getE 2))
theorem loop_tx {c : Int} {many : Nat} (hm : many ≤ 40) : ∀ (n : Nat) (p : Int) (l : List Nat) (x5 x6 x7 x8 : Sl), many - l.length ≤ n → l.length ≤ 100 → l.all (· < 128) = true →
    ∃ p' l' y5 y6 y7 y8, whileS tTx bTx [.dat (.int c), .dat (.str tSigns), .dat (.int (many : Nat)), .dat (.str l), .dat (.int p), x5, x6, x7, x8] =
    .ok (.nx [.dat (.int c), .dat (.str tSigns), .dat (.int (many : Nat)), .dat (.str l'), .dat (.int p'), y5, y6, y7, y8]) ∧ many ≤ l'.length ∧ l'.length ≤ 100 ∧ l'.all (· < 128) = true := by
  intro n
  induction n with
  | zero =>
    intro p l x5 x6 x7 x8 h1 h2 h3
    have ht : tTx [.dat (.int c), .dat (.str tSigns), .dat (.int (many : Nat)), .dat (.str l), .dat (.int p), x5, x6, x7, x8] = .ok false := by
      refine (tst_bop (x := .int (l.length : Nat)) (y := .int (many : Nat)) (by simp [len_str (t := l) (by omega)]) (by simp) ltO_ii).trans ?_
      rw [decide_eq_false (by omega)]
    exact ⟨p, l, x5, x6, x7, x8, whileS_false ht, by omega, h2, h3⟩
  | succ n ih =>
    intro p l x5 x6 x7 x8 h1 h2 h3
    have ht : tTx [.dat (.int c), .dat (.str tSigns), .dat (.int (many : Nat)), .dat (.str l), .dat (.int p), x5, x6, x7, x8] = .ok (decide (l.length < many)) := by
      refine (tst_bop (x := .int (l.length : Nat)) (y := .int (many : Nat)) (by simp [len_str (t := l) (by omega)]) (by simp) ltO_ii).trans ?_
      congr 1
      rw [Bool.eq_iff_iff, decide_eq_true_eq, decide_eq_true_eq]
      omega
    by_cases h : l.length < many
    · rw [decide_eq_true h] at ht
      obtain ⟨p', l', y5, y6, y7, y8, hb, g1, g2, g3⟩ := bTx_run (c := c) (p := p) (many := many) (l := l) (x5 := x5) (x6 := x6) (x7 := x7) (x8 := x8) (by omega) h3
      rw [whileS_true ht hb]
      exact ih p' l' y5 y6 y7 y8 (by omega) g2 g3
    · rw [decide_eq_false h] at ht
      exact ⟨p, l, x5, x6, x7, x8, whileS_false ht, by omega, h2, h3⟩
theorem f_text (c : Int) : ∃ t, f_law_text [.int c] = .ok (.str t) ∧ t.length ≤ 40 ∧ t.all (· < 128) = true := by
  unfold f_law_text runD
  have hB : B_law_text = seqS (asgS (.nm 1) (fnF 0 f_law_signs nilF))
    (seqS (asgS (.nm 2) (fnF 3 f_law_mix (consF (getE 0) (consF (cD (.int 9967)) (consF (cD (.int 41)) nilF)))))
    (seqS (asgS (.nm 3) (cD (.str []))) (seqS (asgS (.nm 4) (cD (.int 0))) (seqS (whileS tTx bTx) (retS (slF slO (getE 3) noP (soP (getE 2)))))))) := rfl
  have e0 : initE 9 [.int c] = [.dat (.int c), .un, .un, .un, .un, .un, .un, .un, .un] := rfl
  obtain ⟨many, h1, k1⟩ := f_mixL c 9967 41 (by decide) (by decide) (by decide)
  rw [hB, e0, seqS_nx (asg_lf (d := .str tSigns) rfl (fn_ok (n := 0) (ds := []) rfl rfl f_signs))]
  simp only [List.set]
  rw [seqS_nx (asg_lf (d := .int (many : Nat)) rfl (mix_ok (by simp) rfl h1))]
  simp only [List.set]
  rw [seqS_nx (asg_lf (d := .str []) rfl rfl)]
  simp only [List.set]
  rw [seqS_nx (asg_lf (d := .int 0) rfl rfl)]
  simp only [List.set]
  obtain ⟨p', l', y5, y6, y7, y8, hw, g1, g2, g3⟩ := loop_tx (c := c) (many := many) (by omega) many 0 [] .un .un .un .un (by simp) (by simp) rfl
  rw [seqS_nx hw]
  refine ⟨l'.take many, ?_, by rw [List.length_take]; omega, ?_⟩
  · have hs : slF slO (getE 3) noP (soP (getE 2)) [.dat (.int c), .dat (.str tSigns), .dat (.int (many : Nat)), .dat (.str l'), .dat (.int p'), y5, y6, y7, y8] = .ok (.str (l'.take many)) := by
      have h2 : soP (getE 2) [.dat (.int c), .dat (.str tSigns), .dat (.int (many : Nat)), .dat (.str l'), .dat (.int p'), y5, y6, y7, y8] = .ok (some (many : Int)) := soP_ok (by simp)
      have h3 : getE 3 [.dat (.int c), .dat (.str tSigns), .dat (.int (many : Nat)), .dat (.str l'), .dat (.int p'), y5, y6, y7, y8] = .ok (.str l') := by simp
      have hc : cutL l' none (some (many : Int)) = l'.take many := by
        unfold cutL
        rw [HT.sIx_none, HT.sIx_nat]
        simp
        try omega
      unfold slF
      simp only [h3, h2, noP, rb_ok, slO_str (l := l') (le_sz (by omega)), hc, ofO_some]
    rw [retS_ap, hs, rb_ok]
  · rw [List.all_eq_true] at g3 ⊢
    exact fun x hx => g3 x (List.mem_of_mem_take hx)
end FM

set_option Elab.async false
set_option linter.all false
set_option maxRecDepth 100000
/-! X03T: tables. -/
namespace FM
def ML : Nat → Nat
  | 1 => 3
  | 2 => 3
  | 3 => 3
  | _ => 1
def GL : Nat → Nat
  | 2 => 2
  | 3 => 3
  | 4 => 2
  | 6 => 2
  | _ => 1
/-! ### how long the pieces are -/
def mxN (r p m : Nat) : Nat := (r * 48271 % p) * (r * 48271 % p + 7) % p % m
def sW (r : Nat) : Nat → Nat
  | 0 => 0
  | k + 1 => sW r k + ML (mxN (r + 13 * (k + 1)) 9941 6)
def sG (r : Nat) : Nat → Nat
  | 0 => 0
  | k + 1 => sG r k + GL (mxN (r + 13 * (k + 1)) 9929 8)
def allB (f : Nat → Bool) : Nat → Bool
  | 0 => true
  | n + 1 => f n && allB f n
theorem allB_of {f : Nat → Bool} : ∀ {n : Nat}, allB f n = true → ∀ r, r < n → f r = true
  | n + 1, h, r, hr => by
    simp only [allB, Bool.and_eq_true] at h
    rcases Nat.lt_or_ge r n with h1 | h1
    · exact allB_of h.2 r h1
    · have : r = n := by omega
      subst this; exact h.1
theorem tabW : allB (fun r => Nat.ble 19 (sW r 15) && Nat.ble 22 (sW r 16)) 9941 = true := by decide +kernel
theorem tabG : allB (fun r => Nat.ble 19 (sG r 16)) 9929 = true := by decide +kernel
end FM

set_option Elab.async false
set_option linter.all false
set_option maxRecDepth 100000
/-! S07: texts as rows of stretches: (without p, with p) and what is left. -/
namespace FM
open PySem PyProof.Rows L2
abbrev Sg := List (List Nat × List Nat)
def joinS : Sg → List Nat → List Nat
  | [], last => last
  | q :: r, last => q.1 ++ (q.2 ++ joinS r last)
def WF (p : Nat → Bool) : Bool → Sg → List Nat → Prop
  | _, [], last => ∀ c ∈ last, p c = false
  | f, q :: r, last => (∀ c ∈ q.1, p c = false) ∧ (∀ c ∈ q.2, p c = true) ∧ q.2 ≠ [] ∧ (f = true ∨ q.1 ≠ []) ∧ WF p false r last
/-- how long the stretches are -/
def lenS (a : Sg) : Nat := (joinS a []).length
theorem joinS_app : ∀ (a b : Sg) (last : List Nat), joinS (a ++ b) last = joinS a [] ++ joinS b last
  | [], b, last => by simp [joinS]
  | q :: r, b, last => by simp [joinS, joinS_app r b last]
theorem WF_weak {p : Nat → Bool} {f : Bool} {a : Sg} {last : List Nat} (h : WF p false a last) : WF p f a last := by
  cases a with
  | nil => exact h
  | cons q r => exact ⟨h.1, h.2.1, h.2.2.1, .inr (h.2.2.2.1.resolve_left (by simp)), h.2.2.2.2⟩
theorem WF_app {p : Nat → Bool} : ∀ {f : Bool} {a b : Sg} {last : List Nat}, WF p f (a ++ b) last ↔ (WF p f a [] ∧ WF p (f && a.isEmpty) b last)
  | f, [], b, last => by simp [WF]
  | f, q :: r, b, last => by
    simp only [List.cons_append, WF, WF_app (a := r), List.isEmpty_cons, Bool.and_false, Bool.false_and]
    constructor
    · rintro ⟨a1, a2, a3, a4, a5, a6⟩; exact ⟨⟨a1, a2, a3, a4, a5⟩, a6⟩
    · rintro ⟨⟨a1, a2, a3, a4, a5⟩, a6⟩; exact ⟨a1, a2, a3, a4, a5, a6⟩
theorem head_not {p : Nat → Bool} {a : Sg} {last : List Nat} (h : WF p false a last) : ∀ c r, joinS a last = c :: r → p c = false := by
  intro c r e
  cases a with
  | nil => exact h c (by simp only [joinS] at e; rw [e]; simp)
  | cons q s =>
    obtain ⟨a1, _, _, a4, _⟩ := h
    have hg := a4.resolve_left (by simp)
    obtain ⟨x, g', hq⟩ := List.exists_cons_of_ne_nil hg
    simp only [joinS, hq, List.cons_append] at e
    injection e with e1 e2
    exact a1 c (by rw [hq, ← e1]; simp)
theorem tw_all' {p : Nat → Bool} : ∀ {w l : List Nat}, (∀ c ∈ w, p c = true) → (∀ c r, l = c :: r → p c = false) → (w ++ l).takeWhile p = w
  | [], l, _, h => by
    cases l with
    | nil => rfl
    | cons c r => simp [List.takeWhile_cons, h c r rfl]
  | c :: w, l, hw, h => by
    simp only [List.cons_append, List.takeWhile_cons, hw c (by simp), if_true]
    rw [tw_all' (fun x hx => hw x (by simp [hx])) h]
/-- every text is such a row -/
theorem seg_ex (p : Nat → Bool) : ∀ (n : Nat) (t : List Nat), t.length ≤ n → ∃ sg last, WF p true sg last ∧ t = joinS sg last
  | n, t, hn => by
    by_cases hall : ∀ c ∈ t, p c = false
    · exact ⟨[], t, hall, rfl⟩
    · match n with
      | 0 =>
        have : t = [] := List.eq_nil_of_length_eq_zero (by omega)
        subst this
        exact absurd (fun c hc => absurd hc (by simp)) hall
      | n + 1 =>
        -- the stretch ahead
        have h1 : t = t.takeWhile (fun c => !p c) ++ t.dropWhile (fun c => !p c) := (List.takeWhile_append_dropWhile).symm
        have hr : t.dropWhile (fun c => !p c) ≠ [] := fun z => hall fun c hc => by
          rw [h1, z, List.append_nil] at hc
          have := List.all_eq_true.mp (List.all_takeWhile (p := fun c => !p c) (l := t)) c hc
          simpa using this
        obtain ⟨x, rest, hx⟩ := List.exists_cons_of_ne_nil hr
        have hpx : p x = true := by
          have := List.head?_dropWhile_not (fun c => !p c) t
          rw [hx] at this
          simpa using this
        have h2 : (x :: rest) = (x :: rest).takeWhile p ++ (x :: rest).dropWhile p := (List.takeWhile_append_dropWhile).symm
        have hlen : ((x :: rest).dropWhile p).length ≤ n := by
          have e1 := congrArg List.length h1
          have e2 := congrArg List.length h2
          rw [hx] at e1
          simp only [List.length_append] at e1 e2
          have : 0 < ((x :: rest).takeWhile p).length := by simp [List.takeWhile_cons, hpx]
          omega
        obtain ⟨sg, last, hw, he⟩ := seg_ex p n _ hlen
        have hd : ∀ c r, (x :: rest).dropWhile p = c :: r → p c = false := fun c r e => by
          have := List.head?_dropWhile_not p (x :: rest)
          rw [e] at this
          simpa using this
        refine ⟨(t.takeWhile (fun c => !p c), (x :: rest).takeWhile p) :: sg, last, ⟨fun c hc => ?_, fun c hc => ?_, by simp [List.takeWhile_cons, hpx], .inl rfl, ?_⟩, ?_⟩
        · have := List.all_eq_true.mp (List.all_takeWhile (p := fun c => !p c) (l := t)) c hc
          simpa using this
        · exact List.all_eq_true.mp (List.all_takeWhile (p := p) (l := x :: rest)) c hc
        · cases sg with
          | nil => exact hw
          | cons q r =>
            refine ⟨hw.1, hw.2.1, hw.2.2.1, .inr fun z => ?_, hw.2.2.2.2⟩
            obtain ⟨c, w', hq⟩ := List.exists_cons_of_ne_nil hw.2.2.1
            have e : (x :: rest).dropWhile p = c :: (w' ++ joinS r last) := by rw [he]; simp [joinS, z, hq]
            have a := hd _ _ e
            rw [hw.2.1 c (by rw [hq]; simp)] at a
            cases a
        · simp only [joinS]
          rw [← he, ← h2, ← hx, ← h1]
/-! ### where the stretches with p lie -/
def wp : Nat → Sg → List (Nat × Nat)
  | _, [] => []
  | k, q :: r => (k + q.1.length, k + q.1.length + q.2.length) :: wp (k + q.1.length + q.2.length) r
theorem runs_skip {p : Nat → Bool} : ∀ (g l : List Nat) (k : Nat), (∀ c ∈ g, p c = false) → runs p k (g ++ l) = runs p (k + g.length) l
  | [], l, k, _ => by simp
  | c :: g, l, k, h => by
    rw [List.cons_append, runs, if_neg (by rw [h c (by simp)]; simp), runs_skip g l (k + 1) (fun x hx => h x (by simp [hx]))]
    simp only [List.length_cons]
    congr 1
    omega
theorem runs_tail {p : Nat → Bool} {l : List Nat} {k : Nat} (h : ∀ c r, l = c :: r → p c = false) : runs p (k + 1) (l.drop 1) = runs p k l := by
  cases l with
  | nil => simp [runs]
  | cons c r =>
    rw [runs, if_neg (by rw [h c r rfl]; simp)]
    rfl
theorem runs_join {p : Nat → Bool} : ∀ (a : Sg) (last : List Nat) (f : Bool) (k : Nat), WF p f a last → runs p k (joinS a last) = wp k a
  | [], last, f, k, h => by
    have := runs_skip (p := p) last [] k h
    simp only [List.append_nil] at this
    simp [joinS, wp, this, runs]
  | q :: r, last, f, k, h => by
    obtain ⟨a1, a2, a3, a4, a5⟩ := h
    have hn := head_not a5
    obtain ⟨c, w', hq⟩ := List.exists_cons_of_ne_nil a3
    have ht : (q.2 ++ joinS r last).takeWhile p = q.2 := tw_all' a2 hn
    simp only [joinS, wp]
    rw [runs_skip q.1 _ k a1]
    have e : q.2 ++ joinS r last = c :: (w' ++ joinS r last) := by rw [hq]; rfl
    rw [e, runs, ← e, if_pos (a2 c (by rw [hq]; simp)), ht]
    congr 1
    rw [← List.drop_drop, List.drop_left, runs_tail hn, runs_join r last false _ a5]
theorem lenS_cons (q : List Nat × List Nat) (a : Sg) : lenS (q :: a) = q.1.length + q.2.length + lenS a := by simp [lenS, joinS]; omega
theorem lenS_nil : lenS [] = 0 := rfl
theorem lenS_app (a b : Sg) : lenS (a ++ b) = lenS a + lenS b := by simp [lenS, joinS_app]
theorem wp_get : ∀ (a : Sg) (q : List Nat × List Nat) (b : Sg) (k : Nat), (wp k (a ++ q :: b))[a.length]? = some (k + lenS a + q.1.length, k + lenS a + q.1.length + q.2.length)
  | [], q, b, k => by simp [wp, lenS_nil]
  | x :: a, q, b, k => by
    simp only [List.cons_append, wp, List.length_cons, List.getElem?_cons_succ]
    rw [wp_get a q b, lenS_cons]
    congr 1
    ext <;> simp <;> omega
theorem cut_mid (A x B : List Nat) (b e : Nat) (hb : b = A.length) (he : e = b + x.length) : cut (A ++ (x ++ B)) b e = x := by
  subst hb he
  unfold cut
  rw [List.drop_left, show A.length + x.length - A.length = x.length by omega, List.take_left]
/-! ### faults by words -/
def atS (r : Rule) (k : Nat) (prev : Option (List Nat)) (q : List Nat × List Nat) : List Flt := match r with
  | .long n => if n < ((q.2.length : Nat) : Int) then [⟨k + q.1.length, k + q.1.length + q.2.length, none⟩] else []
  | .word x y => if low q.2 = x then [⟨k + q.1.length, k + q.1.length + q.2.length, some y⟩] else []
  | .great => if (prev = none ∨ 46 ∈ q.1) ∧ isSm (q.2.headD 0) = true then [⟨k + q.1.length, k + q.1.length + 1, some [up1 (q.2.headD 0)]⟩] else []
  | .twice => (match prev with
    | some u => if blank q.1 = true ∧ low u = low q.2 then [⟨k, k + q.1.length + q.2.length, some []⟩] else []
    | none => [])
  | _ => []
def fs (r : Rule) : Nat → Option (List Nat) → Sg → List Flt
  | _, _, [] => []
  | k, prev, q :: s => atS r k prev q ++ fs r (k + q.1.length + q.2.length) (some q.2) s
def prevOf (prev : Option (List Nat)) : Sg → Option (List Nat)
  | [] => prev
  | q :: s => prevOf (some q.2) s
theorem prevOf_snoc (prev : Option (List Nat)) : ∀ (a : Sg) (q : List Nat × List Nat), prevOf prev (a ++ [q]) = some q.2
  | [], q => rfl
  | x :: a, q => by simp [prevOf, prevOf_snoc (some x.2) a q]
theorem fs_app (r : Rule) : ∀ (a b : Sg) (k : Nat) (prev : Option (List Nat)), fs r k prev (a ++ b) = fs r k prev a ++ fs r (k + lenS a) (prevOf prev a) b
  | [], b, k, prev => by simp [fs, prevOf, lenS_nil]
  | q :: a, b, k, prev => by
    simp only [List.cons_append, fs, prevOf, lenS_cons, fs_app r a b, List.append_assoc]
    congr 3
    omega
theorem snoc_cases {α : Type} (l : List α) : l = [] ∨ ∃ a x, l = a ++ [x] := by
  rcases List.eq_nil_or_concat l with h | ⟨a, x, h⟩
  · exact .inl h
  · exact .inr ⟨a, x, by rw [h, List.concat_eq_append]⟩
theorem at_join {r : Rule} {pre b : Sg} {q : List Nat × List Nat} {last : List Nat} (hq : q.2 ≠ []) (hr : r ≠ .blanks) :
    atWord (joinS (pre ++ q :: b) last) (wp 0 (pre ++ q :: b)) r pre.length (lenS pre + q.1.length, lenS pre + q.1.length + q.2.length) = atS r (lenS pre) (prevOf none pre) q := by
  obtain ⟨c, w', hc⟩ := List.exists_cons_of_ne_nil hq
  have et : joinS (pre ++ q :: b) last = (joinS pre [] ++ q.1) ++ (q.2 ++ joinS b last) := by rw [joinS_app]; simp [joinS]
  have hw : cut (joinS (pre ++ q :: b) last) (lenS pre + q.1.length) (lenS pre + q.1.length + q.2.length) = q.2 := by
    rw [et]
    exact cut_mid _ _ _ _ _ (by simp [lenS]) rfl
  have hh : (joinS (pre ++ q :: b) last).getD (lenS pre + q.1.length) 0 = q.2.headD 0 := by
    rw [et, List.getD_eq_getElem?_getD, List.getElem?_append_right (by simp [lenS])]
    simp [lenS, hc]
  have hp : pre ≠ [] → prevE (wp 0 (pre ++ q :: b)) pre.length = lenS pre ∧ ∃ u, prevOf none pre = some u ∧ cut (joinS (pre ++ q :: b) last) (prevB (wp 0 (pre ++ q :: b)) pre.length) (lenS pre) = u := fun hne => by
    obtain ⟨a, x, rfl⟩ := (snoc_cases pre).resolve_left hne
    have g := wp_get a x (q :: b) 0
    have e1 : (a ++ [x]) ++ q :: b = a ++ x :: (q :: b) := by simp
    have e2 : (a ++ [x]).length - 1 = a.length := by simp
    unfold prevE prevB
    rw [e1, e2, List.getD_eq_getElem?_getD, g]
    simp only [Option.getD_some, lenS_app, lenS_cons, lenS_nil, Nat.zero_add]
    refine ⟨by omega, x.2, prevOf_snoc none a x, ?_⟩
    have e3 : joinS (a ++ x :: q :: b) last = (joinS a [] ++ x.1) ++ (x.2 ++ joinS (q :: b) last) := by rw [joinS_app]; simp [joinS]
    rw [e3]
    exact cut_mid _ _ _ _ _ (by simp [lenS]) (by omega)
  have hg : cut (joinS (pre ++ q :: b) last) (lenS pre) (lenS pre + q.1.length) = q.1 := by
    have e4 : joinS (pre ++ q :: b) last = joinS pre [] ++ (q.1 ++ (q.2 ++ joinS b last)) := by rw [joinS_app]; simp [joinS]
    rw [e4]
    exact cut_mid _ _ _ _ _ (by simp [lenS]) rfl
  cases r with
  | long n =>
    simp only [atWord, atS]
    rw [show lenS pre + q.1.length + q.2.length - (lenS pre + q.1.length) = q.2.length by omega]
  | word x y => simp only [atWord, atS, hw]
  | great =>
    simp only [atWord, atS, hh]
    rcases Classical.em (pre = []) with h | h
    · subst h; simp [prevOf]
    · obtain ⟨h1, u, h2, _⟩ := hp h
      rw [h1, hg, h2]
      have : pre.length ≠ 0 := fun z => h (List.eq_nil_of_length_eq_zero z)
      simp [this]
  | twice =>
    simp only [atWord, atS, hw]
    rcases Classical.em (pre = []) with h | h
    · subst h; simp [prevOf]
    · obtain ⟨h1, u, h2, h3⟩ := hp h
      rw [h1, hg, h2, h3]
      have : 0 < pre.length := Nat.pos_of_ne_zero fun z => h (List.eq_nil_of_length_eq_zero z)
      simp [this]
  | blanks => exact absurd rfl hr
  | sign c => rfl
theorem per_join {r : Rule} (hr : r ≠ .blanks) {last : List Nat} : ∀ (suf pre : Sg), WF isL true (pre ++ suf) last →
    (((wp (lenS pre) suf).zipIdx pre.length).map fun p => atWord (joinS (pre ++ suf) last) (wp 0 (pre ++ suf)) r p.2 p.1).flatten = fs r (lenS pre) (prevOf none pre) suf
  | [], pre, _ => by simp [wp, fs]
  | q :: b, pre, h => by
    have hq : q.2 ≠ [] := ((WF_app.mp h).2).2.2.1
    have ih := per_join hr b (pre ++ [q]) (by simpa using h)
    simp only [wp, List.zipIdx_cons, List.map_cons, List.flatten_cons, fs]
    rw [at_join hq hr]
    congr 1
    rw [lenS_app, lenS_cons, lenS_nil, prevOf_snoc] at ih
    simp only [List.append_assoc, List.singleton_append, List.length_append, List.length_singleton, Nat.add_zero, ← Nat.add_assoc] at ih
    exact ih
theorem words_join {a : Sg} {last : List Nat} (h : WF isL true a last) : words (joinS a last) = wp 0 a := runs_join a last true 0 h
/-- the faults of a rule of words -/
theorem perWord_join {r : Rule} (hr : r ≠ .blanks) {a : Sg} {last : List Nat} (h : WF isL true a last) : perWord (joinS a last) r = fs r 0 none a := by
  have := per_join hr a [] (last := last) (by simpa using h)
  unfold perWord
  rw [words_join h]
  simpa [lenS_nil, prevOf] using this
theorem fs_mem {r : Rule} {f : Flt} : ∀ {a : Sg} {k : Nat} {prev : Option (List Nat)}, f ∈ fs r k prev a → ∃ pre q b, a = pre ++ q :: b ∧ f ∈ atS r (k + lenS pre) (prevOf prev pre) q
  | [], k, prev, h => by simp [fs] at h
  | q :: b, k, prev, h => by
    rcases List.mem_append.mp h with h | h
    · exact ⟨[], q, b, rfl, by simpa [lenS_nil, prevOf] using h⟩
    · obtain ⟨pre, q', b', e, hm⟩ := fs_mem h
      refine ⟨q :: pre, q', b', by rw [e]; rfl, ?_⟩
      rw [lenS_cons, prevOf]
      simpa [Nat.add_assoc] using hm
/-- how many there are hangs on the stretches alone -/
theorem atS_len (r : Rule) (k k' : Nat) (prev : Option (List Nat)) (q : List Nat × List Nat) : (atS r k prev q).length = (atS r k' prev q).length := by
  cases r with
  | twice => cases prev <;> simp only [atS]; split <;> rfl
  | _ => simp only [atS] <;> (try split) <;> rfl
theorem fs_len (r : Rule) : ∀ (a : Sg) (k k' : Nat) (prev : Option (List Nat)), (fs r k prev a).length = (fs r k' prev a).length
  | [], _, _, _ => rfl
  | q :: b, k, k', prev => by
    simp only [fs, List.length_append]
    rw [atS_len r k k', fs_len r b _ (k' + q.1.length + q.2.length)]
end FM

set_option Elab.async false
set_option linter.all false
set_option maxRecDepth 100000
/-! B02: the law's marks: a dict. -/
namespace FM
open PySem PyProof.Rows L2
/-! ### faults begin one behind the other -/
theorem pw_filter {α : Type} {R : α → α → Prop} {l : List α} {p : α → Bool} (h : l.Pairwise R) : (l.filter p).Pairwise R := h.sublist List.filter_sublist
theorem perWord_asc (t : List Nat) (r : Rule) : (perWord t r).Pairwise (fun f g => f.b < g.b) := by
  have ok := words_ok t
  have key : ∀ i, i ≤ (words t).length → (accW t r i).Pairwise (fun f g => f.b < g.b) ∧ ∀ f ∈ accW t r i, ∃ j, j < i ∧ ∃ w, (words t)[j]? = some w ∧ f.b < w.2 ∧ (f.b = w.1 ∨ (0 < j ∧ f.b = prevE (words t) j ∧ r = .twice)) ∧ (r = .twice → 0 < j ∧ f.b = prevE (words t) j) := by
    intro i
    induction i with
    | zero => intro _; exact ⟨by simp [accW], fun f hf => by simp [accW] at hf⟩
    | succ i ih =>
      intro hi
      obtain ⟨h1, h2⟩ := ih (by omega)
      have hw : (words t)[i]? = some (words t)[i] := List.getElem?_eq_getElem (by omega)
      rw [accW_succ hw]
      have lw := ok.lt _ (List.getElem_mem (by omega : i < (words t).length))
      have hnew : ∀ f ∈ atWord t (words t) r i (words t)[i], f.b < (words t)[i].2 ∧ (f.b = (words t)[i].1 ∨ (0 < i ∧ f.b = prevE (words t) i ∧ r = .twice)) ∧ (r = .twice → 0 < i ∧ f.b = prevE (words t) i) := by
        intro f hf
        cases r with
        | long n => simp only [atWord] at hf; split at hf <;> simp at hf; subst hf; exact ⟨lw.1, .inl rfl, fun z => nomatch z⟩
        | word x y => simp only [atWord] at hf; split at hf <;> simp at hf; subst hf; exact ⟨lw.1, .inl rfl, fun z => nomatch z⟩
        | great => simp only [atWord] at hf; split at hf <;> simp at hf; subst hf; exact ⟨lw.1, .inl rfl, fun z => nomatch z⟩
        | twice =>
          simp only [atWord] at hf
          split at hf
          · rename_i hc
            simp at hf
            subst hf
            obtain ⟨v, hv, e1, e2, q1, q2, q3, q4⟩ := prev_at hw hc.1
            exact ⟨by show prevE (words t) i < _; omega, .inr ⟨hc.1, rfl, rfl⟩, fun _ => ⟨hc.1, rfl⟩⟩
          · simp at hf
        | blanks => simp [atWord] at hf
        | sign c => simp [atWord] at hf
      refine ⟨?_, fun f hf => ?_⟩
      · rw [List.pairwise_append]
        refine ⟨h1, ?_, fun f hf g hg => ?_⟩
        · have := atWord_len t (words t) r i (words t)[i]
          match hq : atWord t (words t) r i (words t)[i], this with
          | [], _ => exact .nil
          | [x], _ => simp
        · obtain ⟨j, hj, w, hwj, q1, q2, q3⟩ := h2 f hf
          obtain ⟨p1, p2, p3⟩ := hnew g hg
          have hjw := (List.getElem?_eq_some_iff.mp hwj)
          have hasc := List.pairwise_iff_getElem.mp ok.asc j i hjw.1 (by omega) hj
          rw [hjw.2] at hasc
          rcases p2 with p2 | ⟨p0, p2, rfl⟩
          · omega
          · obtain ⟨k0, k1⟩ := q3 rfl
            obtain ⟨v, hv, e1, e2, r1, r2, r3, r4⟩ := prev_at hw p0
            obtain ⟨v', hv', e1', e2', r1', r2', r3', r4'⟩ := prev_at hwj k0
            rw [k1, p2, e1, e1']
            have a1 := (List.getElem?_eq_some_iff.mp hv)
            have a2 := (List.getElem?_eq_some_iff.mp hv')
            have hasc2 := List.pairwise_iff_getElem.mp ok.asc (j - 1) (i - 1) a2.1 a1.1 (by omega)
            rw [a1.2, a2.2] at hasc2
            omega
      · rcases List.mem_append.mp hf with hf | hf
        · obtain ⟨j, hj, w, q⟩ := h2 f hf
          exact ⟨j, by omega, w, q⟩
        · obtain ⟨p1, p2, p3⟩ := hnew f hf
          exact ⟨i, by omega, _, hw, p1, p2, p3⟩
  have := (key _ (Nat.le_refl _)).1
  rw [accW_all] at this
  exact this
theorem faults_asc (t : List Nat) (r : Rule) : (faults t r).Pairwise (fun f g => f.b < g.b) := by
  cases r with
  | blanks =>
    show (blanks t).Pairwise _
    unfold blanks
    rw [List.pairwise_map]
    refine pw_filter ?_
    have := (runs_ok (fun c => decide (c ∈ [32])) t t.length 0 (by omega))
    rw [List.drop_zero] at this
    refine List.Pairwise.imp_of_mem (fun {v w} hv hw h => ?_) this.asc
    have := (this.lt v hv).1
    show v.1 + 1 < w.1 + 1
    omega
  | sign c =>
    show (signs t c).Pairwise _
    unfold signs
    rw [List.pairwise_map]
    exact pw_filter List.pairwise_lt_range
  | twice => exact perWord_asc t _
  | great => exact perWord_asc t _
  | long n => exact perWord_asc t _
  | word x y => exact perWord_asc t _
/-! ### the dict -/
def kv (n : Nat) (f : Flt) : List Key × D := ([.inl (f.b : Nat), .inl (f.e : Nat), .inl (n : Nat)], mD f.m)
def accK (t : List Nat) (rs : List Rule) (i : Nat) : List (List Key × D) := ((rs.zipIdx.take i).map fun p => (faults t p.1).map (kv p.2)).flatten
theorem accK_succ {t : List Nat} {rs : List Rule} {i : Nat} {r : Rule} (h : rs[i]? = some r) : accK t rs (i + 1) = accK t rs i ++ (faults t r).map (kv i) := by
  have h2 : rs.zipIdx[i]? = some (r, i) := by rw [List.getElem?_zipIdx, h]; simp
  unfold accK
  rw [List.take_succ, h2]
  simp
def toMark (p : List Key × D) : D := .tup (p.1.map keyD1 ++ [p.2])
theorem accK_marks (t : List Nat) (rs : List Rule) (i : Nat) : (accK t rs i).map toMark = accM t rs i := by
  unfold accK accM
  rw [List.map_flatten, List.map_map]
  congr 1
  apply List.map_congr_left
  intro p _
  simp only [Function.comp, List.map_map]
  rfl
theorem accK_mem {t : List Nat} {rs : List Rule} {i : Nat} {p : List Key × D} (h : p ∈ accK t rs i) : ∃ n f r, p = kv n f ∧ n < i ∧ rs[n]? = some r ∧ f ∈ faults t r := by
  unfold accK at h
  simp only [List.mem_flatten, List.mem_map] at h
  obtain ⟨l, ⟨q, hq, rfl⟩, hd⟩ := h
  obtain ⟨f, hf, rfl⟩ := List.mem_map.mp hd
  obtain ⟨j, hj⟩ := List.mem_iff_getElem?.mp hq
  rw [List.getElem?_take] at hj
  split at hj
  · rename_i hji
    rw [List.getElem?_zipIdx] at hj
    cases hr : rs[j]? with
    | none => rw [hr] at hj; cases hj
    | some r =>
      rw [hr] at hj
      simp at hj
      subst hj
      exact ⟨j, f, r, by simp, hji, hr, hf⟩
  · cases hj
theorem kv_inj {n m : Nat} {f g : Flt} (h : (kv n f).1 = (kv m g).1) : f.b = g.b ∧ f.e = g.e ∧ n = m := by
  simp [kv] at h
  exact ⟨by omega, by omega, by omega⟩
theorem putD_new {kvs : List (List Key × D)} {k : List Key} {d : D} (h : ∀ p ∈ kvs, p.1 ≠ k) : putD kvs k d = kvs ++ [(k, d)] := by
  unfold putD
  rw [if_neg]
  intro z
  obtain ⟨p, hp, e⟩ := List.any_eq_true.mp z
  exact h p hp (by simpa using e)
theorem accK_len (t : List Nat) (rs : List Rule) (i : Nat) : (accK t rs i).length ≤ i * t.length := by
  have := congrArg List.length (accK_marks t rs i)
  rw [List.length_map] at this
  rw [this]
  exact accM_len t rs i
theorem set_f3b {a b c d x4 : Sl} {x5 x6 x7 x8 : Sl} {f : Flt} : setT (.tp [.nm 5, .nm 6, .nm 7]) (fD f) [a, b, c, d, x4, x5, x6, x7, x8] = .ok [a, b, c, d, x4, .dat (.int (f.b : Nat)), .dat (.int (f.e : Nat)), .dat (mD f.m), x8] := by
  simp [setT, setTs, setN, fD, mD_lf]
noncomputable def bP : En → Res Fl := putS 2 (consF (getE 5) (consF (getE 6) (consF (getE 3) nilF))) (getE 7)
theorem innerM {t : List Nat} {rs : List Rule} {i : Nat} {r : Rule} (ht : t.length ≤ 1000) (hr : rs.length ≤ 4) (h : rs[i]? = some r) {x5 x6 x7 : Sl} : ∃ y5 y6 y7, forF (.tp [.nm 5, .nm 6, .nm 7]) bP ((faults t r).map fD) [.dat (.str t), .dat (.tup (rs.map Rule.d)), .dct (accK t rs i), .dat (.int (i : Nat)), .dat r.d, x5, x6, x7, .un] =
    .ok (.nx [.dat (.str t), .dat (.tup (rs.map Rule.d)), .dct (accK t rs (i + 1)), .dat (.int (i : Nat)), .dat r.d, y5, y6, y7, .un]) := by
  have hi : i < rs.length := (List.getElem?_eq_some_iff.mp h).1
  have hfl := faults_len t r
  have hacc := accK_len t rs i
  have hmul : i * t.length ≤ 4 * 1000 := Nat.mul_le_mul (by omega) ht
  let P : Nat → En → Prop := fun j e => ∃ y5 y6 y7, e = [.dat (.str t), .dat (.tup (rs.map Rule.d)), .dct (accK t rs i ++ ((faults t r).take j).map (kv i)), .dat (.int (i : Nat)), .dat r.d, y5, y6, y7, .un]
  obtain ⟨e', h1, y5, y6, y7, rfl⟩ := forF_inv (t := .tp [.nm 5, .nm 6, .nm 7]) (B := bP) (items := (faults t r).map fD) P (fun j d e hd he => by
    obtain ⟨y5, y6, y7, rfl⟩ := he
    simp only [List.getElem?_map, Option.map_eq_some_iff] at hd
    obtain ⟨f, hf, rfl⟩ := hd
    refine ⟨_, _, set_f3b, ?_, .dat (.int (f.b : Nat)), .dat (.int (f.e : Nat)), .dat (mD f.m), rfl⟩
    unfold bP putS
    have hk : (consF (getE 5) (consF (getE 6) (consF (getE 3) nilF))) [.dat (.str t), .dat (.tup (rs.map Rule.d)), .dct (accK t rs i ++ ((faults t r).take j).map (kv i)), .dat (.int (i : Nat)), .dat r.d, .dat (.int (f.b : Nat)), .dat (.int (f.e : Nat)), .dat (mD f.m), .un] = .ok [.int (f.b : Nat), .int (f.e : Nat), .int (i : Nat)] :=
      cons_ok (by simp) (cons_ok (by simp) (cons_ok (by simp [getE]) rfl))
    have hv : getE 7 [.dat (.str t), .dat (.tup (rs.map Rule.d)), .dct (accK t rs i ++ ((faults t r).take j).map (kv i)), .dat (.int (i : Nat)), .dat r.d, .dat (.int (f.b : Nat)), .dat (.int (f.e : Nat)), .dat (mD f.m), .un] = .ok (mD f.m) := by simp [getE]
    simp only [List.getElem?_cons_succ, List.getElem?_cons_zero, hv, rb_ok, hk]
    have hmm : [D.int (f.b : Nat), .int (f.e : Nat), .int (i : Nat)].mapM keyO = some (kv i f).1 := rfl
    rw [hmm]
    simp only
    rw [if_pos ⟨by simp; omega, by simp, mD_lf f.m⟩, putD_new]
    · rw [List.take_succ, hf]
      simp [kv]
    · intro p hp
      rcases List.mem_append.mp hp with hp | hp
      · obtain ⟨n, g, r', rfl, hn, _⟩ := accK_mem hp
        intro z
        have := (kv_inj z).2.2
        omega
      · obtain ⟨g, hg, rfl⟩ := List.mem_map.mp hp
        intro z
        have hb := (kv_inj z).1
        obtain ⟨l, hl⟩ := List.mem_iff_getElem?.mp hg
        rw [List.getElem?_take] at hl
        split at hl
        · rename_i hlj
          have a1 := List.getElem?_eq_some_iff.mp hl
          have a2 := List.getElem?_eq_some_iff.mp hf
          have hasc := List.pairwise_iff_getElem.mp (faults_asc t r) l j a1.1 a2.1 hlj
          rw [a1.2, a2.2] at hasc
          omega
        · cases hl) (e := [.dat (.str t), .dat (.tup (rs.map Rule.d)), .dct (accK t rs i), .dat (.int (i : Nat)), .dat r.d, x5, x6, x7, .un]) ⟨x5, x6, x7, by simp⟩
  rw [List.length_map, List.take_of_length_le (Nat.le_refl _), ← accK_succ h] at h1
  exact ⟨y5, y6, y7, h1⟩
end FM

set_option Elab.async false
set_option linter.all false
set_option maxRecDepth 100000
/-! X03: the law's texts as rows of pieces. -/
namespace FM
open PySem PyProof.Rows L2
structure PcOk (s : Int) (q : List Nat × List Nat) : Prop where
  wl : ∀ c ∈ q.1, isL c = true
  wn : ML (mixN s 9941 6) ≤ q.1.length
  gf : ∃ ch k, q.2 = ch :: List.replicate k 32 ∧ (k = 0 ∨ isL ch = false)
  gn : GL (mixN s 9929 8) ≤ q.2.length
def flatQ (qs : List (List Nat × List Nat)) : List Nat := (qs.map fun q => q.1 ++ q.2).flatten
structure Txt (c : Int) (qs : List (List Nat × List Nat)) : Prop where
  pc : ∀ i q, qs[i]? = some q → PcOk (c + 13 * ((i : Nat) + 1)) q
theorem let_isL {x : Nat} (h : isLet x = true) : isL x = true := by
  simp only [isLet, isSm, isGr, Bool.or_eq_true, Bool.and_eq_true, decide_eq_true_eq] at h
  unfold isL
  simp only [decide_eq_true_eq, tLetters, List.mem_cons, List.not_mem_nil, or_false]
  omega
theorem mix6 {s : Int} : mixN s 9941 6 < 6 := mixN_lt _ _ (by decide)
theorem mix8 {s : Int} : mixN s 9929 8 < 8 := mixN_lt _ _ (by decide)
theorem bTx_run2 {c : Int} {p : Nat} {many : Nat} {l : List Nat} {x5 x6 x7 x8 : Sl} (hl : l.length < 41) (ha : l.all (· < 128) = true) : ∃ q y5 y6 y7 y8, bTx [.dat (.int c), .dat (.str tSigns), .dat (.int (many : Nat)), .dat (.str l), .dat (.int (p : Nat)), x5, x6, x7, x8] =
    .ok (.nx [.dat (.int c), .dat (.str tSigns), .dat (.int (many : Nat)), .dat (.str (l ++ (q.1 ++ q.2))), .dat (.int ((p + 1 : Nat) : Int)), y5, y6, y7, y8]) ∧ PcOk (c + 13 * ((p : Nat) + 1)) q ∧ (q.1 ++ q.2).all (· < 128) = true ∧ (q.1 ++ q.2).length ≤ 20 := by
  unfold bTx
  generalize hs : c + 13 * ((p : Nat) + 1) = s
  obtain ⟨r1, h1, k1⟩ := f_mixL s 9949 10 (by decide) (by decide) (by decide)
  obtain ⟨w, h2, k2, k3⟩ := f_letters s (m := 1 + r1) (by omega)
  have h3 : f_law_mix [.int s, .int 9941, .int 6] = .ok (.int (mixN s 9941 6 : Nat)) := f_mixN s (m := 6) (by decide) (by decide) (by decide)
  obtain ⟨r4, h4, k5⟩ := f_mixL s 9931 (tSigns.length : Nat) (by decide) (by decide) (by decide)
  have h5 : f_law_mix [.int s, .int 9929, .int 8] = .ok (.int (mixN s 9929 8 : Nat)) := f_mixN s (m := 8) (by decide) (by decide) (by decide)
  obtain ⟨ch, hch, hc128⟩ := signs_at (i := r4) (by omega)
  rw [seqS_nx (asg_lf (d := .int ((p : Nat) + 1)) rfl (by simp))]
  simp only [List.set]
  rw [seqS_nx (asg_lf (d := .int s) rfl (by simp [hs]))]
  simp only [List.set]
  have hlet : fnF 2 f_law_letters (consF (getE 5) (consF (bopF addO (cD (.int 1)) (fnF 3 f_law_mix (consF (getE 5) (consF (cD (.int 9949)) (consF (cD (.int 10)) nilF))))) nilF)) [.dat (.int c), .dat (.str tSigns), .dat (.int (many : Nat)), .dat (.str l), .dat (.int ((p : Nat) + 1)), .dat (.int s), x6, x7, x8] = .ok (.str w) := by
    refine fn_ok (ds := [.int s, .int ((1 + r1 : Nat) : Int)]) (cons_ok (by simp) (cons_ok ?_ rfl)) rfl h2
    refine bop_ok (y := .int (r1 : Nat)) rfl (mix_ok (by simp) rfl h1) ?_
    simp
  have hls : lstF (consF (cD (.str [97])) (consF (cD (.str wTeh)) (consF (cD (.str wTHe)) (consF (cD (.str wThe)) (consF (cD (.str [97])) (consF (fnF 2 f_law_letters (consF (getE 5) (consF (bopF addO (cD (.int 1)) (fnF 3 f_law_mix (consF (getE 5) (consF (cD (.int 9949)) (consF (cD (.int 10)) nilF))))) nilF))) nilF)))))) [.dat (.int c), .dat (.str tSigns), .dat (.int (many : Nat)), .dat (.str l), .dat (.int ((p : Nat) + 1)), .dat (.int s), x6, x7, x8] = .ok [.str [97], .str wTeh, .str wTHe, .str wThe, .str [97], .str w] := by
    simp only [lstF, consF_ap, cD_ap, hlet, rb_ok, nilF_ap]
    first | rfl | exact ofO_le (by simp)
  rw [seqS_nx (asgL_ok hls (by simp))]
  simp only [List.set]
  have hw : w.all (· < 128) = true := by
    rw [List.all_eq_true]
    intro x hx
    simpa using let_lt (k3 x hx)
  have hwL : ∀ x ∈ w, isL x = true := fun x hx => let_isL (k3 x hx)
  obtain ⟨w1, hx, q1, q2, q3, q4⟩ : ∃ w1, atI [D.str [97], .str wTeh, .str wTHe, .str wThe, .str [97], .str w] (mixN s 9941 6 : Nat) = some (.str w1) ∧ (∀ c ∈ w1, isL c = true) ∧ ML (mixN s 9941 6) ≤ w1.length ∧ w1.length ≤ 10 ∧ w1.all (· < 128) = true := by
    have h6 := mix6 (s := s)
    match hm : mixN s 9941 6, h6 with
    | 0, _ => exact ⟨[97], atI_n rfl, by decide, by decide, by decide, by decide⟩
    | 1, _ => exact ⟨wTeh, atI_n rfl, by decide, by decide, by decide, by decide⟩
    | 2, _ => exact ⟨wTHe, atI_n rfl, by decide, by decide, by decide, by decide⟩
    | 3, _ => exact ⟨wThe, atI_n rfl, by decide, by decide, by decide, by decide⟩
    | 4, _ => exact ⟨[97], atI_n rfl, by decide, by decide, by decide, by decide⟩
    | 5, _ => exact ⟨w, atI_n rfl, hwL, by show 1 ≤ _; omega, by omega, hw⟩
  rw [seqS_nx (asg_lf (d := .str (l ++ w1)) rfl (bop_ok (x := .str l) (y := .str w1) (by simp) (bop_ok (y := .int (mixN s 9941 6 : Nat)) (x := .lst [.str [97], .str wTeh, .str wTHe, .str wThe, .str [97], .str w]) (by simp) (mix_ok (by simp) rfl h3) (by rw [ixO_lst]; exact hx)) (addO_ss (le_sz (by omega)))))]
  simp only [List.set]
  rw [seqS_nx (asg_lf (d := .str [ch]) rfl (bop_ok (x := .str tSigns) (y := .int (r4 : Nat)) (by simp) (mix_ok (by simp) (by simp [len_str (t := tSigns) (by decide)]) h4) (ix_str (by decide) hch)))]
  simp only [List.set]
  have htp : tupF (consF (cD (.str [32])) (consF (cD (.str [32])) (consF (cD (.str [32, 32])) (consF (cD (.str [32, 32, 32])) (consF (cD (.str [46, 32])) (consF (cD (.str [46])) (consF (cD (.str [33, 32])) (consF (getE 7) nilF)))))))) [.dat (.int c), .dat (.str tSigns), .dat (.int (many : Nat)), .dat (.str (l ++ w1)), .dat (.int ((p : Nat) + 1)), .dat (.int s), .dat (.lst [.str [97], .str wTeh, .str wTHe, .str wThe, .str [97], .str w]), .dat (.str [ch]), x8] = .ok (.tup [.str [32], .str [32], .str [32, 32], .str [32, 32, 32], .str [46, 32], .str [46], .str [33, 32], .str [ch]]) := by
    have : getE 7 [.dat (.int c), .dat (.str tSigns), .dat (.int (many : Nat)), .dat (.str (l ++ w1)), .dat (.int ((p : Nat) + 1)), .dat (.int s), .dat (.lst [.str [97], .str wTeh, .str wTHe, .str wThe, .str [97], .str w]), .dat (.str [ch]), x8] = .ok (.str [ch]) := by simp
    simp only [tupF_ap, consF_ap, cD_ap, this, rb_ok, nilF_ap, List.length_cons, List.length_nil]
    exact ofO_le (by omega)
  rw [seqS_nx (asg_lf (by simp) htp)]
  simp only [List.set]
  obtain ⟨w2, hx, z1, z2, z3, z4⟩ : ∃ w2, atI [D.str [32], .str [32], .str [32, 32], .str [32, 32, 32], .str [46, 32], .str [46], .str [33, 32], .str [ch]] (mixN s 9929 8 : Nat) = some (.str w2) ∧ (∃ ch k, w2 = ch :: List.replicate k 32 ∧ (k = 0 ∨ isL ch = false)) ∧ GL (mixN s 9929 8) ≤ w2.length ∧ w2.length ≤ 3 ∧ w2.all (· < 128) = true := by
    have h8 := mix8 (s := s)
    match hm : mixN s 9929 8, h8 with
    | 0, _ => exact ⟨[32], atI_n rfl, ⟨32, 0, rfl, by decide⟩, by decide, by decide, by decide⟩
    | 1, _ => exact ⟨[32], atI_n rfl, ⟨32, 0, rfl, by decide⟩, by decide, by decide, by decide⟩
    | 2, _ => exact ⟨[32, 32], atI_n rfl, ⟨32, 1, rfl, by decide⟩, by decide, by decide, by decide⟩
    | 3, _ => exact ⟨[32, 32, 32], atI_n rfl, ⟨32, 2, rfl, by decide⟩, by decide, by decide, by decide⟩
    | 4, _ => exact ⟨[46, 32], atI_n rfl, ⟨46, 1, rfl, by decide⟩, by decide, by decide, by decide⟩
    | 5, _ => exact ⟨[46], atI_n rfl, ⟨46, 0, rfl, by decide⟩, by decide, by decide, by decide⟩
    | 6, _ => exact ⟨[33, 32], atI_n rfl, ⟨33, 1, rfl, by decide⟩, by decide, by decide, by decide⟩
    | 7, _ => exact ⟨[ch], atI_n rfl, ⟨ch, 0, rfl, .inl rfl⟩, by simp [GL], by simp, by simpa using hc128⟩
  rw [asg_lf (d := .str ((l ++ w1) ++ w2)) rfl (bop_ok (x := .str (l ++ w1)) (y := .str w2) (by simp) (bop_ok (y := .int (mixN s 9929 8 : Nat)) (x := .tup [.str [32], .str [32], .str [32, 32], .str [32, 32, 32], .str [46, 32], .str [46], .str [33, 32], .str [ch]]) (by simp) (mix_ok (by simp) rfl h5) (by rw [ixO_tup]; exact hx)) (addO_ss (le_sz (by rw [List.length_append]; omega))))]
  simp only [List.set]
  refine ⟨(w1, w2), _, _, _, _, by rw [List.append_assoc]; rfl, ⟨q1, q2, z1, z2⟩, ?_, by simp only [List.length_append]; omega⟩
  rw [List.all_append, q4, z4]
  rfl
theorem flatQ_snoc (qs : List (List Nat × List Nat)) (q : List Nat × List Nat) : flatQ (qs ++ [q]) = flatQ qs ++ (q.1 ++ q.2) := by simp [flatQ]
theorem loop_tx2 {c : Int} {many : Nat} (hm : many ≤ 40) : ∀ (n : Nat) (qs : List (List Nat × List Nat)) (x5 x6 x7 x8 : Sl), many - (flatQ qs).length ≤ n → (flatQ qs).length ≤ 100 → (flatQ qs).all (· < 128) = true → Txt c qs → (qs ≠ [] → (flatQ qs.dropLast).length < many) →
    ∃ qs' y4 y5 y6 y7 y8, whileS tTx bTx [.dat (.int c), .dat (.str tSigns), .dat (.int (many : Nat)), .dat (.str (flatQ qs)), .dat (.int (qs.length : Nat)), x5, x6, x7, x8] =
    .ok (.nx [.dat (.int c), .dat (.str tSigns), .dat (.int (many : Nat)), .dat (.str (flatQ qs')), y4, y5, y6, y7, y8]) ∧ many ≤ (flatQ qs').length ∧ (flatQ qs').length ≤ 100 ∧ (flatQ qs').all (· < 128) = true ∧ Txt c qs' ∧ (qs' ≠ [] → (flatQ qs'.dropLast).length < many) := by
  intro n
  induction n with
  | zero =>
    intro qs x5 x6 x7 x8 h1 h2 h3 h4 h5
    have ht : tTx [.dat (.int c), .dat (.str tSigns), .dat (.int (many : Nat)), .dat (.str (flatQ qs)), .dat (.int (qs.length : Nat)), x5, x6, x7, x8] = .ok false := by
      refine (tst_bop (x := .int ((flatQ qs).length : Nat)) (y := .int (many : Nat)) (by simp [len_str (t := flatQ qs) (by omega)]) (by simp) ltO_ii).trans ?_
      rw [decide_eq_false (by omega)]
    exact ⟨qs, _, x5, x6, x7, x8, whileS_false ht, by omega, h2, h3, h4, h5⟩
  | succ n ih =>
    intro qs x5 x6 x7 x8 h1 h2 h3 h4 h5
    have ht : tTx [.dat (.int c), .dat (.str tSigns), .dat (.int (many : Nat)), .dat (.str (flatQ qs)), .dat (.int (qs.length : Nat)), x5, x6, x7, x8] = .ok (decide ((flatQ qs).length < many)) := by
      refine (tst_bop (x := .int ((flatQ qs).length : Nat)) (y := .int (many : Nat)) (by simp [len_str (t := flatQ qs) (by omega)]) (by simp) ltO_ii).trans ?_
      congr 1
      rw [Bool.eq_iff_iff, decide_eq_true_eq, decide_eq_true_eq]
      omega
    by_cases h : (flatQ qs).length < many
    · rw [decide_eq_true h] at ht
      obtain ⟨q, y5, y6, y7, y8, hb, g1, g2, g3⟩ := bTx_run2 (c := c) (p := qs.length) (many := many) (l := flatQ qs) (x5 := x5) (x6 := x6) (x7 := x7) (x8 := x8) (by omega) h3
      rw [whileS_true ht hb]
      have hpos : 0 < q.1.length := by
        have := g1.wn
        have : 1 ≤ ML (mixN (c + 13 * ((qs.length : Nat) + 1)) 9941 6) := by unfold ML; split <;> decide
        omega
      have := ih (qs ++ [q]) y5 y6 y7 y8 (by rw [flatQ_snoc]; simp only [List.length_append]; omega) (by rw [flatQ_snoc, List.length_append]; omega) (by rw [flatQ_snoc, List.all_append, h3, g2]; rfl) ⟨fun i q' hq => ?_⟩ (fun _ => by rw [List.dropLast_concat]; exact h)
      · rw [flatQ_snoc, List.length_append, List.length_singleton] at this
        exact this
      · rcases Nat.lt_or_ge i qs.length with hi | hi
        · rw [List.getElem?_append_left hi] at hq
          exact h4.pc i q' hq
        · rw [List.getElem?_append_right hi] at hq
          have hi2 : i = qs.length := by
            rcases Nat.eq_zero_or_pos (i - qs.length) with z | z
            · omega
            · rw [List.getElem?_eq_none (by simp; omega)] at hq; cases hq
          subst hi2
          simp only [Nat.sub_self, List.getElem?_cons_zero, Option.some.injEq] at hq
          subst hq
          exact g1
    · rw [decide_eq_false h] at ht
      exact ⟨qs, _, x5, x6, x7, x8, whileS_false ht, by omega, h2, h3, h4, h5⟩
theorem f_text2 (c : Int) : ∃ (qs : List (List Nat × List Nat)) (many : Nat), f_law_text [.int c] = .ok (.str ((flatQ qs).take many)) ∧ many ≤ 40 ∧ many ≤ (flatQ qs).length ∧ ((flatQ qs).take many).all (· < 128) = true ∧ Txt c qs ∧ (qs ≠ [] → (flatQ qs.dropLast).length < many) := by
  unfold f_law_text runD
  have hB : B_law_text = seqS (asgS (.nm 1) (fnF 0 f_law_signs nilF))
    (seqS (asgS (.nm 2) (fnF 3 f_law_mix (consF (getE 0) (consF (cD (.int 9967)) (consF (cD (.int 41)) nilF)))))
    (seqS (asgS (.nm 3) (cD (.str []))) (seqS (asgS (.nm 4) (cD (.int 0))) (seqS (whileS tTx bTx) (retS (slF slO (getE 3) noP (soP (getE 2)))))))) := rfl
  have e0 : initE 9 [.int c] = [.dat (.int c), .un, .un, .un, .un, .un, .un, .un, .un] := rfl
  obtain ⟨many, h1, k1⟩ := f_mixL c 9967 41 (by decide) (by decide) (by decide)
  rw [hB, e0, seqS_nx (asg_lf (d := .str tSigns) rfl (fn_ok (n := 0) (ds := []) rfl rfl f_signs))]
  simp only [List.set]
  rw [seqS_nx (asg_lf (d := .int (many : Nat)) rfl (mix_ok (by simp) rfl h1))]
  simp only [List.set]
  rw [seqS_nx (asg_lf (d := .str []) rfl rfl)]
  simp only [List.set]
  rw [seqS_nx (asg_lf (d := .int 0) rfl rfl)]
  simp only [List.set]
  obtain ⟨qs, y4, y5, y6, y7, y8, hw, g1, g2, g3, g4, g5⟩ := loop_tx2 (c := c) (many := many) (by omega) many [] .un .un .un .un (by omega) (by simp [flatQ]) rfl ⟨fun i q h => by simp at h⟩ (fun h => absurd rfl h)
  have hw' : whileS tTx bTx [.dat (.int c), .dat (.str tSigns), .dat (.int (many : Nat)), .dat (.str []), .dat (.int 0), .un, .un, .un, .un] = .ok (.nx [.dat (.int c), .dat (.str tSigns), .dat (.int (many : Nat)), .dat (.str (flatQ qs)), y4, y5, y6, y7, y8]) := hw
  rw [seqS_nx hw']
  refine ⟨qs, many, ?_, by omega, g1, ?_, g4, g5⟩
  · have hs : slF slO (getE 3) noP (soP (getE 2)) [.dat (.int c), .dat (.str tSigns), .dat (.int (many : Nat)), .dat (.str (flatQ qs)), y4, y5, y6, y7, y8] = .ok (.str ((flatQ qs).take many)) := by
      have h2 : soP (getE 2) [.dat (.int c), .dat (.str tSigns), .dat (.int (many : Nat)), .dat (.str (flatQ qs)), y4, y5, y6, y7, y8] = .ok (some (many : Int)) := soP_ok (by simp)
      have h3 : getE 3 [.dat (.int c), .dat (.str tSigns), .dat (.int (many : Nat)), .dat (.str (flatQ qs)), y4, y5, y6, y7, y8] = .ok (.str (flatQ qs)) := by simp
      have hc : cutL (flatQ qs) none (some (many : Int)) = (flatQ qs).take many := by
        unfold cutL
        rw [HT.sIx_none, HT.sIx_nat]
        simp
        try omega
      unfold slF
      simp only [h3, h2, noP, rb_ok, slO_str (l := flatQ qs) (le_sz (by omega)), hc, ofO_some]
    rw [retS_ap, hs, rb_ok]
  · rw [List.all_eq_true] at g3 ⊢
    exact fun x hx => g3 x (List.mem_of_mem_take hx)
/-! ### how long the pieces are -/
theorem mix_mod (c : Int) (i p m : Nat) (hp : 0 < p) : mixN (c + 13 * ((i : Nat) : Int)) (p : Nat) m = mxN ((c % (p : Nat)).toNat + 13 * i) p m := by
  have hr : ((c % (p : Nat)).toNat : Int) = c % (p : Nat) := Int.toNat_of_nonneg (Int.emod_nonneg _ (by omega))
  have e1 : (c + 13 * (i : Int)) * 48271 % (p : Nat) = ((((c % (p : Nat)).toNat + 13 * i) * 48271 % p : Nat) : Int) := by
    rw [Int.natCast_emod, Int.natCast_mul, Int.natCast_add, hr, Int.natCast_mul]
    have hc : c % (p : Nat) + (p : Nat) * (c / (p : Nat)) = c := Int.emod_add_mul_ediv c (p : Nat)
    have e0 : (c + 13 * (i : Int)) * 48271 = (c % (p : Nat) + 13 * (i : Int)) * 48271 + (p : Nat) * (c / (p : Nat) * 48271) := by
      rw [← Int.mul_assoc]
      generalize (p : Int) * (c / (p : Nat)) = z at hc ⊢
      omega
    rw [e0, Int.add_mul_emod_self_left]
    rfl
  unfold mixN mixV mxN
  rw [e1]
  have : ((((c % (p : Nat)).toNat + 13 * i) * 48271 % p : Nat) : Int) * (((((c % (p : Nat)).toNat + 13 * i) * 48271 % p : Nat) : Int) + 7) % (p : Nat) % (m : Nat) = (((((c % (p : Nat)).toNat + 13 * i) * 48271 % p) * (((c % (p : Nat)).toNat + 13 * i) * 48271 % p + 7) % p % m : Nat) : Int) := by
    rw [Int.natCast_emod, Int.natCast_emod, Int.natCast_mul, Int.natCast_add]; rfl
  rw [this, Int.toNat_natCast]
theorem flatQ_cons (q : List Nat × List Nat) (qs : List (List Nat × List Nat)) : flatQ (q :: qs) = (q.1 ++ q.2) ++ flatQ qs := by simp [flatQ]
theorem flatQ_app (a b : List (List Nat × List Nat)) : flatQ (a ++ b) = flatQ a ++ flatQ b := by simp [flatQ]
theorem Txt.take {c : Int} {qs : List (List Nat × List Nat)} (h : Txt c qs) (n : Nat) : Txt c (qs.take n) := ⟨fun i q hq => by
  rw [List.getElem?_take] at hq
  split at hq
  · exact h.pc i q hq
  · cases hq⟩
theorem len_pieces {c : Int} : ∀ (n : Nat) (qs : List (List Nat × List Nat)), qs.length = n → Txt c qs → sW (c % 9941).toNat n ≤ (flatQ qs).countP isL ∧ sW (c % 9941).toNat n + sG (c % 9929).toNat n ≤ (flatQ qs).length
  | 0, qs, hn, h => by
    have : qs = [] := List.eq_nil_of_length_eq_zero hn
    subst this
    simp [sW, sG, flatQ]
  | n + 1, qs, hn, h => by
    obtain ⟨a, q, rfl⟩ := (snoc_cases qs).resolve_left (fun z => by rw [z] at hn; simp at hn)
    rw [List.length_append, List.length_singleton] at hn
    have ha : a.length = n := by omega
    obtain ⟨i1, i2⟩ := len_pieces n a ha (by have := h.take a.length; rwa [List.take_left] at this)
    have hq := h.pc a.length q (by simp)
    rw [ha] at hq
    have e1 := mix_mod c (n + 1) 9941 6 (by decide)
    have e2 := mix_mod c (n + 1) 9929 8 (by decide)
    have w1 := hq.wn
    have w2 := hq.gn
    rw [show ((n : Nat) : Int) + 1 = ((n + 1 : Nat) : Int) by omega] at w1 w2
    have e1' : mixN (c + 13 * ((n + 1 : Nat) : Int)) 9941 6 = mxN ((c % 9941).toNat + 13 * (n + 1)) 9941 6 := e1
    have e2' : mixN (c + 13 * ((n + 1 : Nat) : Int)) 9929 8 = mxN ((c % 9929).toNat + 13 * (n + 1)) 9929 8 := e2
    rw [e1'] at w1
    rw [e2'] at w2
    have hc : q.1.countP isL = q.1.length := List.countP_eq_length.mpr hq.wl
    rw [flatQ_snoc]
    simp only [sW, sG, List.countP_append, List.length_append, hc]
    omega
theorem few_pieces {c : Int} {qs : List (List Nat × List Nat)} {many : Nat} (h : Txt c qs) (hm : many ≤ 40) (hl : qs ≠ [] → (flatQ qs.dropLast).length < many) : qs.length ≤ 16 ∧ (qs.length = 16 → 19 ≤ ((flatQ qs).take many).countP isL) := by
  have rW : (c % 9941).toNat < 9941 := by omega
  have rG : (c % 9929).toNat < 9929 := by omega
  have tW := allB_of tabW _ rW
  have tG := allB_of tabG _ rG
  simp only [Bool.and_eq_true, Nat.ble_eq] at tW tG
  constructor
  · apply Classical.byContradiction
    intro hn
    have hne : qs ≠ [] := fun z => by rw [z] at hn; simp at hn
    have hd := hl hne
    have h16 := (len_pieces 16 (qs.take 16) (by rw [List.length_take]; omega) (h.take 16)).2
    have hpre : (flatQ (qs.take 16)).length ≤ (flatQ qs.dropLast).length := by
      have : qs.dropLast = qs.take 16 ++ qs.dropLast.drop 16 := by
        conv => lhs; rw [← List.take_append_drop 16 qs.dropLast]
        rw [List.dropLast_eq_take, List.take_take, Nat.min_eq_left (by omega)]
      rw [this, flatQ_app, List.length_append]
      omega
    omega
  · intro hn
    have hne : qs ≠ [] := fun z => by rw [z] at hn; simp at hn
    have hd := hl hne
    have e1 : qs = qs.dropLast ++ [qs.getLast hne] := (List.dropLast_concat_getLast hne).symm
    have h15 := (len_pieces 15 qs.dropLast (by rw [List.length_dropLast]; omega) (by rw [List.dropLast_eq_take]; exact h.take _)).1
    have : (flatQ qs).take many = flatQ qs.dropLast ++ ((qs.getLast hne).1 ++ (qs.getLast hne).2).take (many - (flatQ qs.dropLast).length) := by
      conv => lhs; rw [e1, flatQ_snoc]
      rw [List.take_append, List.take_of_length_le (by omega)]
    rw [this, List.countP_append]
    omega
end FM

set_option Elab.async false
set_option linter.all false
set_option maxRecDepth 100000
/-! S08: a mended fault of a rule by itself leaves one fault fewer. -/
namespace FM
open PySem PyProof.Rows L2
def spl (t : List Nat) (b e : Nat) (m : List Nat) : List Nat := t.take b ++ (m ++ t.drop e)
section
variable {pre b : Sg} {q : List Nat × List Nat} {last : List Nat}
theorem join_at : joinS (pre ++ q :: b) last = joinS pre [] ++ (q.1 ++ (q.2 ++ joinS b last)) := by rw [joinS_app]; simp [joinS]
theorem take_g : (joinS (pre ++ q :: b) last).take (lenS pre + q.1.length) = joinS pre [] ++ q.1 := by
  rw [join_at, ← List.append_assoc]
  exact List.take_left' (by simp [lenS])
theorem take_0 : (joinS (pre ++ q :: b) last).take (lenS pre) = joinS pre [] := by
  rw [join_at]
  exact List.take_left' rfl
theorem drop_w : (joinS (pre ++ q :: b) last).drop (lenS pre + q.1.length + q.2.length) = joinS b last := by
  rw [join_at, ← List.append_assoc, ← List.append_assoc]
  exact List.drop_left' (by simp [lenS]; omega)
theorem drop_g (k : Nat) (hk : k ≤ q.2.length) : (joinS (pre ++ q :: b) last).drop (lenS pre + q.1.length + k) = q.2.drop k ++ joinS b last := by
  rw [join_at, ← List.append_assoc, ← List.drop_drop, List.drop_left' (by simp [lenS]), List.drop_append_of_le_length hk]
end
theorem fs_len_p (r : Rule) {p p' : Option (List Nat)} (h : ∀ q, (atS r 0 p q).length = (atS r 0 p' q).length) : ∀ (b : Sg) (k k' : Nat), (fs r k p b).length = (fs r k' p' b).length
  | [], _, _ => rfl
  | q :: b, k, k' => by
    simp only [fs, List.length_append]
    rw [atS_len r k 0, atS_len r k' 0, h q, fs_len r b _ (k' + q.1.length + q.2.length)]
theorem WF_at {p : Nat → Bool} {pre b : Sg} {q : List Nat × List Nat} {last : List Nat} (h : WF p true (pre ++ q :: b) last) : (∀ c ∈ q.1, p c = false) ∧ (∀ c ∈ q.2, p c = true) ∧ q.2 ≠ [] ∧ (pre.isEmpty = true ∨ q.1 ≠ []) ∧ WF p false b last ∧ WF p true pre [] := by
  obtain ⟨h1, h2⟩ := WF_app.mp h
  obtain ⟨a1, a2, a3, a4, a5⟩ := h2
  exact ⟨a1, a2, a3, by simpa using a4, a5, h1⟩
theorem WF_mk {p : Nat → Bool} {pre b : Sg} {q : List Nat × List Nat} {last : List Nat} (h0 : WF p true pre []) (h1 : ∀ c ∈ q.1, p c = false) (h2 : ∀ c ∈ q.2, p c = true) (h3 : q.2 ≠ []) (h4 : pre.isEmpty = true ∨ q.1 ≠ []) (h5 : WF p false b last) : WF p true (pre ++ q :: b) last :=
  WF_app.mpr ⟨h0, h1, h2, h3, by simpa using h4, h5⟩
theorem sm_isL {c : Nat} (h : isSm c = true) : isL c = true := by
  unfold isL
  have := mem_small c
  rw [h] at this
  have hc := of_decide_eq_true this
  simp only [decide_eq_true_eq]
  revert hc
  simp only [tSmall, tLetters, List.mem_cons, List.not_mem_nil, or_false]
  omega
theorem low_sm {l : List Nat} (h : l.all isSm = true) : low l = l := by
  unfold low
  conv => rhs; rw [← List.map_id l]
  apply List.map_congr_left
  intro c hc
  have := List.all_eq_true.mp h c hc
  simp only [isSm, Bool.and_eq_true, decide_eq_true_eq] at this
  unfold lo1
  rw [if_neg (by omega)]
  rfl
theorem len_word (x y : List Nat) (k : Nat) (p : Option (List Nat)) (q : List Nat × List Nat) : (atS (.word x y) k p q).length = if low q.2 = x then 1 else 0 := by
  simp only [atS]; split <;> rfl
theorem cnt_word {t x y : List Nat} {f : Flt} (hx : x ≠ []) (hy : y.all isSm = true) (hf : f ∈ perWord t (.word x y)) :
    f.m = some y ∧ (perWord (spl t f.b f.e y) (.word x y)).length + (if x = y then 0 else 1) = (perWord t (.word x y)).length := by
  obtain ⟨sg, last, hw, rfl⟩ := seg_ex isL t.length t (Nat.le_refl _)
  rw [perWord_join (by simp) hw] at hf ⊢
  obtain ⟨pre, q, b, rfl, hm⟩ := fs_mem hf
  obtain ⟨a1, a2, a3, a4, a5, a6⟩ := WF_at hw
  simp only [atS] at hm
  split at hm
  rotate_left
  · simp at hm
  rename_i hlow
  simp only [List.mem_singleton, Nat.zero_add] at hm
  subst hm
  refine ⟨rfl, ?_⟩
  have hsp : spl (joinS (pre ++ q :: b) last) (lenS pre + q.1.length) (lenS pre + q.1.length + q.2.length) y = joinS pre [] ++ (q.1 ++ (y ++ joinS b last)) := by
    unfold spl
    rw [take_g, drop_w, List.append_assoc]
  simp only [hsp]
  have hany : ∀ (p p' : Option (List Nat)) (l : Sg) (k k' : Nat), (fs (.word x y) k p l).length = (fs (.word x y) k' p' l).length := fun p p' l k k' => fs_len_p _ (fun q => by rw [len_word, len_word]) l k k'
  rw [fs_app, List.length_append]
  simp only [fs, List.length_append, len_word, hlow, if_true]
  by_cases hy0 : y = []
  · subst hy0
    rw [if_neg hx]
    cases b with
    | nil =>
      have hj : joinS pre [] ++ (q.1 ++ ([] ++ joinS [] last)) = joinS pre (q.1 ++ last) := by
        have := joinS_app pre [] (q.1 ++ last)
        simp only [List.append_nil] at this
        rw [this]; rfl
      have hw' : WF isL true pre (q.1 ++ last) := by
        have := WF_app (p := isL) (f := true) (a := pre) (b := []) (last := q.1 ++ last)
        rw [List.append_nil] at this
        exact this.mpr ⟨a6, fun c hc => by
          rcases List.mem_append.mp hc with h | h
          · exact a1 c h
          · exact a5 c h⟩
      rw [hj, perWord_join (by simp) hw']
      simp [fs]
    | cons q2 b' =>
      obtain ⟨c1, c2, c3, c4, c5⟩ := a5
      have hj : joinS pre [] ++ (q.1 ++ ([] ++ joinS (q2 :: b') last)) = joinS (pre ++ (q.1 ++ q2.1, q2.2) :: b') last := by
        rw [join_at]; simp [joinS]
      have hw' : WF isL true (pre ++ (q.1 ++ q2.1, q2.2) :: b') last := WF_mk a6 (fun c hc => by
        rcases List.mem_append.mp hc with h | h
        · exact a1 c h
        · exact c1 c h) c2 c3 (.inr fun z => by
          have := List.append_eq_nil_iff.mp z
          rcases c4 with h | h
          · simp at h
          · exact h this.2) c5
      rw [hj, perWord_join (by simp) hw', fs_app, List.length_append]
      simp only [fs, List.length_append, len_word]
      rw [hany (some q2.2) (some q2.2) b' _ (0 + lenS pre + q.1.length + q.2.length + q2.1.length + q2.2.length)]
      omega
  · have hj : joinS pre [] ++ (q.1 ++ (y ++ joinS b last)) = joinS (pre ++ (q.1, y) :: b) last := by rw [join_at]
    have hw' : WF isL true (pre ++ (q.1, y) :: b) last := WF_mk a6 a1 (fun c hc => sm_isL (List.all_eq_true.mp hy c hc)) hy0 a4 a5
    rw [hj, perWord_join (by simp) hw', fs_app, List.length_append]
    simp only [fs, List.length_append, len_word, low_sm hy]
    rw [hany (some y) (some q.2) b (0 + lenS pre + q.1.length + y.length) (0 + lenS pre + q.1.length + q.2.length)]
    by_cases e : x = y
    · rw [if_pos e.symm, if_pos e]; omega
    · rw [if_neg (Ne.symm e), if_neg e]; omega
theorem up_sm {c : Nat} (h : isSm c = true) : isSm (up1 c) = false ∧ isL (up1 c) = true := by
  simp only [isSm, Bool.and_eq_true, decide_eq_true_eq] at h
  have e : up1 c = c - 32 := by unfold up1; rw [if_pos (by omega)]
  rw [e]
  refine ⟨?_, ?_⟩
  · simp only [isSm, Bool.and_eq_false_iff, decide_eq_false_iff_not]; omega
  · unfold isL
    simp only [decide_eq_true_eq, tLetters, List.mem_cons, List.not_mem_nil, or_false]
    omega
theorem len_great (k : Nat) (p : Option (List Nat)) (q : List Nat × List Nat) : (atS .great k p q).length = if (p = none ∨ 46 ∈ q.1) ∧ isSm (q.2.headD 0) = true then 1 else 0 := by
  simp only [atS]; split <;> rfl
theorem cnt_great {t : List Nat} {f : Flt} (hf : f ∈ perWord t .great) : ∃ c, isSm c = true ∧ f.m = some [up1 c] ∧ (perWord (spl t f.b f.e [up1 c]) .great).length + 1 = (perWord t .great).length := by
  obtain ⟨sg, last, hw, rfl⟩ := seg_ex isL t.length t (Nat.le_refl _)
  rw [perWord_join (by simp) hw] at hf ⊢
  obtain ⟨pre, q, b, rfl, hm⟩ := fs_mem hf
  obtain ⟨a1, a2, a3, a4, a5, a6⟩ := WF_at hw
  simp only [atS] at hm
  split at hm
  rotate_left
  · simp at hm
  rename_i hc
  simp only [List.mem_singleton, Nat.zero_add] at hm
  subst hm
  refine ⟨q.2.headD 0, hc.2, rfl, ?_⟩
  obtain ⟨c, w, hq⟩ := List.exists_cons_of_ne_nil a3
  have hsp : spl (joinS (pre ++ q :: b) last) (lenS pre + q.1.length) (lenS pre + q.1.length + 1) [up1 (q.2.headD 0)] = joinS (pre ++ (q.1, up1 (q.2.headD 0) :: w) :: b) last := by
    unfold spl
    rw [take_g, drop_g 1 (by rw [hq]; simp), hq, join_at]
    simp
  have hu := up_sm hc.2
  have hw' : WF isL true (pre ++ (q.1, up1 (q.2.headD 0) :: w) :: b) last := WF_mk a6 a1 (fun x hx => by
    rcases List.mem_cons.mp hx with h | h
    · rw [h]; exact hu.2
    · exact a2 x (by rw [hq]; simp [h])) (by simp) a4 a5
  simp only [hsp]
  rw [perWord_join (by simp) hw', fs_app, fs_app, List.length_append, List.length_append]
  simp only [fs, List.length_append, len_great]
  rw [fs_len_p .great (p := some (up1 (q.2.headD 0) :: w)) (p' := some q.2) (fun x => by rw [len_great, len_great]; simp) b _ (0 + lenS pre + q.1.length + q.2.length)]
  rw [if_pos hc, if_neg (by simp only [List.headD_cons, hu.1]; simp)]
  omega
theorem len_twice (k : Nat) (p : Option (List Nat)) (q : List Nat × List Nat) : (atS .twice k p q).length = match p with | some u => if blank q.1 = true ∧ low u = low q.2 then 1 else 0 | none => 0 := by
  cases p with
  | none => rfl
  | some u => simp only [atS]; split <;> rfl
theorem prevOf_none {pre : Sg} {u : List Nat} (h : prevOf none pre = some u) : pre ≠ [] := fun z => by subst z; cases h
theorem cnt_twice {t : List Nat} {f : Flt} (hf : f ∈ perWord t .twice) : f.m = some [] ∧ (perWord (spl t f.b f.e []) .twice).length + 1 = (perWord t .twice).length := by
  obtain ⟨sg, last, hw, rfl⟩ := seg_ex isL t.length t (Nat.le_refl _)
  rw [perWord_join (by simp) hw] at hf ⊢
  obtain ⟨pre, q, b, rfl, hm⟩ := fs_mem hf
  obtain ⟨a1, a2, a3, a4, a5, a6⟩ := WF_at hw
  cases hp : prevOf none pre with
  | none => rw [hp] at hm; simp [atS] at hm
  | some u =>
    rw [hp] at hm
    simp only [atS] at hm
    split at hm
    rotate_left
    · simp at hm
    rename_i hc
    simp only [List.mem_singleton, Nat.zero_add] at hm
    subst hm
    refine ⟨rfl, ?_⟩
    have hne := prevOf_none hp
    have hemp : (true && pre.isEmpty) = false := by cases pre <;> simp_all
    have hsp : spl (joinS (pre ++ q :: b) last) (lenS pre) (lenS pre + q.1.length + q.2.length) [] = joinS (pre ++ b) last := by
      unfold spl
      rw [take_0, drop_w, joinS_app]
      simp
    have hw' : WF isL true (pre ++ b) last := WF_app.mpr ⟨a6, by rw [hemp]; exact a5⟩
    simp only [hsp]
    rw [perWord_join (by simp) hw', fs_app, fs_app, List.length_append, List.length_append]
    simp only [fs, List.length_append, hp, len_twice]
    rw [if_pos hc, fs_len_p .twice (p := some u) (p' := some q.2) (fun x => by rw [len_twice, len_twice]; simp only [hc.2]) b _ (0 + lenS pre + q.1.length + q.2.length)]
    omega
/-! ### blanks and signs -/
abbrev isBk : Nat → Bool := fun c => decide (c ∈ [32])
def fb : Nat → Sg → List Flt
  | _, [] => []
  | k, q :: s => (if 1 < q.2.length then [⟨k + q.1.length + 1, k + q.1.length + q.2.length, some []⟩] else []) ++ fb (k + q.1.length + q.2.length) s
theorem blanks_join {last : List Nat} : ∀ (a : Sg) (k : Nat), ((wp k a).filter fun w => decide (w.1 + 1 < w.2)).map (fun w => (⟨w.1 + 1, w.2, some []⟩ : Flt)) = fb k a
  | [], k => rfl
  | q :: a, k => by
    simp only [wp, fb, List.filter_cons]
    have e : decide (k + q.1.length + 1 < k + q.1.length + q.2.length) = decide (1 < q.2.length) := by
      rw [Bool.eq_iff_iff, decide_eq_true_eq, decide_eq_true_eq]; omega
    rw [e]
    by_cases h : 1 < q.2.length
    · simp only [decide_eq_true h, if_true, List.map_cons, blanks_join (last := last) a, if_pos h]; rfl
    · simp only [decide_eq_false h, Bool.false_eq_true, if_false, blanks_join (last := last) a, if_neg h]; rfl
theorem fb_app : ∀ (a b : Sg) (k : Nat), fb k (a ++ b) = fb k a ++ fb (k + lenS a) b
  | [], b, k => by simp [fb, lenS_nil]
  | q :: a, b, k => by
    simp only [List.cons_append, fb, lenS_cons, fb_app a b, List.append_assoc]
    congr 3
    omega
theorem fb_len : ∀ (a : Sg) (k k' : Nat), (fb k a).length = (fb k' a).length
  | [], _, _ => rfl
  | q :: b, k, k' => by
    simp only [fb, List.length_append]
    rw [fb_len b _ (k' + q.1.length + q.2.length)]
    split <;> rfl
theorem fb_mem {f : Flt} : ∀ {a : Sg} {k : Nat}, f ∈ fb k a → ∃ pre q b, a = pre ++ q :: b ∧ 1 < q.2.length ∧ f = ⟨k + lenS pre + q.1.length + 1, k + lenS pre + q.1.length + q.2.length, some []⟩
  | [], k, h => by simp [fb] at h
  | q :: b, k, h => by
    rcases List.mem_append.mp h with h | h
    · split at h
      · rename_i hl
        exact ⟨[], q, b, rfl, hl, by simpa [lenS_nil] using h⟩
      · simp at h
    · obtain ⟨pre, q', b', e, hl, hm⟩ := fb_mem h
      exact ⟨q :: pre, q', b', by rw [e]; rfl, hl, by rw [lenS_cons, hm]; simp [Nat.add_assoc]⟩
theorem blanks_sg {a : Sg} {last : List Nat} (h : WF isBk true a last) : blanks (joinS a last) = fb 0 a := by
  unfold blanks
  rw [runs_join a last true 0 h]
  exact blanks_join (last := last) a 0
theorem cnt_blanks {t : List Nat} {f : Flt} (hf : f ∈ blanks t) : f.m = some [] ∧ (blanks (spl t f.b f.e [])).length + 1 = (blanks t).length := by
  obtain ⟨sg, last, hw, rfl⟩ := seg_ex isBk t.length t (Nat.le_refl _)
  rw [blanks_sg hw] at hf ⊢
  obtain ⟨pre, q, b, rfl, hl, rfl⟩ := fb_mem hf
  obtain ⟨a1, a2, a3, a4, a5, a6⟩ := WF_at hw
  refine ⟨rfl, ?_⟩
  obtain ⟨c, w, hq⟩ := List.exists_cons_of_ne_nil a3
  have hsp : spl (joinS (pre ++ q :: b) last) (0 + lenS pre + q.1.length + 1) (0 + lenS pre + q.1.length + q.2.length) [] = joinS (pre ++ (q.1, [c]) :: b) last := by
    unfold spl
    rw [Nat.zero_add, drop_w, join_at, join_at, ← List.append_assoc, ← List.append_assoc, hq]
    have e : (joinS pre [] ++ q.1 ++ ((c :: w) ++ joinS b last)).take (lenS pre + q.1.length + 1) = joinS pre [] ++ q.1 ++ [c] := by
      rw [show lenS pre + q.1.length + 1 = (joinS pre [] ++ q.1).length + 1 by simp [lenS], List.take_length_add_append]
      simp
    rw [List.cons_append] at e
    simp only [List.cons_append]
    rw [e]
    simp
  have hw' : WF isBk true (pre ++ (q.1, [c]) :: b) last := WF_mk a6 a1 (fun x hx => by
    simp only [List.mem_singleton] at hx
    rw [hx]; exact a2 c (by rw [hq]; simp)) (by simp) a4 a5
  simp only [hsp]
  rw [blanks_sg hw', fb_app, fb_app, List.length_append, List.length_append]
  simp only [fb, List.length_append, List.length_singleton, if_pos hl]
  rw [fb_len b (0 + lenS pre + q.1.length + 1) (0 + lenS pre + q.1.length + q.2.length)]
  simp
  omega
theorem signs_len (t : List Nat) (c : Nat) : (signs t c).length = t.count c := by
  unfold signs
  rw [List.length_map]
  induction t with
  | nil => rfl
  | cons a r ih =>
    rw [List.length_cons, List.range_succ_eq_map, List.filter_cons, List.filter_map, List.count_cons]
    have e : ((fun k => decide ((a :: r)[k]? = some c)) ∘ Nat.succ) = fun k => decide (r[k]? = some c) := by
      funext k; simp
    rw [e]
    by_cases h : a = c
    · subst h
      simp [ih]
    · have h' : (a == c) = false := by simp [h]
      simp [h, ih]
theorem cnt_sign {t : List Nat} {c : Nat} {f : Flt} (hf : f ∈ signs t c) : f.m = some [] ∧ (signs (spl t f.b f.e []) c).length + 1 = (signs t c).length := by
  unfold signs at hf
  obtain ⟨k, hk, rfl⟩ := List.mem_map.mp hf
  simp only [List.mem_filter, List.mem_range, decide_eq_true_eq] at hk
  refine ⟨rfl, ?_⟩
  rw [signs_len, signs_len]
  obtain ⟨hl, hc⟩ := hk
  have e : t = t.take k ++ c :: t.drop (k + 1) := by
    rw [List.getElem?_eq_getElem hl] at hc
    injection hc with hc
    rw [← hc, ← List.drop_eq_getElem_cons hl, List.take_append_drop]
  have e2 : t.count c = (t.take k).count c + ((t.drop (k + 1)).count c + 1) := by
    conv => lhs; rw [e]
    rw [List.count_append, List.count_cons_self]
  rw [e2]
  unfold spl
  simp only [List.nil_append, List.count_append]
  omega
/-- a rule that is "mended to itself" -/
def selfR : Rule → Bool
  | .word x y => decide (x = y)
  | _ => false
theorem cnt_faults {t : List Nat} {r : Rule} {f : Flt} {m : List Nat} (hr : r.ok = true) (hf : f ∈ faults t r) (hm : f.m = some m) : (faults (spl t f.b f.e m) r).length + (if selfR r then 0 else 1) = (faults t r).length := by
  cases r with
  | twice =>
    obtain ⟨h1, h2⟩ := cnt_twice hf
    rw [h1] at hm; cases hm
    exact h2
  | blanks =>
    obtain ⟨h1, h2⟩ := cnt_blanks hf
    rw [h1] at hm; cases hm
    exact h2
  | great =>
    obtain ⟨c, _, h1, h2⟩ := cnt_great hf
    rw [h1] at hm; cases hm
    exact h2
  | word x y =>
    simp only [Rule.ok, Bool.and_eq_true, decide_eq_true_eq] at hr
    obtain ⟨⟨⟨⟨r1, r2⟩, r3⟩, r4⟩, r5⟩ := hr
    obtain ⟨h1, h2⟩ := cnt_word (x := x) (y := y) (fun z => by subst z; simp at r1) r5 hf
    rw [h1] at hm; cases hm
    simp only [selfR, decide_eq_true_eq]
    exact h2
  | long n =>
    exfalso
    have : ∀ (l : List (Nat × Nat)) (i : Nat), f ∈ ((l.zipIdx i).map fun p => atWord t (words t) (.long n) p.2 p.1).flatten → f.m = none := fun l i h => by
      obtain ⟨y, hy, hfy⟩ := List.mem_flatten.mp h
      obtain ⟨p, _, rfl⟩ := List.mem_map.mp hy
      simp only [atWord] at hfy
      split at hfy
      · simp only [List.mem_singleton] at hfy; rw [hfy]
      · simp at hfy
    rw [this _ 0 hf] at hm
    cases hm
  | sign c =>
    obtain ⟨h1, h2⟩ := cnt_sign hf
    rw [h1] at hm; cases hm
    exact h2
end FM

set_option Elab.async false
set_option linter.all false
set_option maxRecDepth 100000
/-! N07: mends at once, and how long a text can get by them. -/
namespace FM
open PySem PyProof.Rows L2
/-! ### a measure: each word counts as at least six -/
def cost (n : Nat) : Nat := if n = 0 then 6 else if n < 6 then 0 else 1
def phi : Nat → List Nat → Nat
  | _, [] => 0
  | n, c :: t => if isL c = true then cost n + phi (n + 1) t else 1 + phi 0 t
def st1 : Nat → List Nat → Nat
  | n, [] => n
  | n, c :: t => if isL c = true then st1 (n + 1) t else st1 0 t
def dl (n n' : Nat) : Nat := if n' = 0 then 0 else if n = 0 then 6 else min n 6 - min n' 6
/-- the rest begins with a letter -/
def begL : List Nat → Bool
  | [] => false
  | c :: _ => isL c
def dD (n n' : Nat) (l : List Nat) : Nat := if begL l = true then dl n n' else 0
theorem dl_step (n n' : Nat) : cost n + dl (n + 1) (n' + 1) ≤ cost n' + dl n n' := by
  unfold cost dl
  rw [if_neg (Nat.succ_ne_zero n'), if_neg (Nat.succ_ne_zero n)]
  by_cases h1 : n = 0 <;> by_cases h2 : n' = 0 <;> by_cases h3 : n < 6 <;> by_cases h4 : n' < 6 <;> simp only [h1, h2, h3, h4, if_true, if_false] <;> omega
theorem dD_le (n n' : Nat) (l : List Nat) : dD n n' l ≤ dl n n' := by unfold dD; split <;> omega
theorem dl_0 (n : Nat) : dl n 0 = 0 := rfl
theorem phi_app : ∀ (n : Nat) (a b : List Nat), phi n (a ++ b) = phi n a + phi (st1 n a) b
  | n, [], b => by simp [phi, st1]
  | n, c :: a, b => by
    simp only [List.cons_append, phi, st1]
    split
    · rw [phi_app]; omega
    · rw [phi_app]; omega
theorem st_app : ∀ (n : Nat) (a b : List Nat), st1 n (a ++ b) = st1 (st1 n a) b
  | n, [], b => rfl
  | n, c :: a, b => by
    simp only [List.cons_append, st1]
    split <;> exact st_app _ a b
theorem phi_non : ∀ (n : Nat) (x b : List Nat), x ≠ [] → (∀ c ∈ x, isL c = false) → phi n (x ++ b) = x.length + phi 0 b
  | n, [], b, h, _ => absurd rfl h
  | n, [c], b, _, h => by
    simp only [List.singleton_append, phi, h c (by simp), Bool.false_eq_true, if_false, List.length_singleton]
  | n, c :: d :: x, b, _, h => by
    simp only [List.cons_append, phi, h c (by simp), Bool.false_eq_true, if_false]
    have := phi_non 0 (d :: x) b (by simp) (fun y hy => h y (List.mem_cons_of_mem _ hy))
    simp only [List.cons_append, phi] at this
    rw [this]
    simp only [List.length_cons]
    omega
theorem phi_let : ∀ (n : Nat) (w b : List Nat), (∀ c ∈ w, isL c = true) → phi n (w ++ b) = phi n w + phi (n + w.length) b
  | n, [], b, _ => by simp [phi]
  | n, c :: w, b, h => by
    simp only [List.cons_append, phi, h c (by simp), if_true]
    rw [phi_let (n + 1) w b (fun y hy => h y (List.mem_cons_of_mem _ hy))]
    simp only [List.length_cons]
    rw [show n + 1 + w.length = n + (w.length + 1) by omega]
    omega
theorem phi_word0 {w : List Nat} (h : ∀ c ∈ w, isL c = true) (hn : w ≠ []) : 6 ≤ phi 0 w := by
  cases w with
  | nil => exact absurd rfl hn
  | cons c w =>
    simp only [phi, h c (by simp), if_true, cost]
    omega
theorem phi_pos : ∀ (n : Nat) (y : List Nat), 1 ≤ n → (∀ c ∈ y, isL c = true) → n + y.length ≤ 6 → phi n y = 0
  | n, [], _, _, _ => by simp [phi]
  | n, c :: y, hn, h, hl => by
    simp only [List.length_cons] at hl
    have h2 := phi_pos (n + 1) y (by omega) (fun z hz => h z (List.mem_cons_of_mem _ hz)) (by omega)
    simp only [phi, h c (by simp), if_true]
    unfold cost
    rw [h2, if_neg (by omega), if_pos (by omega)]
theorem phi_len1 : ∀ (n : Nat) (y : List Nat), 1 ≤ n → (∀ c ∈ y, isL c = true) → phi n y ≤ y.length
  | n, [], _, _ => by simp [phi]
  | n, c :: y, hn, h => by
    have := phi_len1 (n + 1) y (by omega) (fun z hz => h z (List.mem_cons_of_mem _ hz))
    simp only [phi, h c (by simp), if_true, List.length_cons]
    unfold cost
    split
    · omega
    · split <;> omega
theorem phi_six (n : Nat) {y : List Nat} (h : ∀ c ∈ y, isL c = true) (hl : y.length ≤ 6) : phi n y ≤ 6 := by
  rcases Nat.eq_zero_or_pos n with rfl | hn
  · cases y with
    | nil => simp [phi]
    | cons c y =>
      simp only [List.length_cons] at hl
      simp only [phi, h c (by simp), if_true, cost]
      have := phi_pos 1 y (by omega) (fun z hz => h z (List.mem_cons_of_mem _ hz)) (by omega)
      rw [show 0 + 1 = 1 by rfl, this]
      omega
  · exact Nat.le_trans (phi_len1 n y hn h) hl
theorem phi_cut {n n' : Nat} {l : List Nat} (h : begL l = false) : phi n l = phi n' l := by
  cases l with
  | nil => rfl
  | cons c l =>
    simp only [begL] at h
    simp only [phi, h, Bool.false_eq_true, if_false]
/-- what comes of a text by mends: the state ahead, the text, what comes of it -/
inductive Md : Nat → List Nat → List Nat → Prop
  | nil (n : Nat) : Md n [] []
  | copyL {n c S R} : isL c = true → Md (n + 1) S R → Md n (c :: S) (c :: R)
  | copyN {n c S R} : isL c = false → Md 0 S R → Md n (c :: S) (c :: R)
  | del {n x S R} : x ≠ [] → (∀ c ∈ x, isL c = false) → Md 0 S R → Md n (x ++ S) R
  | twice {n g w S R} : g ≠ [] → (∀ c ∈ g, isL c = false) → (∀ c ∈ w, isL c = true) → begL S = false → Md w.length S R → Md n (g ++ (w ++ S)) R
  | word {w S y R} : w ≠ [] → (∀ c ∈ w, isL c = true) → begL S = false → y.length ≤ 6 → (∀ c ∈ y, isL c = true) → Md w.length S R → Md 0 (w ++ S) (y ++ R)
  | great {c c' S R} : isL c = true → isL c' = true → Md 1 S R → Md 0 (c :: S) (c' :: R)
theorem Md.le {n' : Nat} {S R : List Nat} (h : Md n' S R) : ∀ n, phi n R ≤ phi n' S + dD n n' S := by
  induction h with
  | nil n' => intro n; simp [phi]
  | @copyL n' c S R hc _ ih =>
    intro n
    have h1 := ih (n + 1)
    have h2 := dD_le (n + 1) (n' + 1) S
    have h3 := dl_step n n'
    simp only [phi, hc, if_true, dD, begL]
    simp only [dD] at h1 h2
    omega
  | @copyN n' c S R hc _ ih =>
    intro n
    have h1 := ih 0
    have h2 := dD_le 0 0 S
    rw [dl_0] at h2
    simp only [phi, hc, Bool.false_eq_true, if_false]
    omega
  | @del n' x S R hx hn _ ih =>
    intro n
    rw [phi_non _ _ _ hx hn]
    have h1 := ih n
    have h2 := dD_le n 0 S
    rw [dl_0] at h2
    omega
  | @twice n' g w S R hg hn hw hS _ ih =>
    intro n
    rw [phi_non _ _ _ hg hn, phi_let _ _ _ hw, Nat.zero_add]
    have h1 := ih n
    have h2 : dD n w.length S = 0 := by unfold dD; rw [hS]; rfl
    omega
  | @word w S y R hne hw hS hy hl _ ih =>
    intro n
    rw [phi_app, phi_let _ _ _ hw, Nat.zero_add]
    have h1 := ih (st1 n y)
    have h2 : dD (st1 n y) w.length S = 0 := by unfold dD; rw [hS]; rfl
    have h3 := phi_six n hl hy
    have h4 := phi_word0 hw hne
    omega
  | @great c c' S R hc hc' _ ih =>
    intro n
    have h1 := ih (n + 1)
    have h2 := dD_le (n + 1) 1 S
    have h3 : cost n + dl (n + 1) 1 ≤ cost 0 := dl_step n 0
    simp only [phi, hc, hc', if_true, Nat.zero_add]
    omega
theorem phi_ge : ∀ (n : Nat) (l : List Nat), l.length ≤ phi n l + (if n = 0 then 0 else 6 - n)
  | n, [] => by simp
  | n, c :: l => by
    simp only [phi, List.length_cons]
    split
    · have := phi_ge (n + 1) l
      rw [if_neg (by omega)] at this
      unfold cost
      split
      · omega
      · split <;> omega
    · have := phi_ge 0 l
      rw [if_pos rfl] at this
      omega
theorem phi_le : ∀ (n : Nat) (l : List Nat), phi n l ≤ 6 * l.length
  | n, [] => by simp [phi]
  | n, c :: l => by
    simp only [phi, List.length_cons]
    split
    · have := phi_le (n + 1) l
      unfold cost
      split
      · omega
      · split <;> omega
    · have := phi_le 0 l
      omega
theorem Md.refl : ∀ (n : Nat) (l : List Nat), Md n l l
  | n, [] => .nil n
  | n, c :: l => by
    by_cases h : isL c = true
    · exact .copyL h (Md.refl _ l)
    · exact .copyN (by simpa using h) (Md.refl _ l)
theorem Md.pre : ∀ (k : List Nat) {n : Nat} {S R : List Nat}, Md (st1 n k) S R → Md n (k ++ S) (k ++ R)
  | [], n, S, R, h => h
  | c :: k, n, S, R, h => by
    by_cases hc : isL c = true
    · simp only [st1, hc, if_true] at h
      exact .copyL hc (Md.pre k h)
    · simp only [st1, hc, if_false] at h
      exact .copyN (by simpa using hc) (Md.pre k (by simpa using h))
/-! ### marks as they lie in a text -/
inductive Good (T : List Nat) (f : Flt) : Prop
  | del (P x S : List Nat) : T = P ++ (x ++ S) → P.length = f.b → P.length + x.length = f.e → f.m = some [] → x ≠ [] → (∀ c ∈ x, isL c = false) → Good T f
  | twice (P g w S : List Nat) : T = P ++ ((g ++ w) ++ S) → P.length = f.b → P.length + (g ++ w).length = f.e → f.m = some [] → g ≠ [] → (∀ c ∈ g, isL c = false) → (∀ c ∈ w, isL c = true) → begL S = false → Good T f
  | word (P w S y : List Nat) : T = P ++ (w ++ S) → P.length = f.b → P.length + w.length = f.e → f.m = some y → st1 0 P = 0 → w ≠ [] → (∀ c ∈ w, isL c = true) → begL S = false → y.length ≤ 6 → (∀ c ∈ y, isL c = true) → Good T f
  | great (P S : List Nat) (c c' : Nat) : T = P ++ ([c] ++ S) → P.length = f.b → P.length + 1 = f.e → f.m = some [c'] → st1 0 P = 0 → isL c = true → isL c' = true → Good T f
  | none (P x S : List Nat) : T = P ++ (x ++ S) → P.length = f.b → P.length + x.length = f.e → f.m = .none → x ≠ [] → Good T f
/-- a text with marks mended, from a place on -/
def bld : Nat → List Nat → List Flt → List Nat
  | _, S, [] => S
  | off, S, f :: r => S.take (f.b - off) ++ (f.m.getD [] ++ bld f.e (S.drop (f.e - off)) r)
/-- marks with mends, one behind the other -/
def Asc : Nat → List Flt → Prop
  | _, [] => True
  | off, f :: r => off ≤ f.b ∧ f.b ≤ f.e ∧ f.m.isSome = true ∧ Asc f.e r
theorem Good.lt {T : List Nat} {f : Flt} (h : Good T f) : f.b < f.e ∧ f.e ≤ T.length := by
  cases h with
  | del P x S h1 h2 h3 h4 h5 h6 => have := List.length_pos_iff.mpr h5; subst h1; simp at h3 ⊢; omega
  | twice P g w S h1 h2 h3 h4 h5 => have := List.length_pos_iff.mpr h5; subst h1; simp at h3 ⊢; omega
  | word P w S y h1 h2 h3 h4 h5 h6 => have := List.length_pos_iff.mpr h6; subst h1; simp at h3 ⊢; omega
  | great P S c c' h1 h2 h3 h4 => subst h1; simp at h3 ⊢; omega
  | none P x S h1 h2 h3 h4 h5 => have := List.length_pos_iff.mpr h5; subst h1; simp at h3 ⊢; omega
theorem st_let : ∀ (n : Nat) (w : List Nat), (∀ c ∈ w, isL c = true) → st1 n w = n + w.length
  | n, [], _ => rfl
  | n, c :: w, h => by
    simp only [st1, h c (by simp), if_true]
    rw [st_let (n + 1) w (fun y hy => h y (List.mem_cons_of_mem _ hy))]
    simp only [List.length_cons]
    omega
theorem st_non : ∀ (n : Nat) (x : List Nat), x ≠ [] → (∀ c ∈ x, isL c = false) → st1 n x = 0
  | n, [], h, _ => absurd rfl h
  | n, [c], _, h => by simp [st1, h c (by simp)]
  | n, c :: d :: x, _, h => by
    simp only [st1, h c (by simp), Bool.false_eq_true, if_false]
    exact st_non 0 (d :: x) (by simp) (fun y hy => h y (List.mem_cons_of_mem _ hy))
theorem bld_md {T : List Nat} : ∀ (ms : List Flt) (off : Nat), off ≤ T.length → Asc off ms → (∀ f ∈ ms, Good T f) → Md (st1 0 (T.take off)) (T.drop off) (bld off (T.drop off) ms)
  | [], off, _, _, _ => Md.refl _ _
  | f :: r, off, ho, ha, hg => by
    obtain ⟨h1, h2, h3, h4⟩ := ha
    have gf := hg f (by simp)
    obtain ⟨l1, l2⟩ := gf.lt
    have ih := bld_md r f.e l2 h4 (fun x hx => hg x (by simp [hx]))
    have hk : T.drop off = (T.drop off).take (f.b - off) ++ T.drop f.b := by
      conv => lhs; rw [← List.take_append_drop (f.b - off) (T.drop off)]
      rw [List.drop_drop, show off + (f.b - off) = f.b by omega]
    have hst : st1 (st1 0 (T.take off)) ((T.drop off).take (f.b - off)) = st1 0 (T.take f.b) := by
      rw [← st_app]
      congr 1
      rw [← List.take_append_drop off (T.take f.b), List.take_take, Nat.min_eq_left h1, List.drop_take]
    have hd : (T.drop off).drop (f.e - off) = T.drop f.e := by rw [List.drop_drop]; congr 1; omega
    show Md _ (T.drop off) ((T.drop off).take (f.b - off) ++ (f.m.getD [] ++ bld f.e ((T.drop off).drop (f.e - off)) r))
    rw [hd]
    generalize hK : (T.drop off).take (f.b - off) = K at hk hst ⊢
    rw [hk]
    refine Md.pre K ?_
    rw [hst]
    generalize hR : bld f.e (T.drop f.e) r = R at ih ⊢
    cases gf with
    | del P x S e1 e2 e3 e4 e5 e6 =>
      have t1 : T.take f.b = P := by rw [e1, ← e2]; exact List.take_left' rfl
      have t2 : T.drop f.b = x ++ S := by rw [e1, ← e2]; exact List.drop_left' rfl
      have t3 : T.drop f.e = S := by rw [e1, ← e3, ← List.append_assoc]; exact List.drop_left' (by simp)
      have t4 : T.take f.e = P ++ x := by rw [e1, ← e3, ← List.append_assoc]; exact List.take_left' (by simp)
      rw [t1, t2, e4]
      rw [t3, t4, st_app, st_non _ x e5 e6] at ih
      exact .del e5 e6 ih
    | twice P g w S e1 e2 e3 e4 e5 e6 e7 e8 =>
      have t1 : T.take f.b = P := by rw [e1, ← e2]; exact List.take_left' rfl
      have t2 : T.drop f.b = (g ++ w) ++ S := by rw [e1, ← e2]; exact List.drop_left' rfl
      have t3 : T.drop f.e = S := by rw [e1, ← e3, ← List.append_assoc]; exact List.drop_left' (by simp)
      have t4 : T.take f.e = P ++ (g ++ w) := by rw [e1, ← e3, ← List.append_assoc]; exact List.take_left' (by simp)
      rw [t1, t2, e4, List.append_assoc]
      rw [t3, t4, st_app, st_app, st_non _ g e5 e6, st_let _ w e7, Nat.zero_add] at ih
      exact .twice e5 e6 e7 e8 ih
    | word P w S y e1 e2 e3 e4 e5 e6 e7 e8 e9 e10 =>
      have t1 : T.take f.b = P := by rw [e1, ← e2]; exact List.take_left' rfl
      have t2 : T.drop f.b = w ++ S := by rw [e1, ← e2]; exact List.drop_left' rfl
      have t3 : T.drop f.e = S := by rw [e1, ← e3, ← List.append_assoc]; exact List.drop_left' (by simp)
      have t4 : T.take f.e = P ++ w := by rw [e1, ← e3, ← List.append_assoc]; exact List.take_left' (by simp)
      rw [t1, t2, e4, e5]
      rw [t3, t4, st_app, e5, st_let _ w e7, Nat.zero_add] at ih
      exact .word e6 e7 e8 e9 e10 ih
    | great P S c c' e1 e2 e3 e4 e5 e6 e7 =>
      have t1 : T.take f.b = P := by rw [e1, ← e2]; exact List.take_left' rfl
      have t2 : T.drop f.b = [c] ++ S := by rw [e1, ← e2]; exact List.drop_left' rfl
      have t3 : T.drop f.e = S := by rw [e1, ← e3, ← List.append_assoc]; exact List.drop_left' (by simp)
      have t4 : T.take f.e = P ++ [c] := by rw [e1, ← e3, ← List.append_assoc]; exact List.take_left' (by simp)
      rw [t1, t2, e4, e5]
      rw [t3, t4, st_app, e5] at ih
      simp only [st1, e6, if_true, Nat.zero_add] at ih
      exact .great e6 e7 ih
    | none P x S e1 e2 e3 e4 e5 => rw [e4] at h3; cases h3
/-! ### the faults of a rule are such marks -/
theorem begL_of {S : List Nat} (h : ∀ c r, S = c :: r → isL c = false) : begL S = false := by
  cases S with
  | nil => rfl
  | cons c r => exact h c r rfl
theorem st_join {pre : Sg} {q : List Nat × List Nat} (h1 : ∀ c ∈ q.1, isL c = false) (h4 : pre.isEmpty = true ∨ q.1 ≠ []) : st1 0 (joinS pre [] ++ q.1) = 0 := by
  rw [st_app]
  by_cases h : q.1 = []
  · rcases h4 with h4 | h4
    · cases pre with
      | nil => rw [h]; rfl
      | cons a b => simp at h4
    · exact absurd h h4
  · exact st_non _ _ h h1
theorem good_word {t : List Nat} {r : Rule} {f : Flt} (hr : r.ok = true) (hb : r ≠ .blanks) (hf : f ∈ perWord t r) : Good t f := by
  obtain ⟨sg, last, hw, rfl⟩ := seg_ex isL t.length t (Nat.le_refl _)
  rw [perWord_join hb hw] at hf
  obtain ⟨pre, q, b, rfl, hm⟩ := fs_mem hf
  obtain ⟨a1, a2, a3, a4, a5, a6⟩ := WF_at hw
  have e1 : joinS (pre ++ q :: b) last = (joinS pre [] ++ q.1) ++ (q.2 ++ joinS b last) := by rw [join_at, List.append_assoc]
  have hs := st_join a1 a4
  have hS := begL_of (head_not a5)
  have l1 : (joinS pre [] ++ q.1).length = lenS pre + q.1.length := by simp [lenS]
  cases r with
  | long n =>
    simp only [atS] at hm
    split at hm
    · simp only [List.mem_singleton, Nat.zero_add] at hm
      subst hm
      exact .none _ _ _ e1 l1 (by rw [l1]) rfl a3
    · simp at hm
  | word x y =>
    simp only [Rule.ok, Bool.and_eq_true, decide_eq_true_eq] at hr
    simp only [atS] at hm
    split at hm
    · simp only [List.mem_singleton, Nat.zero_add] at hm
      subst hm
      exact .word _ _ _ y e1 l1 (by rw [l1]) rfl hs a3 a2 hS hr.1.2 (fun c hc => sm_isL (List.all_eq_true.mp hr.2 c hc))
    · simp at hm
  | great =>
    simp only [atS] at hm
    split at hm
    · rename_i hc
      simp only [List.mem_singleton, Nat.zero_add] at hm
      subst hm
      obtain ⟨c, w, hq⟩ := List.exists_cons_of_ne_nil a3
      refine .great (joinS pre [] ++ q.1) (w ++ joinS b last) c (up1 (q.2.headD 0)) (by rw [e1, hq]; simp) l1 (by rw [l1]) rfl hs (a2 c (by rw [hq]; simp)) (up_sm hc.2).2
    · simp at hm
  | twice =>
    cases hp : prevOf none pre with
    | none => rw [hp] at hm; simp [atS] at hm
    | some u =>
      rw [hp] at hm
      simp only [atS] at hm
      split at hm
      · simp only [List.mem_singleton, Nat.zero_add] at hm
        subst hm
        have hne := prevOf_none hp
        have hg : q.1 ≠ [] := a4.resolve_left fun z => hne (by cases pre <;> simp_all)
        exact .twice (joinS pre []) q.1 q.2 (joinS b last) (by rw [join_at]; simp) rfl (by simp [lenS]; omega) rfl hg a1 a2 hS
      · simp at hm
  | blanks => exact absurd rfl hb
  | sign c => simp [atS] at hm
theorem good_faults {t : List Nat} {r : Rule} {f : Flt} (hr : r.ok = true) (hf : f ∈ faults t r) : Good t f := by
  cases r with
  | blanks =>
    have hf' : f ∈ blanks t := hf
    obtain ⟨sg, last, hw, rfl⟩ := seg_ex isBk t.length t (Nat.le_refl _)
    rw [blanks_sg hw] at hf'
    obtain ⟨pre, q, b, rfl, hl, rfl⟩ := fb_mem hf'
    obtain ⟨a1, a2, a3, a4, a5, a6⟩ := WF_at hw
    obtain ⟨c, w, hq⟩ := List.exists_cons_of_ne_nil a3
    rw [hq] at hl
    refine .del (joinS pre [] ++ q.1 ++ [c]) w (joinS b last) (by rw [join_at, hq]; simp) (by simp [lenS]; omega) (by simp [lenS, hq]; omega) rfl (fun z => by subst z; simp at hl) (fun x hx => ?_)
    have := a2 x (by rw [hq]; simp [hx])
    simp only [decide_eq_true_eq, List.mem_singleton] at this
    subst this
    decide
  | sign c =>
    have hf' : f ∈ signs t c := hf
    unfold signs at hf'
    obtain ⟨k, hk, rfl⟩ := List.mem_map.mp hf'
    simp only [List.mem_filter, List.mem_range, decide_eq_true_eq] at hk
    obtain ⟨hl, hc⟩ := hk
    have e : t = t.take k ++ ([c] ++ t.drop (k + 1)) := by
      rw [List.getElem?_eq_getElem hl] at hc
      injection hc with hc
      rw [← hc, List.singleton_append, ← List.drop_eq_getElem_cons hl, List.take_append_drop]
    refine .del (t.take k) [c] (t.drop (k + 1)) e (by simp; omega) (by simp; omega) rfl (by simp) (fun x hx => ?_)
    simp only [List.mem_singleton] at hx
    subst hx
    simp only [Rule.ok, signC, isSm, isGr, Bool.and_eq_true, decide_eq_true_eq, Bool.not_eq_true', Bool.and_eq_false_iff, decide_eq_false_iff_not] at hr
    unfold isL
    simp only [decide_eq_false_iff_not, tLetters, List.mem_cons, List.not_mem_nil, or_false]
    omega
  | twice => exact good_word hr (by simp) hf
  | great => exact good_word hr (by simp) hf
  | long n => exact good_word hr (by simp) hf
  | word x y => exact good_word hr (by simp) hf
end FM

set_option Elab.async false
set_option linter.all false
set_option maxRecDepth 100000
/-! FM17: exceptions: raise, defs that raise, try .. except X as e: return word(e). -/
namespace FM
open PySem PySem.Spec PyProof.Rows L2
/-- a wish by the class's number -/
def wN (C : Cls4) (w : WX) : Wx := fun c σ H => w (.ref (C.at_ c)) none σ H
/-- the bases of ValueError -/
abbrev veB : List Value := [.type "Exception", .type "BaseException", .type "object"]
structure ExcAt (K : PySem.W.Frag) (mg : Str → Option Value) (C : Cls4) (n : Nat) (x : Str) : Prop where
  q : PySem.W.excIn K (C.at_ n) (.type "ValueError" :: veB) "ValueError.__new__" = true
  g : mg x = some (.ref (C.at_ n))
  k : PySem.W.keepIn K (.ref (C.at_ n)) = true
  s : PySem.W.subIn K (.ref (C.at_ n)) (.type "BaseException") = some true
  t : PySem.W.typeIn K (.ref (C.at_ n)) = some (.type "type")
def excS (n : Nat) : En → Res Fl := fun _ => .exc n
section
variable {X : Cx} {w : WX} {C : Cls4} {x : Str}
theorem pds_raise (n : Nat) {m : Str} {j : Nat} {p p2 pos pos' : Pos} (hc : X.calm = true) (tk : Takes X w) (E : ExcAt X.K X.mg C n x) (hg : Gl X x := by rfl) (hdb : (x == ("__debug__" : Str)) = false := by decide) :
    PS X (.Raise (some (.Call (.Name x p) [.Constant (.str m) j p2] [] pos)) none pos') (tS X.K (wN C w) (excS n)) :=
  PS.weak (ps_raise hc tk (pmk_own PySem.F.excBase_ValueError E.q E.g E.k (raises_own E.s E.t) hg hdb)) fun Z σ H ⟨G, e, he, hf⟩ => hf σ H he.same
end
/-! ### defs that may raise -/
def runX (m : Nat) (B : En → Res Fl) (ds : List D) : Res D := match B (initE m ds) with
  | .ok (.rt d) => .ok d
  | .ok (.nx _) => .ok .non
  | .exc c => .exc c
  | _ => .bad
def fnX {α : Type} (n : Nat) (g : List D → Res α) (f : En → Res (List D)) : En → Res α := fun e => rb (f e) fun ds => if ds.length = n then g ds else .bad
@[simp] theorem fnX_ap {α : Type} {n : Nat} {g : List D → Res α} {f : En → Res (List D)} {e : En} : fnX n g f e = rb (f e) fun ds => if ds.length = n then g ds else .bad := rfl
section
variable {P : Program} {w : World} {K : PySem.W.Frag} {mg : Str → Option Value} {base : Heap}
theorem fnX_body {C : Cls4} {n : Nat} {N : List Str} {H : Hp} {vs : List V} {Q : VK} {E : XK} {B : En → Res Fl} (h : spD K C n (runX N.length B) vs H Q E) : tS K (wN C fun cls d _ H => E cls d H) B { nx := fun _ H' => Q .non H', rt := Q } (start N vs) H := by
  obtain ⟨tb, ds, hn, r, hf⟩ := h
  refine ⟨H, _, start_ok tb r, ?_⟩
  unfold runX at hf
  cases h1 : B (initE N.length ds) with
  | bad => rw [h1] at hf; exact hf
  | exc c => rw [h1] at hf; exact fun σ' H' s => hf H' s
  | ok fl =>
    rw [h1] at hf
    cases fl with
    | nx e => exact fun σ' H' he => hf .non H' he.same rfl
    | rt d => exact hf
    | rl xs => exact hf.elim
    | rp xs => exact hf.elim
/-- a def that may raise -/
def FnBX (P : Program) (w : World) (K : PySem.W.Frag) (mg : Str → Option Value) (base : Heap) (k : Nat) (x : Str) (ps : List Str) (sp : Sp) : Prop :=
  ∃ f fd, FnOk P w K mg base (L2.CX P w) k f fd ps sp ∧ mg x = some (.ref f) ∧ PySem.W.keepIn K (.ref f) = true ∧ Binds K fd ps []
theorem FnBX.mono {j k : Nat} {x : Str} {ps : List Str} {sp : Sp} (h : FnBX P w K mg base j x ps sp) (hj : j ≤ k) : FnBX P w K mg base k x ps sp :=
  let ⟨f, fd, h1, h2⟩ := h; ⟨f, fd, h1.mono hj, h2⟩
theorem fn_dataX {x qual : Str} {st : Stmt} {f : Addr} {fd : FuncData} {N ps : List Str} {k : Nat} {B : En → Res Fl} (C : Cls4) (F : Fun K x qual st f fd) (S : FnScope N ps (defScope st))
    (hbody : ∀ (cdv : Value) (A : Around) (outer : List Env) (s : Shared) (H : Hp) (E : XK), Room k (A.deeper (envOfC qual (defScope st) s.heap.objs.size f cdv)) →
      PSs (cxOf (L2.CX P w) P w K mg base N qual (defScope st) f cdv A outer s H E) (defBody st) (tS K (wN C fun cls d _ H => E cls d H) B))
    (hm : mg x = some (.ref f)) (hb : Binds K fd ps []) {n m : Nat} {g : List D → Res D} (hg : g = runX m B) (hn : ps.length = n) (hN : N.length = m) : FnBX P w K mg base (k + 1) x ps (spD K C n g) := by
  subst hg hn hN
  exact ⟨f, fd, F.okX S spD.len fun cdv A outer s H vs Q E hr h => ⟨_, hbody cdv A outer s H E hr, fnX_body h⟩, hm, F.kp, hb⟩
end
section
variable {X : Cx} {W : Wx} {w : WX} {k n : Nat} {x : Str} {ps : List Str} {C : Cls4} {p pos : Pos} {e : Expr} {es : List Expr} {fa : En → Res (List D)} {g : List D → Res D}
theorem tD_fnX {K : PySem.W.Frag} {g : List D → Res D} {f : En → Res (List D)} : ∀ σ H Q, tD K (wN C w) (fnX n g f) σ H Q → tCallS (spD K C n g) (WE w) (tDs K (wN C w) f) σ H Q := by
  rintro σ H Q ⟨e, he, hf⟩
  refine ⟨e, he, ?_⟩
  unfold fnX at hf
  cases h1 : f e with
  | bad => rw [h1] at hf; exact hf
  | exc c => rw [h1] at hf; exact hf
  | ok ds =>
    rw [h1, rb_ok] at hf
    intro vs H1 s1 r1
    by_cases hn : ds.length = n
    · rw [if_pos hn] at hf
      refine ⟨he.tab.mono s1, ds, hn, r1, ?_⟩
      cases h3 : g ds with
      | bad => rw [h3] at hf; exact hf.elim
      | exc c => rw [h3] at hf; exact fun H' q => hf H' (s1.trans q)
      | ok z => rw [h3] at hf; exact fun v3 H3 s3 r3 => hf v3 H3 (s1.trans s3) r3
    · rw [if_neg hn] at hf; exact hf.elim
/-- a call that may raise, where that is taken -/
theorem pd_fnX (tk : Takes X w) (F : FnBX X.prog X.w X.K X.mg X.base k x ps (spD X.K C n g)) (hr : Room k X.A) (ha : PA X (e :: es) (tDs X.K (wN C w) fa)) (hg : Gl X x := by rfl) (hdb : (x == ("__debug__" : Str)) = false := by decide)
    (he : starEach (e :: es) X.env = (false, eval e X.env) :: starEach es X.env := by rfl) (hpl : (backTo pos (starEach es X.env)).any (·.1) = false := by rfl) : PE X (.Call (.Name x p) (e :: es) [] pos) (tD X.K (wN C w) (fnX n g fa)) := by
  obtain ⟨f, fd, h1, h2, h3, h4⟩ := F
  exact PE.weak (pe_callS h1 hr hg h2 h3 h4 (fun σ => passAt tk σ) ha hdb he hpl) tD_fnX
/-- a call of such a def that does not raise -/
theorem pd_fnQ (F : FnBX X.prog X.w X.K X.mg X.base k x ps (spD X.K C n g)) (hr : Room k X.A) (ha : PA X (e :: es) (tDs X.K W fa)) (hg : Gl X x := by rfl) (hdb : (x == ("__debug__" : Str)) = false := by decide)
    (he : starEach (e :: es) X.env = (false, eval e X.env) :: starEach es X.env := by rfl) (hpl : (backTo pos (starEach es X.env)).any (·.1) = false := by rfl) : PE X (.Call (.Name x p) (e :: es) [] pos) (tD X.K W (fnF n g fa)) := by
  obtain ⟨f, fd, h1, h2, h3, h4⟩ := F
  exact PE.weak (pe_call h1 hr hg h2 h3 h4 .nil passL ha hdb he hpl) tD_fn
/-- an expression as a statement -/
def exprS (f : En → Res D) : En → Res Fl := fun e => rb (f e) fun _ => .ok (.nx e)
@[simp] theorem exprS_ap {f : En → Res D} {e : En} : exprS f e = rb (f e) fun _ => .ok (.nx e) := rfl
theorem pds_expr {f : En → Res D} {ex : Expr} (he : PE X ex (tD X.K W f)) (hs : swapsWith ex none pos.line X.env = pure false := by rfl) : PS X (.Expr ex pos) (tS X.K W (exprS f)) :=
  PS.weak (ps_expr he hs) fun Z σ H ⟨G, e, he, hf⟩ => st_expr he hf fun d v H' _ s r hk => hk σ H' (he.keep s)
end
/-! ### try -/
def tryS (B : En → Res Fl) (h : Nat → Option D) : En → Res Fl := fun e => match B e with
  | .exc c => rb (ofO (h c)) fun d => .ok (.rt d)
  | r => r
theorem FinS.anyW {K : PySem.W.Frag} {W W' : Wx} {G : Hp} {Z : Ends} : ∀ {fl : Fl}, FinS K W G Z (.ok fl) → FinS K W' G Z (.ok fl)
  | .nx _, h => h
  | .rt _, h => h
  | .rl _, h => h
  | .rp _, h => h
/-- the reading of the suite: the error of the class number c stands in the slot i; it returns what h tells -/
def tsW (K : PySem.W.Frag) (C : Cls4) (i : Nat) (h : Nat → Option D) (a : Addr) (cls : Value) (d : Option Addr) : TS := fun Z σ H =>
  ∃ (c : Nat) (d0 : D) (σ0 : L2.St), cls = .ref (C.at_ c) ∧ d = none ∧ h c = some d0 ∧ σ = σ0.set i (some (.ref a)) ∧ ∀ v H', Same H H' → Rp K H' d0 v → Z.rt v H'
theorem pds_try {X : Cx} {W : Wx} {C : Cls4} {x n : Str} {cf : Addr} {i : Nat} {body suite : List Stmt} {b₀ : Stmt} {np pos pos' : Pos} {B : En → Res Fl} {h : Nat → Option D} (hs : X.stack = X.env :: X.outer) (hf : X.env.frame = some X.env.locals) (hN : X.N.Nodup) (hi : X.N[i]? = some n) (hln : X.env.kindOf n = some .local)
    (hc : Names X x (.ref cf)) (hex : ∀ c d, h c = some d → PySem.W.exmOne X.K (.ref (C.at_ c)) (.ref cf) = some true)
    (hb : ∀ (w : WX) (pn : List (Addr × Obj)) (xe : Value → Shared → Prop), Takes (X.tr pn xe) w → PassesOwn (model X.prog X.w) X.A X.env xe → PSs (X.tr pn xe) body (tS X.K (wN C w) B))
    (hsu : ∀ (a : Addr) (oe : Obj) (cls : Value) (d : Option Addr) (pn : List (Addr × Obj)), Zc cls d oe → (∃ vs, oe.data = .fields vs) → PSs (X.suite a ((a, oe) :: pn)) (b₀ :: suite) (tsW X.K C i h a cls d)) :
    PS X (.Try body [.ExceptHandler (some (.Name x np)) (some n) (b₀ :: suite) pos'] [] [] pos) (tS X.K W (tryS B h)) := by
  refine PS.weak (ps_try_as (i := i) (tb := fun w => tS X.K (wN C w) B) (ts := tsW X.K C i h) (Wout := fun _ _ _ _ => False) hs hf hN hi hln hc takes0 hb hsu) ?_
  rintro Z σ H ⟨G, e, he, hf⟩
  refine ⟨G, e, he, ?_⟩
  unfold tryS at hf
  cases h1 : B e with
  | bad => rw [h1] at hf; exact hf
  | ok fl => rw [h1] at hf; exact hf.anyW
  | exc c =>
    rw [h1] at hf
    simp only at hf
    cases h2 : h c with
    | none => rw [h2] at hf; exact hf.elim
    | some d0 =>
      rw [h2] at hf
      intro σ' H' s
      exact ⟨true, hex c d0 h2, fun _ a _ => ⟨c, d0, σ', rfl, rfl, h2, rfl, fun v H2 s2 r2 => hf v H2 (s.trans s2) r2⟩, fun z => by cases z⟩
end FM

set_option Elab.async false
set_option linter.all false
set_option maxRecDepth 100000
/-! FM18: the word of a caught error (_law_word), called from the suite. -/
namespace FM
open PySem PySem.Spec PyProof.Rows L2
def wordOf : Nat → Option D
  | 0 => some (.str wNoSpot)
  | 1 => some (.str wNoMark)
  | 2 => some (.str wNoMend)
  | 3 => some (.str wNoStep)
  | _ => none
/-- what the written part says of the four classes -/
structure Cls (K : PySem.W.Frag) (mg : Str → Option Value) (C : Cls4) (cf : Addr) : Prop where
  g0 : mg "NoSpot" = some (.ref (C.at_ 0))
  g1 : mg "NoMark" = some (.ref (C.at_ 1))
  g2 : mg "NoMend" = some (.ref (C.at_ 2))
  g3 : mg "NoStep" = some (.ref (C.at_ 3))
  gf : mg "FaultError" = some (.ref cf)
  ex : ∀ c, c < 4 → ExcC K (C.at_ c)
  is : ∀ c j, c < 4 → j < 4 → PySem.W.kitOne K (.ref (C.at_ c)) (.ref (C.at_ j)) = some (decide (c = j))
  ve : ∀ c, c < 4 → PySem.W.kitOne K (.ref (C.at_ c)) (.type "ValueError") = some true
  fe : ∀ c, c < 4 → PySem.W.exmOne K (.ref (C.at_ c)) (.ref cf) = some true
/-- .. and how they are made -/
structure ExcS (K : PySem.W.Frag) (mg : Str → Option Value) (C : Cls4) : Prop where
  e0 : ExcAt K mg C 0 "NoSpot"
  e1 : ExcAt K mg C 1 "NoMark"
  e2 : ExcAt K mg C 2 "NoMend"
  e3 : ExcAt K mg C 3 "NoStep"
/-- where the classes stand -/
def cls4 (c0 c1 c2 c3 : Addr) : Cls4 := ⟨fun c => match c with | 0 => c0 | 1 => c1 | 2 => c2 | _ => c3⟩
section
variable {X : Cx} {a d : Addr} {oe : Obj}
theorem call_isP (hp : (a, oe) ∈ X.pn) (C : ExcC X.K d) (hz : Zc (.ref d) none oe) (hf : ∃ vs, oe.data = .fields vs) : CallR X (.builtin "isinstance") (rIsE X.K d a) := by
  intro pins s σ H xs us Q I r h
  obtain ⟨c, cv, b, rfl, hcv, e, q⟩ := h
  cases r with
  | cons rx rr =>
    cases rr with
    | cons rt rr =>
      cases rr
      cases rx
      have ec := hcv _ rt
      subst ec
      obtain ⟨hg, _⟩ := I.pin (a, oe) (List.mem_append_left _ hp)
      obtain ⟨vs, hv⟩ := hf
      have J : PySem.W.InstAt s.heap a oe d none := by
        obtain ⟨o1, o2, o3, o4⟩ := oe
        obtain ⟨h1, h2⟩ := hz
        dsimp only at h1 h2 hv
        subst h1 h2 hv
        exact ⟨hg, rfl, rfl, trivial⟩
      exact PySem.W.kia_one (PySem.W.handS_kitx_exc C.hg C.hk C.hs C.hd C.ha C.hn C.ht C.hm) I.kIn J e (fun z => nomatch z) fun tk => ⟨.bl b, H, I.kept (t' := tk) fun _ _ z => z, rfl, q⟩
def tIsE (a : Addr) (b : Bool) : TE := fun σ H Q => σ[0]? = some (some (.ref a)) ∧ Q (.bl b) H
theorem pe_isG {c : Addr} {b : Bool} {y : Str} {p p1 p2 pos : Pos} (hp : (a, oe) ∈ X.pn) (C : ExcC X.K d) (hz : Zc (.ref d) none oe) (hf : ∃ vs, oe.data = .fields vs) (hm : X.mg "isinstance" = none) (hy : X.mg y = some (.ref c)) (hk : PySem.W.kitOne X.K (.ref d) (.ref c) = some b)
    (hN : X.N[0]? = some ("kept" : Str)) (hv : Vis X.env.scope "kept") (hg : Gl X "isinstance") (hg2 : Gl X y) (hdb : (y == ("__debug__" : Str)) = false)
    (he : starEach [.Name "kept" p1, .Name y p2] X.env = (false, eval (.Name "kept" p1) X.env) :: starEach [.Name y p2] X.env := by rfl) (he2 : starEach [.Name y p2] X.env = (false, eval (.Name y p2) X.env) :: starEach [] X.env := by rfl)
    (hpl : (backTo pos (starEach [.Name y p2] X.env)).any (·.1) = false := by rfl) : PE X (.Call (.Name "isinstance" p) [.Name "kept" p1, .Name y p2] [] pos) (tIsE a b) := by
  have h1 : PE X (.Name "kept" p1) (tVar 0) := pe_var hN hv (by decide) (by decide)
  have h2 : PE X (.Name y p2) (tC (.ref c)) := pe_glob hg2 hy rfl hdb
  refine PE.weak (pe_callB (call_isP hp C hz hf) hg hm PyProof.Rows.boot_isinstance (pa_cons h1 (pa_cons h2 pa_nil he2) he) (by decide) (by decide) he hpl) ?_
  rintro σ H Q ⟨h3, q⟩
  exact ⟨_, h3, .ref c, .ref c, b, rfl, fun u r => r, hk, q⟩
theorem pe_isT {T : String} {b : Bool} {y : Str} {p p1 p2 pos : Pos} (hp : (a, oe) ∈ X.pn) (C : ExcC X.K d) (hz : Zc (.ref d) none oe) (hf : ∃ vs, oe.data = .fields vs) (hm : X.mg "isinstance" = none) (hy : X.mg y = none) (hb : bootBuiltins y = some (.type T)) (hk : PySem.W.kitOne X.K (.ref d) (.type T) = some b)
    (hN : X.N[0]? = some ("kept" : Str)) (hv : Vis X.env.scope "kept") (hg : Gl X "isinstance") (hg2 : Gl X y) (hn : y ≠ "__name__") (hdb : (y == ("__debug__" : Str)) = false)
    (he : starEach [.Name "kept" p1, .Name y p2] X.env = (false, eval (.Name "kept" p1) X.env) :: starEach [.Name y p2] X.env := by rfl) (he2 : starEach [.Name y p2] X.env = (false, eval (.Name y p2) X.env) :: starEach [] X.env := by rfl)
    (hpl : (backTo pos (starEach [.Name y p2] X.env)).any (·.1) = false := by rfl) : PE X (.Call (.Name "isinstance" p) [.Name "kept" p1, .Name y p2] [] pos) (tIsE a b) := by
  have h1 : PE X (.Name "kept" p1) (tVar 0) := pe_var hN hv (by decide) (by decide)
  have h2 : PE X (.Name y p2) (tC (.ty T)) := pe_bltn hg2 hy hb rfl hn hdb
  refine PE.weak (pe_callB (call_isP hp C hz hf) hg hm PyProof.Rows.boot_isinstance (pa_cons h1 (pa_cons h2 pa_nil he2) he) (by decide) (by decide) he hpl) ?_
  rintro σ H Q ⟨h3, q⟩
  exact ⟨_, h3, .ty T, .type T, b, rfl, fun u r => r, hk, q⟩
/-! ### count of truths -/
def isTr (v : Value) : Bool := match v with
  | .bool b => b
  | _ => false
theorem isTr_at {A : Around} {s : Shared} : ∀ {us : List Value} {bs : List Bool}, Vals (bs.map V.bl) us → ∀ y ∈ us, SeqAt.EqAt A s y (.bool true) (isTr y)
  | [], _, _ => fun y hy => by cases hy
  | u :: us, [], h => by cases h
  | u :: us, b :: bs, .cons r t => fun y hy => by
    rcases List.mem_cons.mp hy with e | e
    · rw [e]
      have := eqAt_V (A := A) (s := s) (x := .bl true) (v := .bool true) r rfl rfl rfl
      cases r
      cases b <;> exact this
    · exact isTr_at t y e
theorem isTr_count : ∀ {us : List Value} {bs : List Bool}, Vals (bs.map V.bl) us → us.countP isTr = bs.count true
  | [], [], _ => rfl
  | [], _ :: _, h => by cases h
  | u :: us, [], h => by cases h
  | u :: us, b :: bs, .cons r t => by
    cases r
    rw [List.countP_cons, List.count_cons, isTr_count t]
    cases b <;> rfl
def rCntB (K : PySem.W.Frag) : V → List V → Hp → VK → Prop := fun x xs H Q => ∃ (p : Addr) (bs : List Bool), x = .ref p ∧ xs = [.bl true] ∧ SqL K H p (bs.map V.bl) ∧ Q (.int (bs.count true : Nat)) H
theorem mt_cntB : MtR X "list.count" (rCntB X.K) := by
  intro pins s σ H x xs v us Q I rx rxs h
  obtain ⟨p, bs, rfl, rfl, hs, q⟩ := h
  cases rx
  obtain ⟨u, rfl, ru⟩ := rxs.one
  cases ru
  obtain ⟨its, rv, ⟨⟨cls, dd, data, sl⟩, n, ho, hc, hdn, hd⟩, hlen⟩ := I.list hs
  simp only at hc hd
  subst hc hd
  refine call_meets PySem.F.slot_list_count ⟨_, ho, rfl⟩ PySem.F.entry_list_count (PySem.F.args_list_count_2 _ _) (SeqAt.list_countAt p its.toArray n dd sl (.bool true) isTr) ⟨ho, fun y hy => isTr_at rv y (by simpa using hy), ?_⟩
  have ec : its.toArray.toList.countP isTr = bs.count true := isTr_count rv
  rw [ec]
  exact ⟨.int _, H, I.tok _, ⟨_, rfl⟩, q⟩
end
/-! ### a def that is called from an except suite, with the error that is handled -/
/-- the promise: called with the error at p.1, of the class D, it gives the text t -/
structure FnE (P : Program) (w : World) (K : PySem.W.Frag) (mg : Str → Option Value) (base : Heap) (k : Nat) (f : Addr) (fd : FuncData) (ps : List Str) (D : Addr) (t : List Nat) : Prop where
  run : ∀ (A : Around) (outer : List Env) (s : Shared) (H : Hp) (args : Args) (Q : VK) (p : Addr × Obj), L2H.RoomH k A → L2H.PinOk outer H s p → Zc (.ref D) none p.2 → (∃ vs, p.2.data = .fields vs) → Env0 P w K mg base A outer s H →
    BindsTo s fd args (ps.zip [.ref p.1]) → (∀ H', Same H H' → Q (.str (S t)) H') → codeAny (model P w) A (.call (.ref f) args) (CR CX0 outer P w H s Q E0) s
section
variable {P : Program} {w : World} {K : PySem.W.Frag} {mg : Str → Option Value} {base : Heap}
theorem fn_E {k : Nat} {f : Addr} {x qual : Str} {st : Stmt} {fd : FuncData} {N ps : List Str} {D : Addr} {t : List Nat} (F : Fun K x qual st f fd) (S : FnScope N ps (defScope st)) (h1 : ps.length = 1)
    (hbody : ∀ (cdv : Value) (A : Around) (outer : List Env) (s : Shared) (H : Hp) (Q : VK) (p : Addr × Obj), Zc (.ref D) none p.2 → (∃ vs, p.2.data = .fields vs) → (∀ H', Same H H' → Q (.str (FM.S t)) H') →
      ∃ r, PSs (L2H.cxH CX0 P w K mg base N qual (defScope st) f cdv A outer s H E0 p) (defBody st) r ∧ r { nx := fun _ H' => Q .non H', rt := Q } (L2.start N [.ref p.1]) H) : FnE P w K mg base (k + 1) f fd ps D t := by
  obtain ⟨oc, od, kV, doc, pm, an, cdv, ct, osl, rfl, lk, hcd⟩ := F.ex
  refine ⟨fun A outer s H args Q p hr hpin hz hf e0 hb hq => ?_⟩
  have kx : K.In s.heap := e0.mod.kin.keeps fun b o e => (e0.bs b o e).1
  have nl : s.heap.NoLimit := e0.mod.nolimit.keeps fun b o e => (e0.bs b o e).1
  have kd : ∀ y ∈ ps.zip [Value.ref p.1], (defScope st).names.lookup y.1 = some .local ∨ ((defScope st).names.lookup y.1 = some .cell ∧ ((cellsFrom (s.heap.objs.size + 1) (defScope st).names []).lookup y.1).isSome = true) := fun ⟨n, v⟩ hy => by
    rcases S.par n (List.of_mem_zip hy).1 with q | q
    · exact .inl q
    · exact .inr ⟨q, PySem.W.cellsFrom_some _ _ _ (.inl q)⟩
  refine codeAny_call_function hr.depth (kx _ _ lk) rfl S.co S.gen rfl (PySem.W.codeRec_of kx hcd) (hb _ _ _ _ ?_)
  refine wpAny_newFunctionEnv_cells S.kind kd fun env he s1 z => ?_
  subst he
  refine ⟨nl.keeps z.toInCall.keep, codeAny_func ?_⟩
  obtain ⟨r, ht, hrr⟩ := hbody cdv A outer s H Q p hz hf hq
  have I := L2H.inv_startH (CX := CX0) (E := E0) (N := N) (vs := [V.ref p.1]) S hpin e0 (by rw [h1]; rfl) (us := [.ref p.1]) (by exact .cons rfl .nil) z
  refine wpAny_mono (ht.run [] s1 (L2.start N [.ref p.1]) H _ I hrr) (fun fl s' hs => ?_) fun e s' hs => hs
  have done : ∀ {σ' : L2.St} {H' : Hp} {v : V} {u : Value}, Inv (L2H.cxH CX0 P w K mg base N qual (defScope st) f cdv A outer s H E0 p) [] σ' H' s' → RelV v u → Q v H' → CE outer P w H s Q u s' :=
    fun {σ' H' v u} J rv q => ⟨v, H', J.os, J.bare, J.base, J.hok, rv, q⟩
  cases fl with
  | ret u =>
    obtain ⟨v, σ', H', J, rv, q⟩ := hs
    exact done J rv q
  | next =>
    obtain ⟨σ', H', J, q⟩ := hs
    exact done (v := V.non) (u := Value.none) J rfl q
  | brk =>
    obtain ⟨_, _, _, q⟩ := hs
    exact q.elim
  | cont =>
    obtain ⟨_, _, _, q⟩ := hs
    exact q.elim
end
/-- the def, known for all four classes -/
structure WordB (P : Program) (w : World) (K : PySem.W.Frag) (mg : Str → Option Value) (base : Heap) (C : Cls4) (x : Str) (ps : List Str) : Prop where
  ex : ∃ f fd, (∀ c t, wordOf c = some (.str t) → FnE P w K mg base 1 f fd ps (C.at_ c) t) ∧ mg x = some (.ref f) ∧ PySem.W.keepIn K (.ref f) = true ∧ Binds K fd ps []
/-- word(e), in the suite -/
theorem pe_word {X : Cx} {C : Cls4} {k i : Nat} {x y : Str} {ps : List Str} {a : Addr} {oe : Obj} {cls : Value} {d : Option Addr} {pn : List (Addr × Obj)} {p p1 pos : Pos} (F : WordB X.prog X.w X.K X.mg X.base C x ps) (hr : Room (k + 1) X.A) (hz : Zc cls d oe) (hf : ∃ vs, oe.data = .fields vs)
    (hps : ps.length = 1) (hN : X.N[i]? = some y) (hv : Vis X.env.scope y) (hg : Gl X x) (hdb : (x == ("__debug__" : Str)) = false) (hy1 : (y == ("__debug__" : Str)) = false) (hy2 : (y == ("__classdict__" : Str)) = false)
    (he : starEach [.Name y p1] X.env = (false, eval (.Name y p1) X.env) :: starEach [] X.env := by rfl) (hpl : (backTo pos (starEach [] X.env)).any (·.1) = false := by rfl) :
    PE (X.suite a ((a, oe) :: pn)) (.Call (.Name x p) [.Name y p1] [] pos) (fun σ H Q => ∃ (c : Nat) (d0 : D) (σ0 : L2.St), cls = .ref (C.at_ c) ∧ d = none ∧ wordOf c = some d0 ∧ σ = σ0.set i (some (.ref a)) ∧ ∀ v H', Same H H' → Rp X.K H' d0 v → Q v H') := by
  obtain ⟨f, fd, hF, hm, hk, hb⟩ := F.ex
  refine ⟨fun pins s σ H Q I h => ?_⟩
  obtain ⟨c, d0, σ0, rfl, rfl, hw, rfl, q⟩ := h
  have hlen : σ0.length = X.N.length := by have := I.len; simpa using this
  have hi : i < σ0.length := by rw [hlen]; exact (List.getElem?_eq_some_iff.mp hN).1
  have hv1 : PE (X.suite a ((a, oe) :: pn)) (.Name y p1) (tVar i) := pe_var hN hv hy1 hy2
  have ha : PA (X.suite a ((a, oe) :: pn)) [.Name y p1] (tCons (tVar i) tNil) := pa_cons hv1 pa_nil he
  obtain ⟨t, rfl⟩ : ∃ t, d0 = .str t := by
    unfold wordOf at hw
    split at hw <;> first | (cases hw; exact ⟨_, rfl⟩) | cases hw
  refine wpAny_Call_Name_kw (ld_glob I hg hm ?_ hdb)
  refine PySem.W.callWith_K (h₀ := X.base) I.ok.mod.kin hk (thn (ha.run pos pins s _ H (fun vs H1 => vs = [.ref a] ∧ H1 = H) I ⟨_, List.getElem?_set_self hi, rfl, rfl⟩) fun us s1 ⟨vs, H1, I1, r, e1, e2⟩ => ⟨I1.kIn, ?_⟩) he hpl
  subst e1 e2
  cases r with
  | cons ru rn =>
    cases ru
    cases rn
    have pin := I1.pin (a, oe) (List.mem_append_left _ List.mem_cons_self)
    have hpin : L2H.PinOk X.stack H1 s1 (a, oe) := ⟨pin.1, pin.2.1, fun hm => (List.mem_cons.mp (I1.stkSub a hm)).elim pin.2.2.1 pin.2.2.2.1, pin.2.2.2.2⟩
    have b := hb s1 [.ref a] I1.kIn (by rw [List.append_nil]; exact hps.symm)
    rw [List.append_nil] at b
    have room : L2H.RoomH 1 (X.A.mark (some (.ref a))) := ⟨by have := hr.dp; show X.A.depth + 3 * 1 + 5 < _; omega, by have := hr.un; show X.A.units + 16 * 1 + 200 < _; omega⟩
    refine wpAny_call (codeAny_mono ((hF c t hw).run (X.A.mark (some (.ref a))) X.stack s1 H1 ⟨[.ref a], []⟩ Q (a, oe) room hpin hz hf I1.env0 b (fun H' s' => q _ H' s' rfl)) fun r s' hq => ?_)
    cases r with
    | error e => exact hq.elim
    | ok fl =>
      cases fl with
      | ret u => exact I1.after hq
      | next => exact False.elim hq
      | brk => exact False.elim hq
      | cont => exact False.elim hq
end FM

set_option Elab.async false
set_option linter.all false
set_option maxRecDepth 100000
/-! FM19: what _law_word's body reads. -/
namespace FM
open PySem PySem.Spec PyProof.Rows L2
def tWd (K : PySem.W.Frag) (a : Addr) (c : Nat) : TS :=
  tSeq (tAsg (tLst (tCons (tIsE a (decide (c = 0))) (tCons (tIsE a (decide (c = 1))) tNil))) (gName 1))
  (tSeq (tAsg (tOp (rCatL K) (tVar 1) (tLst (tCons (tIsE a (decide (c = 2))) (tCons (tIsE a (decide (c = 3))) tNil)))) (gName 1))
  (tSeq (tIfS (tOr (tTest (tOp rNe (tBM K "list" (rCntB K) (tVar 1) (tCons (tC (.bl true)) tNil)) (tC (.int 1)))) (tNot (fun σ H Q => tIsE a true σ H fun x H' => ∃ k, TruV K x H' k ∧ Q k H'))) (tRet (tC (.str (S wWrong)))) tNext)
  (tRet (tOp (rIx K) (tTup (tCons (tC (.str (S wNoSpot))) (tCons (tC (.str (S wNoMark))) (tCons (tC (.str (S wNoMend))) (tCons (tC (.str (S wNoStep))) tNil)))))
    (tBM K "list" (rIndex K) (tVar 1) (tCons (tC (.bl true)) tNil))))))
theorem word_lt {c : Nat} {d : D} (h : wordOf c = some d) : c < 4 := by
  unfold wordOf at h
  split at h <;> first | omega | cases h
theorem sz {n : Nat} (h : n ≤ 1000000) : n ≤ sizeLine := by rw [sizeLine_eq]; omega
theorem iff0 {A B : Prop} (h : B) : if false = true then A else B := by rw [if_neg Bool.false_ne_true]; exact h
theorem word_pure {K : PySem.W.Frag} {a : Addr} {c : Nat} {t : List Nat} {H : Hp} {Q : VK} {nx : L2.St → Hp → Prop} (hc : wordOf c = some (.str t)) (hq : ∀ H', Same H H' → Q (.str (S t)) H') :
    tWd K a c { nx := nx, rt := Q } [some (.ref a), none] H := by
  have hlt := word_lt hc
  refine ⟨rfl, rfl, sz (by simp), fun p1 n1 => ?_⟩
  refine ⟨.ref p1, rfl, rfl, rfl, sz (by simp), fun p2 n2 => ?_⟩
  have q1 : upd (upd H p1 (.lst [.bl (decide (c = 0)), .bl (decide (c = 1))])) p2 (.lst [.bl (decide (c = 2)), .bl (decide (c = 3))]) p1 = some (.lst [.bl (decide (c = 0)), .bl (decide (c = 1))]) := by
    rw [upd_ne (ne_of_none upd_same n2)]; exact upd_same
  refine ⟨p1, p2, _, _, rfl, rfl, SqL.of q1, SqL.of upd_same, sz (by simp), fun p3 n3 => ?_⟩
  have s3 : Same H (upd (upd (upd H p1 (.lst [.bl (decide (c = 0)), .bl (decide (c = 1))])) p2 (.lst [.bl (decide (c = 2)), .bl (decide (c = 3))])) p3 (.lst ([V.bl (decide (c = 0)), .bl (decide (c = 1))] ++ [.bl (decide (c = 2)), .bl (decide (c = 3))]))) := ((same_new n1).trans (same_new n2)).trans (same_new n3)
  generalize hH3 : upd (upd (upd H p1 (.lst [.bl (decide (c = 0)), .bl (decide (c = 1))])) p2 (.lst [.bl (decide (c = 2)), .bl (decide (c = 3))])) p3 (.lst ([V.bl (decide (c = 0)), .bl (decide (c = 1))] ++ [.bl (decide (c = 2)), .bl (decide (c = 3))])) = H3 at s3 ⊢
  have q3 : H3 p3 = some (.lst ([decide (c = 0), decide (c = 1), decide (c = 2), decide (c = 3)].map V.bl)) := by rw [← hH3]; exact upd_same
  have cnt : [decide (c = 0), decide (c = 1), decide (c = 2), decide (c = 3)].count true = 1 := by
    have : c = 0 ∨ c = 1 ∨ c = 2 ∨ c = 3 := by omega
    rcases this with rfl | rfl | rfl | rfl <;> rfl
  refine ⟨.ref p3, rfl, Or.inl ⟨rfl, _, Or.inl (Or.inl q3)⟩, p3, _, rfl, rfl, SqL.of q3, ?_⟩
  rw [cnt]
  refine ⟨rfl, false, rfl, iff0 ⟨rfl, true, rfl, iff0 ⟨sz (by simp), fun p4 n4 => ?_⟩⟩⟩
  have q4 : upd H3 p4 (.tup [.str (S wNoSpot), .str (S wNoMark), .str (S wNoMend), .str (S wNoStep)]) p3 = some (.lst ([decide (c = 0), decide (c = 1), decide (c = 2), decide (c = 3)].map V.bl)) := by
    rw [upd_ne (ne_of_none q3 n4)]; exact q3
  have hS := s3.trans (same_new (o := .tup [.str (S wNoSpot), .str (S wNoMark), .str (S wNoMend), .str (S wNoStep)]) n4)
  refine ⟨.ref p3, rfl, Or.inl ⟨rfl, _, Or.inl (Or.inl q4)⟩, p3, _, .bl true, c, .bl true, rfl, rfl, SqL.of q4, rfl, ?_, ?_, rfl, ?_, ?_⟩
  · have : c = 0 ∨ c = 1 ∨ c = 2 ∨ c = 3 := by omega
    rcases this with rfl | rfl | rfl | rfl <;> rfl
  · have : c = 0 ∨ c = 1 ∨ c = 2 ∨ c = 3 := by omega
    rcases this with rfl | rfl | rfl | rfl <;> rfl
  · intro m z hm hz
    have : c = 0 ∨ c = 1 ∨ c = 2 ∨ c = 3 := by omega
    have hm3 : m = 0 ∨ m = 1 ∨ m = 2 := by omega
    rcases this with rfl | rfl | rfl | rfl <;> rcases hm3 with rfl | rfl | rfl <;> first | omega | (cases hz; rfl)
  · refine Or.inr (Or.inl ⟨p4, _, _, .str (S t), rfl, rfl, SqT.of upd_same, ?_, hq _ hS⟩)
    have : c = 0 ∨ c = 1 ∨ c = 2 ∨ c = 3 := by omega
    rcases this with rfl | rfl | rfl | rfl <;> (cases hc; rfl)
end FM

set_option Elab.async false
set_option linter.all false
set_option maxRecDepth 100000
namespace FM
open PySem PySem.Spec PyProof.Rows L2
/-- mended -/
noncomputable def B_mended : En → Res Fl := (seqS (ifS (tstF (bopF isO (bopF ixO (getE 1) (cD (.int 3))) (cD .non))) (excS 2) nilS)
  (retS (bopF addO (bopF addO (slF slO (getE 0) noP (soP (bopF ixO (getE 1) (cD (.int 0))))) (bopF ixO (getE 1) (cD (.int 3)))) (slF slO (getE 0) (soP (bopF ixO (getE 1) (cD (.int 1)))) noP))))
noncomputable def f_mended : List D → Res D := runX 2 B_mended
/-- at_once -/
noncomputable def B_at_once : En → Res Fl := (seqS (asgO 1 (lstF nilF))
  (seqS (asgS (.nm 2) (cD (.int 0)))
  (seqS (forS (lfG asTup (getE 0)) (.nm 3)
    (ifS (andF (tstF (bopF isnO (bopF ixO (getE 3) (cD (.int 3))) (cD .non))) (tstF (bopF geO (bopF ixO (getE 3) (cD (.int 0))) (getE 2)))) (seqS (appS 1 (getE 3))
  (asgS (.nm 2) (bopF ixO (getE 3) (cD (.int 1))))) nilS))
  (retS (callF tupleO (consF (getE 1) nilF))))))
noncomputable def f_at_once : List D → Res D := runD 4 B_at_once
/-- all_mended -/
noncomputable def B_all_mended : En → Res Fl := (seqS (forS (lfG asTup (uopF revO (fnF 1 f_at_once (consF (fnF 2 f_all_marks (consF (getE 0) (consF (getE 1) nilF))) nilF)))) (.nm 2)
    (asgS (.nm 0) (fnF 2 f_mended (consF (getE 0) (consF (getE 2) nilF)))))
  (retS (getE 0)))
noncomputable def f_all_mended : List D → Res D := runD 3 B_all_mended
/-- cleaned -/
noncomputable def B_cleaned : En → Res Fl := (seqS (asgS (.nm 3) (cD (.int 0)))
  (seqS (whileS (andF (tstF (bopF ltO (getE 3) (getE 2))) (tstF (bopF neO (fnF 2 f_all_mended (consF (getE 0) (consF (getE 1) nilF))) (getE 0))))
    (seqS (asgS (.nm 0) (fnF 2 f_all_mended (consF (getE 0) (consF (getE 1) nilF))))
  (asgS (.nm 3) (bopF addO (getE 3) (cD (.int 1))))))
  (retS (tupF (consF (getE 0) (consF (getE 3) nilF))))))
noncomputable def f_cleaned : List D → Res D := runD 4 B_cleaned
end FM

set_option Elab.async false
set_option linter.all false
set_option maxRecDepth 100000
/-! O07: mended, at_once, all_mended, cleaned. -/
namespace FM
open PySem PyProof.Rows L2
theorem cutL_to (t : List Nat) (b : Nat) : cutL t none (some (b : Nat)) = t.take b := by
  unfold cutL
  rw [HT.sIx_none, HT.sIx_nat, List.drop_zero, Nat.sub_zero]
  rcases Nat.le_total b t.length with h | h
  · rw [Nat.min_eq_left h]
  · rw [Nat.min_eq_right h, List.take_length, List.take_of_length_le h]
theorem cutL_from (t : List Nat) (e : Nat) : cutL t (some (e : Nat)) none = t.drop e := by
  unfold cutL
  rw [HT.sIx_none, HT.sIx_nat]
  rcases Nat.le_total e t.length with h | h
  · rw [Nat.min_eq_left h, List.take_of_length_le (by simp)]
  · rw [Nat.min_eq_right h, List.drop_length, List.drop_of_length_le h, List.take_nil]
abbrev mkP (p : Nat × Flt) : D := mk p.1 p.2
theorem mkP_lf (l : List (Nat × Flt)) : lfAll (l.map mkP) = true := by
  rw [lfAll_iff]
  intro d hd
  obtain ⟨p, _, rfl⟩ := List.mem_map.mp hd
  exact mk_lf _ _
section
variable {f : Flt} {n : Nat}
theorem mk_0 : ixO (mk n f) (.int 0) = some (.int (f.b : Nat)) := rfl
theorem mk_1 : ixO (mk n f) (.int 1) = some (.int (f.e : Nat)) := by
  show atI _ 1 = _
  exact atI_n (i := 1) rfl
theorem mk_2 : ixO (mk n f) (.int 2) = some (.int (n : Nat)) := by
  show atI _ 2 = _
  exact atI_n (i := 2) rfl
theorem mk_3 : ixO (mk n f) (.int 3) = some (mD f.m) := by
  show atI _ 3 = _
  exact atI_n (i := 3) rfl
end
theorem spl_len (t : List Nat) (b e : Nat) (m : List Nat) : (spl t b e m).length ≤ t.length + t.length + m.length := by
  unfold spl
  simp
  omega
theorem spl_len2 {t : List Nat} {b e : Nat} {m : List Nat} (h : b ≤ e) : (spl t b e m).length ≤ t.length + m.length := by
  unfold spl
  simp
  omega
theorem isO_non {m : Option (List Nat)} : isO (mD m) .non = some (.bl m.isNone) := by cases m <;> rfl
theorem isnO_non {m : Option (List Nat)} : isnO (mD m) .non = some (.bl m.isSome) := by cases m <;> rfl
/-- the texts of a splice, by their readings -/
theorem spl_run {ft fb fm fe : En → Res D} {e : En} {t m : List Nat} {b c : Nat} (h1 : ft e = .ok (.str t)) (h2 : fb e = .ok (.int (b : Nat))) (h3 : fm e = .ok (.str m)) (h4 : fe e = .ok (.int (c : Nat))) (ht : t.length ≤ 300000) (hm : m.length ≤ 300000) :
    bopF addO (bopF addO (slF slO ft noP (soP fb)) fm) (slF slO ft (soP fe) noP) e = .ok (.str (spl t b c m)) := by
  have s1 : slF slO ft noP (soP fb) e = .ok (.str (t.take b)) := by
    rw [slF_ap, h1, rb_ok, noP_ap, rb_ok, soP_ok h2, rb_ok, slO_str (le_sz (by omega)), cutL_to]; rfl
  have s2 : slF slO ft (soP fe) noP e = .ok (.str (t.drop c)) := by
    rw [slF_ap, h1, rb_ok, soP_ok h4, rb_ok, noP_ap, rb_ok, slO_str (le_sz (by omega)), cutL_from]; rfl
  have l1 : (t.take b).length ≤ t.length := by simp; omega
  have l2 : (t.drop c).length ≤ t.length := by simp
  refine bop_ok (bop_ok s1 h3 (addO_ss (le_sz (by omega)))) s2 ?_
  rw [addO_ss (le_sz (by simp; omega))]
  unfold spl
  rw [List.append_assoc]
theorem f_mend {t m : List Nat} {n : Nat} {f : Flt} (ht : t.length ≤ 300000) (hm : f.m = some m) (hl : m.length ≤ 300000) : f_mended [.str t, mk n f] = .ok (.str (spl t f.b f.e m)) := by
  unfold f_mended runX B_mended
  have e0 : initE 2 [.str t, mk n f] = [.dat (.str t), .dat (mk n f)] := rfl
  have h1 : tstF (bopF isO (bopF ixO (getE 1) (cD (.int 3))) (cD .non)) [.dat (.str t), .dat (mk n f)] = .ok false := by
    refine tst_bop (bop_ok rfl rfl mk_3) rfl ?_
    rw [isO_non, hm]; rfl
  rw [e0, seqS_nx (by rw [ifS_no h1]; rfl)]
  rw [retS_ap, spl_run (t := t) (m := m) (b := f.b) (c := f.e) rfl (bop_ok rfl rfl mk_0) (bop_ok (x := mk n f) (y := .int 3) rfl rfl (by rw [mk_3, hm]; rfl)) (bop_ok rfl rfl mk_1) ht hl]
  rfl
/-! ### at_once -/
def once : Nat → List (Nat × Flt) → List (Nat × Flt)
  | _, [] => []
  | k, p :: r => if p.2.m.isSome = true ∧ k ≤ p.2.b then p :: once p.2.e r else once k r
theorem once_len : ∀ (k : Nat) (ms : List (Nat × Flt)), (once k ms).length ≤ ms.length
  | _, [] => by simp [once]
  | k, p :: r => by
    simp only [once]
    split
    · have := once_len p.2.e r; simp; omega
    · have := once_len k r; simp; omega
theorem once_mem : ∀ {k : Nat} {ms : List (Nat × Flt)} {p : Nat × Flt}, p ∈ once k ms → p ∈ ms ∧ p.2.m.isSome = true
  | _, [], _, h => by simp [once] at h
  | k, q :: r, p, h => by
    simp only [once] at h
    split at h
    · rename_i hc
      rcases List.mem_cons.mp h with rfl | h
      · exact ⟨by simp, hc.1⟩
      · obtain ⟨a, b⟩ := once_mem h; exact ⟨by simp [a], b⟩
    · obtain ⟨a, b⟩ := once_mem h; exact ⟨by simp [a], b⟩
noncomputable def bOn : En → Res Fl := (ifS (andF (tstF (bopF isnO (bopF ixO (getE 3) (cD (.int 3))) (cD .non))) (tstF (bopF geO (bopF ixO (getE 3) (cD (.int 0))) (getE 2)))) (seqS (appS 1 (getE 3))
  (asgS (.nm 2) (bopF ixO (getE 3) (cD (.int 1))))) nilS)
theorem on_run {X : D} : ∀ (ms fd : List (Nat × Flt)) (k : Nat) (x3 : Sl), fd.length + ms.length ≤ 500000 → ∃ k' y3, forF (.nm 3) bOn (ms.map mkP) [.dat X, .own (fd.map mkP), .dat (.int (k : Nat)), x3] = .ok (.nx [.dat X, .own ((fd ++ once k ms).map mkP), .dat (.int (k' : Nat)), y3])
  | [], fd, k, x3, _ => ⟨k, x3, by simp [forF, once]⟩
  | p :: r, fd, k, x3, hl => by
    simp only [List.length_cons] at hl
    have hs : setT (.nm 3) (mkP p) [.dat X, .own (fd.map mkP), .dat (.int (k : Nat)), x3] = .ok [.dat X, .own (fd.map mkP), .dat (.int (k : Nat)), .dat (mkP p)] := by
      rw [setT_nm, setN_lf (mk_lf _ _)]; rfl
    have t1 : tstF (bopF isnO (bopF ixO (getE 3) (cD (.int 3))) (cD .non)) [.dat X, .own (fd.map mkP), .dat (.int (k : Nat)), .dat (mkP p)] = .ok p.2.m.isSome := tst_bop (bop_ok rfl rfl mk_3) rfl isnO_non
    have t2 : tstF (bopF geO (bopF ixO (getE 3) (cD (.int 0))) (getE 2)) [.dat X, .own (fd.map mkP), .dat (.int (k : Nat)), .dat (mkP p)] = .ok (decide (k ≤ p.2.b)) := by
      refine (tst_bop (bop_ok rfl rfl mk_0) rfl geO_ii).trans ?_
      congr 1
      rw [Bool.eq_iff_iff, decide_eq_true_eq, decide_eq_true_eq]
      omega
    have hc : andF (tstF (bopF isnO (bopF ixO (getE 3) (cD (.int 3))) (cD .non))) (tstF (bopF geO (bopF ixO (getE 3) (cD (.int 0))) (getE 2))) [.dat X, .own (fd.map mkP), .dat (.int (k : Nat)), .dat (mkP p)] = .ok (decide (p.2.m.isSome = true ∧ k ≤ p.2.b)) := by
      rw [andF_ap, t1, rb_ok]
      cases p.2.m.isSome with
      | false => simp
      | true => rw [if_pos rfl, t2]; simp
    rw [List.map_cons, forF_cons, hs, rb_ok]
    by_cases h : p.2.m.isSome = true ∧ k ≤ p.2.b
    · have ha : bOn [.dat X, .own (fd.map mkP), .dat (.int (k : Nat)), .dat (mkP p)] = .ok (.nx [.dat X, .own ((fd ++ [p]).map mkP), .dat (.int (p.2.e : Nat)), .dat (mkP p)]) := by
        unfold bOn
        rw [ifS_yes (by rw [hc, decide_eq_true h])]
        rw [seqS_nx (app_own (i := 1) (xs := fd.map mkP) (d := mkP p) rfl rfl (mk_lf _ _) (by simp; omega))]
        simp only [List.set]
        rw [asg_lf (d := .int (p.2.e : Nat)) rfl (bop_ok rfl rfl mk_1)]
        simp
      obtain ⟨k', y3, ih⟩ := on_run (X := X) r (fd ++ [p]) p.2.e (.dat (mkP p)) (by simp; omega)
      refine ⟨k', y3, ?_⟩
      rw [ha, rb_ok]
      simp only [once, if_pos h]
      rw [ih]
      simp
    · have ha : bOn [.dat X, .own (fd.map mkP), .dat (.int (k : Nat)), .dat (mkP p)] = .ok (.nx [.dat X, .own (fd.map mkP), .dat (.int (k : Nat)), .dat (mkP p)]) := by
        unfold bOn
        rw [ifS_no (by rw [hc, decide_eq_false h])]
        rfl
      obtain ⟨k', y3, ih⟩ := on_run (X := X) r fd k (.dat (mkP p)) (by omega)
      refine ⟨k', y3, ?_⟩
      rw [ha, rb_ok]
      simp only [once, if_neg h]
      exact ih
theorem f_once {ms : List (Nat × Flt)} (hl : ms.length ≤ 500000) : f_at_once [.tup (ms.map mkP)] = .ok (.tup ((once 0 ms).map mkP)) := by
  unfold f_at_once runD
  have hB : B_at_once = seqS (asgO 1 (lstF nilF)) (seqS (asgS (.nm 2) (cD (.int 0))) (seqS (forS (lfG asTup (getE 0)) (.nm 3) bOn) (retS (callF tupleO (consF (getE 1) nilF))))) := rfl
  have e0 : initE 4 [.tup (ms.map mkP)] = [.dat (.tup (ms.map mkP)), .un, .un, .un] := rfl
  obtain ⟨k', y3, h⟩ := on_run (X := .tup (ms.map mkP)) ms [] 0 .un (by simpa using hl)
  rw [hB, e0, seqS_nx asgO_nil]
  simp only [List.set]
  rw [seqS_nx (asg_lf (d := .int 0) rfl rfl)]
  simp only [List.set]
  have hit : lfG asTup (getE 0) [.dat (.tup (ms.map mkP)), .own [], .dat (.int 0), .un] = .ok (ms.map mkP) := by
    rw [lfG_ap, getE_dat, rb_ok, lf_tup, mkP_lf]; rfl
  have h' : forF (.nm 3) bOn (ms.map mkP) [.dat (.tup (ms.map mkP)), .own [], .dat (.int 0), .un] = .ok (.nx [.dat (.tup (ms.map mkP)), .own ((once 0 ms).map mkP), .dat (.int (k' : Nat)), y3]) := by simpa using h
  rw [seqS_nx (by rw [forS_ap, hit, rb_ok]; exact h')]
  simp
/-! ### all_mended -/
def mendAll (t : List Nat) (ps : List (Nat × Flt)) : List Nat := ps.foldr (fun p t => spl t p.2.b p.2.e (p.2.m.getD [])) t
theorem Good.mlen {T : List Nat} {f : Flt} (h : Good T f) : (f.m.getD []).length ≤ 6 ∧ ∀ c ∈ f.m.getD [], isL c = true := by
  cases h with
  | del P x S h1 h2 h3 h4 => rw [h4]; simp
  | twice P g w S h1 h2 h3 h4 => rw [h4]; simp
  | word P w S y h1 h2 h3 h4 h5 h6 h7 h8 h9 h10 => rw [h4]; exact ⟨h9, h10⟩
  | great P S c c' h1 h2 h3 h4 h5 h6 h7 => rw [h4]; exact ⟨by simp, fun x hx => by simp at hx; rw [hx]; exact h7⟩
  | none P x S h1 h2 h3 h4 => rw [h4]; simp
theorem isL_lt {c : Nat} (h : isL c = true) : c < 128 := by
  unfold isL at h
  simp only [decide_eq_true_eq, tLetters, List.mem_cons, List.not_mem_nil, or_false] at h
  omega
noncomputable def ms (t : List Nat) (rs : List Rule) : List (Nat × Flt) := (accT t rs).mergeSort leP
theorem sorted_ms (t : List Nat) (rs : List Rule) : sorted t rs = (ms t rs).map mkP := sorted_eq t rs
theorem accT_mem {t : List Nat} {rs : List Rule} {p : Nat × Flt} (h : p ∈ accT t rs) : ∃ r, rs[p.1]? = some r ∧ p.2 ∈ faults t r := by
  unfold accT at h
  obtain ⟨l, hl, hp⟩ := List.mem_flatten.mp h
  obtain ⟨q, hq, rfl⟩ := List.mem_map.mp hl
  obtain ⟨f, hf, rfl⟩ := List.mem_map.mp hp
  have := List.mem_zipIdx_iff_getElem?.mp hq
  exact ⟨q.1, this, hf⟩
theorem ms_mem {t : List Nat} {rs : List Rule} {p : Nat × Flt} (h : p ∈ ms t rs) : ∃ r, rs[p.1]? = some r ∧ p.2 ∈ faults t r :=
  accT_mem ((List.mergeSort_perm (accT t rs) leP).mem_iff.mp h)
theorem ms_good {t : List Nat} {rs : List Rule} (ho : ∀ r ∈ rs, r.ok = true) {p : Nat × Flt} (h : p ∈ ms t rs) : Good t p.2 := by
  obtain ⟨r, h1, h2⟩ := ms_mem h
  exact good_faults (ho r (List.mem_of_getElem? h1)) h2
theorem ms_len {t : List Nat} {rs : List Rule} (ht : t.length ≤ 1000) (hr : rs.length ≤ 4) : (ms t rs).length ≤ 4000 := by
  have := sorted_len (t := t) (rs := rs) ht hr
  rw [sorted_ms, List.length_map] at this
  exact this
theorem am_run {X : D} : ∀ (l : List (Nat × Flt)) (t : List Nat) (x2 : Sl), (∀ p ∈ l, p.2.m.isSome = true ∧ (p.2.m.getD []).length ≤ 6 ∧ p.2.b ≤ p.2.e) → t.length + 6 * l.length ≤ 300000 → ∃ y2,
    forF (.nm 2) (asgS (.nm 0) (fnF 2 f_mended (consF (getE 0) (consF (getE 2) nilF)))) (l.map mkP) [.dat (.str t), .dat X, x2] = .ok (.nx [.dat (.str (l.foldl (fun t p => spl t p.2.b p.2.e (p.2.m.getD [])) t)), .dat X, y2])
  | [], t, x2, _, _ => ⟨x2, by simp [forF]⟩
  | p :: r, t, x2, hp, hl => by
    obtain ⟨h1, h2, h3⟩ := hp p (by simp)
    simp only [List.length_cons] at hl
    obtain ⟨m, hm⟩ := Option.isSome_iff_exists.mp h1
    rw [hm] at h2
    simp only [Option.getD_some] at h2
    have hs : setT (.nm 2) (mkP p) [.dat (.str t), .dat X, x2] = .ok [.dat (.str t), .dat X, .dat (mkP p)] := by
      rw [setT_nm, setN_lf (mk_lf _ _)]; rfl
    have hb : asgS (.nm 0) (fnF 2 f_mended (consF (getE 0) (consF (getE 2) nilF))) [.dat (.str t), .dat X, .dat (mkP p)] = .ok (.nx [.dat (.str (spl t p.2.b p.2.e m)), .dat X, .dat (mkP p)]) := by
      have h4 : fnF 2 f_mended (consF (getE 0) (consF (getE 2) nilF)) [.dat (.str t), .dat X, .dat (mkP p)] = .ok (.str (spl t p.2.b p.2.e m)) := fn_ok (n := 2) (ds := [.str t, mkP p]) (cons_ok rfl (cons_ok rfl rfl)) rfl (f_mend (by omega) hm (by omega))
      rw [asg_lf (d := .str (spl t p.2.b p.2.e m)) rfl h4]
      rfl
    have := spl_len2 (t := t) (m := m) h3
    obtain ⟨y2, ih⟩ := am_run (X := X) r (spl t p.2.b p.2.e m) (.dat (mkP p)) (fun q hq => hp q (by simp [hq])) (by omega)
    refine ⟨y2, ?_⟩
    rw [List.map_cons, forF_cons, hs, rb_ok, hb, rb_ok, List.foldl_cons, hm]
    exact ih
noncomputable def am (t : List Nat) (rs : List Rule) : List Nat := mendAll t (once 0 (ms t rs))
theorem revO_tup (ds : List D) : revO (.tup ds) = some (.tup ds.reverse) := rfl
theorem f_am {t : List Nat} {rs : List Rule} (ht : t.length ≤ 1000) (ha : t.all (· < 128) = true) (hr : rs.length ≤ 4) (ho : ∀ r ∈ rs, r.ok = true) : f_all_mended [.str t, .tup (rs.map Rule.d)] = .ok (.str (am t rs)) := by
  unfold f_all_mended runD
  have hB : B_all_mended = seqS (forS (lfG asTup (uopF revO (fnF 1 f_at_once (consF (fnF 2 f_all_marks (consF (getE 0) (consF (getE 1) nilF))) nilF)))) (.nm 2) (asgS (.nm 0) (fnF 2 f_mended (consF (getE 0) (consF (getE 2) nilF))))) (retS (getE 0)) := rfl
  have e0 : initE 3 [.str t, .tup (rs.map Rule.d)] = [.dat (.str t), .dat (.tup (rs.map Rule.d)), .un] := rfl
  have hml := ms_len ht hr
  have hol := once_len 0 (ms t rs)
  have hm : fnF 2 f_all_marks (consF (getE 0) (consF (getE 1) nilF)) [.dat (.str t), .dat (.tup (rs.map Rule.d)), .un] = .ok (.tup ((ms t rs).map mkP)) :=
    fn_ok (cons_ok rfl (cons_ok rfl rfl)) rfl ((f_marks ht ha hr).trans (by rw [← sorted_ms]; rfl))
  have ho1 : fnF 1 f_at_once (consF (fnF 2 f_all_marks (consF (getE 0) (consF (getE 1) nilF))) nilF) [.dat (.str t), .dat (.tup (rs.map Rule.d)), .un] = .ok (.tup ((once 0 (ms t rs)).map mkP)) :=
    fn_ok (cons_ok hm rfl) rfl (f_once (by omega))
  have hit : lfG asTup (uopF revO (fnF 1 f_at_once (consF (fnF 2 f_all_marks (consF (getE 0) (consF (getE 1) nilF))) nilF))) [.dat (.str t), .dat (.tup (rs.map Rule.d)), .un] = .ok ((once 0 (ms t rs)).reverse.map mkP) := by
    rw [lfG_ap, uopF_ap, ho1, rb_ok, revO_tup, ofO_some, rb_ok, lf_tup, ← List.map_reverse, mkP_lf]; rfl
  obtain ⟨y2, h⟩ := am_run (X := .tup (rs.map Rule.d)) (once 0 (ms t rs)).reverse t .un (fun p hp => by
    obtain ⟨q1, q2⟩ := once_mem (List.mem_reverse.mp hp)
    have g := ms_good ho q1
    exact ⟨q2, g.mlen.1, by have := g.lt; omega⟩) (by rw [List.length_reverse]; omega)
  rw [hB, e0, seqS_nx (by rw [forS_ap, hit, rb_ok]; exact h)]
  rw [List.foldl_reverse]
  rfl
theorem once_asc : ∀ (ps : List (Nat × Flt)) (k : Nat), (∀ p ∈ ps, p.2.b ≤ p.2.e) → Asc k ((once k ps).map (·.2))
  | [], k, _ => trivial
  | p :: r, k, h => by
    simp only [once]
    split
    · rename_i hc
      exact ⟨hc.2, h p (by simp), hc.1, once_asc r _ (fun q hq => h q (by simp [hq]))⟩
    · exact once_asc r k (fun q hq => h q (by simp [hq]))
theorem mendAll_bld {T : List Nat} : ∀ (ps : List (Nat × Flt)) (off : Nat), off ≤ T.length → Asc off (ps.map (·.2)) → (∀ p ∈ ps, p.2.e ≤ T.length) → mendAll T ps = T.take off ++ bld off (T.drop off) (ps.map (·.2))
  | [], off, _, _, _ => by simp [mendAll, bld]
  | p :: r, off, ho, ha, hp => by
    obtain ⟨h1, h2, h3, h4⟩ := ha
    change off ≤ p.2.b at h1
    change p.2.b ≤ p.2.e at h2
    have he := hp p (by simp)
    have ih := mendAll_bld r p.2.e he h4 (fun q hq => hp q (by simp [hq]))
    have e1 : mendAll T (p :: r) = spl (mendAll T r) p.2.b p.2.e (p.2.m.getD []) := rfl
    rw [e1, ih]
    unfold spl
    have lt : (T.take p.2.e).length = p.2.e := by simp; omega
    rw [List.take_append_of_le_length (by omega), List.take_take, Nat.min_eq_left h2]
    rw [List.drop_left' lt]
    simp only [List.map_cons, bld]
    rw [List.drop_drop, show off + (p.2.e - off) = p.2.e by omega, ← List.append_assoc (T.take off)]
    congr 1
    rw [← List.take_append_drop off (T.take p.2.b), List.take_take, Nat.min_eq_left h1, List.drop_take]
theorem am_bld {t : List Nat} {rs : List Rule} (ho : ∀ r ∈ rs, r.ok = true) : am t rs = bld 0 t ((once 0 (ms t rs)).map (·.2)) := by
  have := mendAll_bld (T := t) (once 0 (ms t rs)) 0 (Nat.zero_le _) (once_asc _ 0 (fun p hp => Nat.le_of_lt (ms_good ho hp).lt.1)) (fun p hp => (ms_good ho (once_mem hp).1).lt.2)
  unfold am
  simpa using this
/-- marks of a text, mended at once: the text gets no longer by the measure -/
theorem mend_phi {T : List Nat} {ps : List (Nat × Flt)} (h : Asc 0 (ps.map (·.2))) (hg : ∀ p ∈ ps, Good T p.2) : phi 0 (mendAll T ps) ≤ phi 0 T := by
  have e := mendAll_bld (T := T) ps 0 (Nat.zero_le _) h (fun p hp => (hg p hp).lt.2)
  have m := bld_md (T := T) (ps.map (·.2)) 0 (Nat.zero_le _) h (fun f hf => by obtain ⟨p, hp, rfl⟩ := List.mem_map.mp hf; exact hg p hp)
  simp only [List.take_zero, List.nil_append, List.drop_zero, st1] at e m
  rw [e]
  have := m.le 0
  have h2 := dD_le 0 0 T
  rw [dl_0] at h2
  omega
theorem spl_lt {t m : List Nat} {b e : Nat} (ht : t.all (· < 128) = true) (hm : ∀ c ∈ m, isL c = true) : (spl t b e m).all (· < 128) = true := by
  rw [List.all_eq_true] at ht ⊢
  intro c hc
  unfold spl at hc
  rcases List.mem_append.mp hc with h | h
  · exact ht c (List.mem_of_mem_take h)
  · rcases List.mem_append.mp h with h | h
    · exact decide_eq_true (isL_lt (hm c h))
    · exact ht c (List.mem_of_mem_drop h)
theorem mend_lt {T : List Nat} (ht : T.all (· < 128) = true) : ∀ {ps : List (Nat × Flt)}, (∀ p ∈ ps, ∀ c ∈ p.2.m.getD [], isL c = true) → (mendAll T ps).all (· < 128) = true
  | [], _ => ht
  | p :: r, h => by
    have e1 : mendAll T (p :: r) = spl (mendAll T r) p.2.b p.2.e (p.2.m.getD []) := rfl
    rw [e1]
    exact spl_lt (mend_lt ht (fun q hq => h q (by simp [hq]))) (h p (by simp))
theorem am_phi {t : List Nat} {rs : List Rule} (ho : ∀ r ∈ rs, r.ok = true) : phi 0 (am t rs) ≤ phi 0 t :=
  mend_phi (once_asc _ 0 (fun p hp => Nat.le_of_lt (ms_good ho hp).lt.1)) (fun p hp => ms_good ho (once_mem hp).1)
theorem am_lt {t : List Nat} {rs : List Rule} (ho : ∀ r ∈ rs, r.ok = true) (ha : t.all (· < 128) = true) : (am t rs).all (· < 128) = true :=
  mend_lt ha (fun p hp => (ms_good ho (once_mem hp).1).mlen.2)
theorem len_phi (t : List Nat) : t.length ≤ phi 0 t := by have := phi_ge 0 t; simpa using this
/-! ### cleaned -/
noncomputable def cln (rs : List Rule) : Nat → List Nat → List Nat × Nat
  | 0, t => (t, 0)
  | n + 1, t => open Classical in if am t rs = t then (t, 0) else ((cln rs n (am t rs)).1, (cln rs n (am t rs)).2 + 1)
noncomputable def tCl : En → Res Bool := (andF (tstF (bopF ltO (getE 3) (getE 2))) (tstF (bopF neO (fnF 2 f_all_mended (consF (getE 0) (consF (getE 1) nilF))) (getE 0))))
noncomputable def bCl : En → Res Fl := (seqS (asgS (.nm 0) (fnF 2 f_all_mended (consF (getE 0) (consF (getE 1) nilF)))) (asgS (.nm 3) (bopF addO (getE 3) (cD (.int 1)))))
theorem cl_run {rs : List Rule} (hr : rs.length ≤ 4) (ho : ∀ r ∈ rs, r.ok = true) : ∀ (n : Nat) (t : List Nat) (k : Nat), phi 0 t ≤ 1000 → t.all (· < 128) = true →
    whileS tCl bCl [.dat (.str t), .dat (.tup (rs.map Rule.d)), .dat (.int ((k + n : Nat) : Int)), .dat (.int (k : Nat))] = .ok (.nx [.dat (.str (cln rs n t).1), .dat (.tup (rs.map Rule.d)), .dat (.int ((k + n : Nat) : Int)), .dat (.int ((k + (cln rs n t).2 : Nat) : Int))])
  | 0, t, k, hp, ha => by
    rw [whileS_false]
    · simp [cln]
    · have : tstF (bopF ltO (getE 3) (getE 2)) [.dat (.str t), .dat (.tup (rs.map Rule.d)), .dat (.int ((k + 0 : Nat) : Int)), .dat (.int (k : Nat))] = .ok false := by
        refine (tst_bop rfl rfl ltO_ii).trans ?_
        simp
      unfold tCl
      rw [andF_ap, this]; rfl
  | n + 1, t, k, hp, ha => by
    have hl := len_phi t
    have h1 : tstF (bopF ltO (getE 3) (getE 2)) [.dat (.str t), .dat (.tup (rs.map Rule.d)), .dat (.int ((k + (n + 1) : Nat) : Int)), .dat (.int (k : Nat))] = .ok true := by
      refine (tst_bop rfl rfl ltO_ii).trans ?_
      congr 1
      rw [decide_eq_true_eq]
      omega
    have h2 : fnF 2 f_all_mended (consF (getE 0) (consF (getE 1) nilF)) [.dat (.str t), .dat (.tup (rs.map Rule.d)), .dat (.int ((k + (n + 1) : Nat) : Int)), .dat (.int (k : Nat))] = .ok (.str (am t rs)) :=
      fn_ok (cons_ok rfl (cons_ok rfl rfl)) rfl (f_am (by omega) ha hr ho)
    have h3 : tCl [.dat (.str t), .dat (.tup (rs.map Rule.d)), .dat (.int ((k + (n + 1) : Nat) : Int)), .dat (.int (k : Nat))] = .ok (!(am t rs == t)) := by
      unfold tCl
      rw [andF_ap, h1, rb_ok, if_pos rfl]
      exact tst_bop h2 rfl neO_ss
    by_cases he : am t rs = t
    · rw [whileS_false (by rw [h3, he]; simp)]
      simp only [cln, if_pos he, Nat.add_zero]
    · have hb : bCl [.dat (.str t), .dat (.tup (rs.map Rule.d)), .dat (.int ((k + (n + 1) : Nat) : Int)), .dat (.int (k : Nat))] = .ok (.nx [.dat (.str (am t rs)), .dat (.tup (rs.map Rule.d)), .dat (.int ((k + 1 + n : Nat) : Int)), .dat (.int ((k + 1 : Nat) : Int))]) := by
        unfold bCl
        rw [seqS_nx (asg_lf (d := .str (am t rs)) rfl h2)]
        simp only [List.set]
        rw [asg_lf (d := .int ((k + 1 : Nat) : Int)) rfl (by simp)]
        simp only [List.set]
        rw [show k + (n + 1) = k + 1 + n by omega]
      rw [whileS_true (by rw [h3]; simp [he]) hb]
      have ih := cl_run hr ho n (am t rs) (k + 1) (by have := am_phi (t := t) ho; omega) (am_lt ho ha)
      rw [ih]
      simp only [cln, if_neg he]
      rw [show k + (n + 1) = k + 1 + n by omega, show k + ((cln rs n (am t rs)).2 + 1) = k + 1 + (cln rs n (am t rs)).2 by omega]
theorem f_clean {t : List Nat} {rs : List Rule} (n : Nat) (hp : phi 0 t ≤ 1000) (ha : t.all (· < 128) = true) (hr : rs.length ≤ 4) (ho : ∀ r ∈ rs, r.ok = true) :
    f_cleaned [.str t, .tup (rs.map Rule.d), .int (n : Nat)] = .ok (.tup [.str (cln rs n t).1, .int ((cln rs n t).2 : Nat)]) := by
  unfold f_cleaned runD
  have hB : B_cleaned = seqS (asgS (.nm 3) (cD (.int 0))) (seqS (whileS tCl bCl) (retS (tupF (consF (getE 0) (consF (getE 3) nilF))))) := rfl
  have e0 : initE 4 [.str t, .tup (rs.map Rule.d), .int (n : Nat)] = [.dat (.str t), .dat (.tup (rs.map Rule.d)), .dat (.int (n : Nat)), .un] := rfl
  have h := cl_run hr ho n t 0 hp ha
  simp only [Nat.zero_add] at h
  rw [hB, e0, seqS_nx (asg_lf (d := .int 0) rfl rfl)]
  simp only [List.set]
  have h' : whileS tCl bCl [.dat (.str t), .dat (.tup (rs.map Rule.d)), .dat (.int (n : Nat)), .dat (.int 0)] = _ := h
  rw [seqS_nx h', retS_ap, tup2 (a := .str (cln rs n t).1) (b := .int ((cln rs n t).2 : Nat)) rfl rfl]
  rfl
theorem cln_phi {rs : List Rule} (ho : ∀ r ∈ rs, r.ok = true) : ∀ (n : Nat) (t : List Nat), phi 0 (cln rs n t).1 ≤ phi 0 t ∧ (t.all (· < 128) = true → (cln rs n t).1.all (· < 128) = true)
  | 0, t => ⟨Nat.le_refl _, id⟩
  | n + 1, t => by
    simp only [cln]
    split
    · exact ⟨Nat.le_refl _, id⟩
    · obtain ⟨h1, h2⟩ := cln_phi ho n (am t rs)
      exact ⟨Nat.le_trans h1 (am_phi ho), fun h => h2 (am_lt ho h)⟩
theorem cln_le {rs : List Rule} : ∀ (n : Nat) (t : List Nat), (cln rs n t).2 ≤ n
  | 0, t => Nat.le_refl _
  | n + 1, t => by
    simp only [cln]
    split
    · simp
    · have := cln_le (rs := rs) n (am t rs)
      simp only
      omega
theorem cln_fix {rs : List Rule} : ∀ (n : Nat) (t : List Nat), (cln rs n t).2 < n → am (cln rs n t).1 rs = (cln rs n t).1
  | 0, t, h => by simp at h
  | n + 1, t, h => by
    simp only [cln] at h ⊢
    split
    · assumption
    · rename_i hn
      rw [if_neg hn] at h
      exact cln_fix n (am t rs) (by simp only at h; omega)
theorem cln_of_fix {rs : List Rule} {t : List Nat} (h : am t rs = t) (n : Nat) : cln rs n t = (t, 0) := by
  cases n with
  | zero => rfl
  | succ n => simp only [cln, if_pos h]
theorem cln_add {rs : List Rule} : ∀ (n k : Nat) (t : List Nat), (cln rs n t).2 = min n (cln rs (n + k) t).2 ∧ (cln rs k (cln rs n t).1).1 = (cln rs (n + k) t).1
  | 0, k, t => by simp [cln]
  | n + 1, k, t => by
    rw [show n + 1 + k = (n + k) + 1 by omega]
    simp only [cln]
    by_cases h : am t rs = t
    · simp only [if_pos h]
      rw [cln_of_fix h]
      simp
    · simp only [if_neg h]
      obtain ⟨h1, h2⟩ := cln_add n k (am t rs)
      refine ⟨by rw [h1]; omega, h2⟩
end FM

set_option Elab.async false
set_option linter.all false
set_option maxRecDepth 100000
/-! C02: the law's marks = the program's. -/
namespace FM
open PySem PyProof.Rows L2
def key3 : D → D
  | .tup ds => .tup (ds.take 3)
  | d => d
theorem leK_key {a b : D} (ha : ∃ n f, a = mk n f) (hb : ∃ n f, b = mk n f) : leK a b = leD (key3 a) (key3 b) := by
  obtain ⟨n, f, rfl⟩ := ha
  obtain ⟨m, g, rfl⟩ := hb
  rfl
theorem keyD_mark (p : List Key × D) (h : ∃ n f, p = kv n f) : keyD p.1 = key3 (toMark p) := by
  obtain ⟨n, f, rfl⟩ := h
  rfl
theorem getK_of : ∀ {kvs : List (List Key × D)} {p : List Key × D}, p ∈ kvs → (kvs.map (·.1)).Nodup → getK kvs p.1 = some p.2
  | q :: r, p, h, hn => by
    simp only [List.map_cons, List.nodup_cons] at hn
    rcases List.mem_cons.mp h with rfl | h
    · simp [getK, List.find?_cons]
    · have hne : ¬ q.1 = p.1 := fun z => hn.1 (by rw [z]; exact List.mem_map.mpr ⟨p, h, rfl⟩)
      have := getK_of h hn.2
      unfold getK at this ⊢
      rw [List.find?_cons, decide_eq_false hne]
      exact this
theorem accK_nodup (t : List Nat) (rs : List Rule) : ∀ i, ((accK t rs i).map (·.1)).Nodup
  | 0 => by simp [accK]
  | i + 1 => by
    cases h : rs[i]? with
    | none =>
      have h2 : rs.zipIdx[i]? = none := by rw [List.getElem?_zipIdx, h]; rfl
      have : accK t rs (i + 1) = accK t rs i := by
        unfold accK
        rw [List.take_succ, h2]
        simp
      rw [this]
      exact accK_nodup t rs i
    | some r =>
      rw [accK_succ h, List.map_append, List.nodup_append]
      refine ⟨accK_nodup t rs i, ?_, ?_⟩
      · rw [List.map_map]
        unfold List.Nodup
        rw [List.pairwise_map]
        refine (faults_asc t r).imp fun {f g} hfg z => ?_
        have := (kv_inj (n := i) (m := i) (f := f) (g := g) z).1
        omega
      · intro a ha b hb
        obtain ⟨p, hp, rfl⟩ := List.mem_map.mp ha
        obtain ⟨q, hq, rfl⟩ := List.mem_map.mp hb
        obtain ⟨n, f, r', rfl, hn, _⟩ := accK_mem hp
        obtain ⟨g, _, rfl⟩ := List.mem_map.mp hq
        intro z
        have := (kv_inj z).2.2
        omega
theorem okSortD {t : List Nat} {rs : List Rule} (ht : t.length ≤ 1000) (hr : rs.length ≤ 4) : OkSort ((accK t rs rs.length).map fun p => keyD p.1) where
  lf := by
    rw [lfAll_iff]
    intro d hd
    obtain ⟨p, _, rfl⟩ := List.mem_map.mp hd
    exact keyD_lf p.1
  al := fun a ha b hb => by
    obtain ⟨x, hx, rfl⟩ := List.mem_map.mp ha
    obtain ⟨y, hy, rfl⟩ := List.mem_map.mp hb
    obtain ⟨p, hp, rfl⟩ := List.mem_map.mp hx
    obtain ⟨q, hq, rfl⟩ := List.mem_map.mp hy
    obtain ⟨n, f, _, rfl, _⟩ := accK_mem hp
    obtain ⟨m, g, _, rfl, _⟩ := accK_mem hq
    rfl
  so := .inl fun d hd => by
    obtain ⟨x, hx, rfl⟩ := List.mem_map.mp hd
    obtain ⟨p, hp, rfl⟩ := List.mem_map.mp hx
    obtain ⟨n, f, _, rfl, _⟩ := accK_mem hp
    exact ⟨_, _, rfl⟩
  dp := fun d hd => by
    obtain ⟨p, hp, rfl⟩ := List.mem_map.mp hd
    obtain ⟨n, f, _, rfl, _⟩ := accK_mem hp
    simp [kv, keyD, keyD1, toPy, toPyAll, PyData.depth, PyData.depthAll]
  ln := by
    have := accK_len t rs rs.length
    have : rs.length * t.length ≤ 4 * 1000 := Nat.mul_le_mul hr ht
    rw [List.length_map]
    omega
theorem sort_keys (t : List Nat) (rs : List Rule) : ((accK t rs rs.length).map fun p => keyD p.1).mergeSort leD = ((marksD t rs).mergeSort leK).map key3 := by
  have h0 : ((marksD t rs).mergeSort leK).map key3 = ((marksD t rs).map key3).mergeSort leD := List.map_mergeSort (r := leK) (s := leD) (l := marksD t rs) (f := key3) (fun a ha b hb => leK_key (accM_mem (t := t) (rs := rs) (i := rs.length) ha) (accM_mem (t := t) (rs := rs) (i := rs.length) hb))
  rw [h0]
  unfold marksD
  rw [← accK_marks, List.map_map]
  congr 1
  apply List.map_congr_left
  intro p hp
  obtain ⟨n, f, r, e, _⟩ := accK_mem hp
  exact keyD_mark p ⟨n, f, e⟩
theorem f_lmarks {t : List Nat} {rs : List Rule} (ht : t.length ≤ 1000) (ha : t.all (· < 128) = true) (hr : rs.length ≤ 4) : f_law_marks [.str t, .tup (rs.map Rule.d)] = .ok (.tup ((marksD t rs).mergeSort leK)) := by
  unfold f_law_marks runD
  have hB : B_law_marks = seqS (asgD 2) (seqS (forS (lfG enumTup (getE 1)) (.tp [(.nm 3), (.nm 4)]) (forS (newG (fnF 2 f_law_faults (consF (getE 0) (consF (getE 4) nilF)))) (.tp [(.nm 5), (.nm 6), (.nm 7)]) bP))
    (retS (callF tupleO (consF (mkL (compF [8] (itF asLst (mkL (sortDct 2))) (.nm 8) yesF (bopF addO (getE 8) (tupF (consF (dgetF 2 (getE 8)) nilF))))) nilF)))) := rfl
  have e0 : initE 9 [.str t, .tup (rs.map Rule.d)] = [.dat (.str t), .dat (.tup (rs.map Rule.d)), .un, .un, .un, .un, .un, .un, .un] := rfl
  let P : Nat → En → Prop := fun i e => ∃ x3 x4 x5 x6 x7, e = [.dat (.str t), .dat (.tup (rs.map Rule.d)), .dct (accK t rs i), x3, x4, x5, x6, x7, .un]
  obtain ⟨e', h1, x3, x4, x5, x6, x7, rfl⟩ := forF_inv (t := .tp [.nm 3, .nm 4]) (B := forS (newG (fnF 2 f_law_faults (consF (getE 0) (consF (getE 4) nilF)))) (.tp [(.nm 5), (.nm 6), (.nm 7)]) bP)
    (items := enumD (rs.map Rule.d)) P (fun i d e hd he => by
    obtain ⟨x3, x4, x5, x6, x7, rfl⟩ := he
    obtain ⟨x, hx, rfl⟩ := enumD_get hd
    simp only [List.getElem?_map, Option.map_eq_some_iff] at hx
    obtain ⟨r, hrr, rfl⟩ := hx
    obtain ⟨y5, y6, y7, hin⟩ := innerM (x5 := x5) (x6 := x6) (x7 := x7) ht hr hrr
    have hff : fnF 2 f_law_faults (consF (getE 0) (consF (getE 4) nilF)) [.dat (.str t), .dat (.tup (rs.map Rule.d)), .dct (accK t rs i), .dat (.int (i : Nat)), .dat r.d, x5, x6, x7, .un] = .ok ((faults t r).map fD) := fn_ok (cons_ok rfl (cons_ok (by simp [getE]) rfl)) rfl (f_lfaults ht ha)
    refine ⟨[.dat (.str t), .dat (.tup (rs.map Rule.d)), .dct (accK t rs i), .dat (.int (i : Nat)), .dat r.d, x5, x6, x7, .un], _, by simp [setT, setTs, setN, Rule.lf], ?_, .dat (.int (i : Nat)), .dat r.d, y5, y6, y7, rfl⟩
    have hng : newG (fnF 2 f_law_faults (consF (getE 0) (consF (getE 4) nilF))) [.dat (.str t), .dat (.tup (rs.map Rule.d)), .dct (accK t rs i), .dat (.int (i : Nat)), .dat r.d, x5, x6, x7, .un] = .ok ((faults t r).map fD) := by
      rw [newG_ap, hff, rb_ok, fDs_lf]
      rfl
    rw [forS_ap, hng, rb_ok]
    exact hin) (e := [.dat (.str t), .dat (.tup (rs.map Rule.d)), .dct [], .un, .un, .un, .un, .un, .un]) ⟨.un, .un, .un, .un, .un, by simp [accK]⟩
  rw [hB, e0, seqS_nx (e1 := [.dat (.str t), .dat (.tup (rs.map Rule.d)), .dct [], .un, .un, .un, .un, .un, .un]) rfl]
  have hit : lfG enumTup (getE 1) [.dat (.str t), .dat (.tup (rs.map Rule.d)), .dct [], .un, .un, .un, .un, .un, .un] = .ok (enumD (rs.map Rule.d)) := by
    unfold lfG
    have : (D.tup (rs.map Rule.d)).lf = true := by rw [lf_tup]; exact lfAll_rules rs
    simp only [getE_1, getE_dat, rb_ok, this, Bool.true_or, if_true]
    rfl
  rw [seqS_nx (by simp only [forS_ap, hit, rb_ok]; exact h1)]
  rw [enumD_len, List.length_map]
  have hs : sortDct 2 [.dat (.str t), .dat (.tup (rs.map Rule.d)), .dct (accK t rs rs.length), x3, x4, x5, x6, x7, .un] = .ok (((marksD t rs).mergeSort leK).map key3) := by
    unfold sortDct
    simp only [List.getElem?_cons_succ, List.getElem?_cons_zero]
    rw [if_pos (okSortD ht hr), sort_keys]
  have hperm := List.mergeSort_perm (marksD t rs) leK
  have hln : (marksD t rs).length ≤ 4000 := by
    have := accM_len t rs rs.length
    have : rs.length * t.length ≤ 4 * 1000 := Nat.mul_le_mul hr ht
    unfold marksD
    omega
  have hc : compF [8] (itF asLst (mkL (sortDct 2))) (.nm 8) yesF (bopF addO (getE 8) (tupF (consF (dgetF 2 (getE 8)) nilF))) [.dat (.str t), .dat (.tup (rs.map Rule.d)), .dct (accK t rs rs.length), x3, x4, x5, x6, x7, .un] = .ok ((marksD t rs).mergeSort leK) := by
    let look : D → D := fun d => match keysO d with
      | some k => .tup (k.map keyD1 ++ [(getK (accK t rs rs.length) k).getD .non])
      | none => .non
    have hlook : ∀ m ∈ (marksD t rs).mergeSort leK, ∃ p ∈ accK t rs rs.length, (∃ n f, p = kv n f) ∧ m = toMark p ∧ keysO (key3 m) = some p.1 ∧ look (key3 m) = m := fun m hm => by
      have hm2 : m ∈ marksD t rs := hperm.mem_iff.mp hm
      unfold marksD at hm2
      rw [← accK_marks] at hm2
      obtain ⟨p, hp, rfl⟩ := List.mem_map.mp hm2
      obtain ⟨n, f, r, e, _⟩ := accK_mem hp
      have hk : keysO (key3 (toMark p)) = some p.1 := by subst e; rfl
      refine ⟨p, hp, ⟨n, f, e⟩, rfl, hk, ?_⟩
      simp only [look, hk]
      rw [getK_of hp (accK_nodup t rs _)]
      rfl
    have e1 : (marksD t rs).mergeSort leK = (((marksD t rs).mergeSort leK).map key3).map look := by
      rw [List.map_map]
      conv => lhs; rw [← List.map_id ((marksD t rs).mergeSort leK)]
      apply List.map_congr_left
      intro m hm
      obtain ⟨p, _, _, _, _, hl⟩ := hlook m hm
      exact hl.symm
    conv => rhs; rw [e1]
    refine compF_ok (items := ((marksD t rs).mergeSort leK).map key3) (by rw [itF_ap, mkL_ap, hs]; rfl) (le_sz (by rw [List.length_map, hperm.length_eq]; omega)) (lcF_map fun d hd => ?_)
    obtain ⟨m, hm, rfl⟩ := List.mem_map.mp hd
    obtain ⟨p, hp, ⟨n, f, e⟩, em, hk, hl⟩ := hlook m hm
    have hlf3 : (key3 m).lf = true := by subst em e; rfl
    refine ⟨[.dat (.str t), .dat (.tup (rs.map Rule.d)), .dct (accK t rs rs.length), x3, x4, x5, x6, x7, .dat (key3 m)], by simp only [wipeE_cons, wipeE_nil, List.set]; rw [setT_nm, setN_lf hlf3]; rfl, ?_, ?_⟩
    · rw [hl]
      have hg : getE 8 [.dat (.str t), .dat (.tup (rs.map Rule.d)), .dct (accK t rs rs.length), x3, x4, x5, x6, x7, .dat (key3 m)] = .ok (key3 m) := by simp [getE]
      have hdg : dgetF 2 (getE 8) [.dat (.str t), .dat (.tup (rs.map Rule.d)), .dct (accK t rs rs.length), x3, x4, x5, x6, x7, .dat (key3 m)] = .ok p.2 := by
        unfold dgetF
        simp only [List.getElem?_cons_succ, List.getElem?_cons_zero, hg, rb_ok, hk]
        rw [getK_of hp (accK_nodup t rs _)]
        rfl
      have htp : tupF (consF (dgetF 2 (getE 8)) nilF) [.dat (.str t), .dat (.tup (rs.map Rule.d)), .dct (accK t rs rs.length), x3, x4, x5, x6, x7, .dat (key3 m)] = .ok (.tup [p.2]) := by
        simp only [tupF_ap, consF_ap, hdg, rb_ok, nilF_ap, List.length_cons, List.length_nil]
        exact ofO_le (by omega)
      refine bop_ok hg htp ?_
      subst em e
      exact addO_tt (a := [.int (f.b : Nat), .int (f.e : Nat), .int (n : Nat)]) (b := [mD f.m]) (le_sz (by simp))
    · rw [hl]
      subst em e
      exact mk_lf n f
  simp only [retS_ap, callF_ap, consF_ap, mkL_ap, hc, rb_ok, nilF_ap, tupleO_lst, ofO_some]
end FM

set_option Elab.async false
set_option linter.all false
set_option maxRecDepth 100000
/-! D02: the same data. -/
namespace FM
open PySem PyProof.Rows L2
/-- data that the laws compare: no lists, not deeper than n -/
def flatD : Nat → D → Prop
  | _, .non => True
  | _, .bl _ => True
  | _, .int _ => True
  | _, .str _ => True
  | _, .lst _ => False
  | 0, .tup _ => False
  | n + 1, .tup ds => ds.length ≤ 1000000 ∧ ∀ d ∈ ds, flatD n d
theorem flatD_lf : ∀ (n : Nat) (d : D), flatD n d → d.lf = true
  | n, .non, _ => by simp
  | n, .bl _, _ => by simp
  | n, .int _, _ => by simp
  | n, .str _, _ => by simp
  | n, .lst _, h => by cases n <;> simp [flatD] at h
  | 0, .tup _, h => by simp [flatD] at h
  | n + 1, .tup ds, h => by
    rw [lf_tup, lfAll_iff]
    intro d hd
    exact flatD_lf n d (h.2 d hd)
theorem flatD_mono : ∀ (n : Nat) (d : D), flatD n d → flatD (n + 1) d
  | n, .non, _ => by simp [flatD]
  | n, .bl _, _ => by simp [flatD]
  | n, .int _, _ => by simp [flatD]
  | n, .str _, _ => by simp [flatD]
  | n, .lst _, h => by cases n <;> simp [flatD] at h
  | 0, .tup _, h => by simp [flatD] at h
  | n + 1, .tup ds, h => ⟨h.1, fun d hd => flatD_mono n d (h.2 d hd)⟩
theorem f_same : ∀ (n : Nat) (d : D), flatD n d → f_law_same (n + 1) [d, d] = .ok (.bl true)
  | n, .non, _ => by
    unfold f_law_same runD B_law_same
    simp [seqS_ap, isiO, isO, isB]
  | n, .bl b, _ => by
    unfold f_law_same runD B_law_same
    simp [seqS_ap, isiO, isO, isB, andV, isBl, eqO, eqB, scalD, eqv]
  | n, .int i, _ => by
    unfold f_law_same runD B_law_same
    simp [seqS_ap, isiO, isO, isB, andV, isBl, isiIS]
  | n, .str l, _ => by
    unfold f_law_same runD B_law_same
    simp [seqS_ap, isiO, isO, isB, andV, isBl, isiIS]
  | n, .lst _, h => by cases n <;> simp [flatD] at h
  | 0, .tup _, h => by simp [flatD] at h
  | n + 1, .tup ds, h => by
    have hc : compF [2, 3] (itF asZip (consF (getE 0) (consF (getE 1) nilF))) (.tp [(.nm 2), (.nm 3)]) yesF (fnF 2 (f_law_same (n + 1)) (consF (getE 2) (consF (getE 3) nilF))) [.dat (.tup ds), .dat (.tup ds), .un, .un] = .ok ((zipD ds ds).map fun _ => .bl true) := by
      refine compF_ok (items := zipD ds ds) (by simp [itF_ap]; rfl) (le_sz (by simp [zipD]; exact h.1)) (lcF_map fun d hd => ?_)
      obtain ⟨i, hi⟩ := List.mem_iff_getElem?.mp hd
      obtain ⟨x, y, h1, h2, rfl⟩ := zipD_get hi
      rw [h1] at h2
      cases h2
      have hx : flatD n x := h.2 x (List.mem_of_getElem? h1)
      refine ⟨[.dat (.tup ds), .dat (.tup ds), .dat x, .dat x], by simp [setT, setTs, setN, flatD_lf n x hx], ?_, rfl⟩
      exact fn_ok (cons_ok (by simp) (cons_ok (by simp) rfl)) rfl (f_same n x hx)
    show runD 4 (B_law_same (f_law_same (n + 1))) [.tup ds, .tup ds] = _
    unfold runD B_law_same
    have e0 : initE 4 [.tup ds, .tup ds] = [.dat (.tup ds), .dat (.tup ds), .un, .un] := rfl
    rw [e0]
    have ha : callF allO (consF (mkL (compF [2, 3] (itF asZip (consF (getE 0) (consF (getE 1) nilF))) (.tp [(.nm 2), (.nm 3)]) yesF (fnF 2 (f_law_same (n + 1)) (consF (getE 2) (consF (getE 3) nilF))))) nilF) [.dat (.tup ds), .dat (.tup ds), .un, .un] = .ok (.bl true) := by
      simp only [callF_ap, consF_ap, mkL_ap, hc, rb_ok, nilF_ap, allO, blsO_map (fun _ : D => true)]
      simp
    rw [seqS_rt (d := .bl true)]
    · rw [ifS_yes (by simp [isiO])]
      rw [seqS_nx (e1 := [.dat (.tup ds), .dat (.tup ds), .un, .un]) (by rw [ifS_no (by simp [isiO])]; rfl)]
      rw [retS_ap, ha, rb_ok]
end FM

set_option Elab.async false
set_option linter.all false
set_option maxRecDepth 100000
namespace FM
open PySem PySem.Spec PyProof.Rows L2
/-- all_marks -/
noncomputable def B_all_marksP : En → Res Fl := (seqS (asgO 2 (lstF nilF))
  (seqS (forS (lfG enumTup (getE 1)) (.tp [(.nm 3), (.nm 4)])
    (extS 2 (compF [5, 6, 7] (itF asLst (mkL (fnF 2 f_faults_of (consF (getE 0) (consF (getE 4) nilF))))) (.tp [(.nm 5), (.nm 6), (.nm 7)]) yesF (tupF (consF (getE 5) (consF (getE 6) (consF (getE 3) (consF (getE 7) nilF))))))))
  (retP (uopN sortK (getE 2)))))
noncomputable def f_all_marksP : List D → Res (List D) := runP 8 B_all_marksP
/-- must_fit -/
noncomputable def B_must_fit : En → Res Fl := (ifS (notF (tstF (ch3F leO leO leO (cD (.int 0)) (bopF ixO (getE 1) (cD (.int 0))) (bopF ixO (getE 1) (cD (.int 1))) (callF lenO (consF (getE 0) nilF))))) (excS 0) nilS)
noncomputable def f_must_fit : List D → Res D := runX 2 B_must_fit
/-- edited -/
noncomputable def B_edited : En → Res Fl := (seqS (exprS (fnX 2 f_must_fit (consF (getE 0) (consF (getE 1) nilF))))
  (retS (bopF addO (bopF addO (slF slO (getE 0) noP (soP (bopF ixO (getE 1) (cD (.int 0))))) (bopF ixO (getE 1) (cD (.int 2)))) (slF slO (getE 0) (soP (bopF ixO (getE 1) (cD (.int 1)))) noP))))
noncomputable def f_edited : List D → Res D := runX 2 B_edited
/-- back_edit -/
noncomputable def B_back_edit : En → Res Fl := (seqS (exprS (fnX 2 f_must_fit (consF (getE 0) (consF (getE 1) nilF))))
  (retS (tupF (consF (bopF ixO (getE 1) (cD (.int 0))) (consF (bopF addO (bopF ixO (getE 1) (cD (.int 0))) (callF lenO (consF (bopF ixO (getE 1) (cD (.int 2))) nilF))) (consF (slF slO (getE 0) (soP (bopF ixO (getE 1) (cD (.int 0)))) (soP (bopF ixO (getE 1) (cD (.int 1))))) nilF))))))
noncomputable def f_back_edit : List D → Res D := runX 2 B_back_edit
/-- led_mark -/
noncomputable def B_led_mark : En → Res Fl := (seqS (asgS (.tp [(.nm 2), (.nm 3), (.nm 4)]) (getE 1))
  (seqS (ifS (tstF (bopF leO (bopF ixO (getE 0) (cD (.int 1))) (getE 2))) (retS (getE 0)) nilS)
  (seqS (ifS (tstF (bopF geO (bopF ixO (getE 0) (cD (.int 0))) (getE 3))) (seqS (asgS (.nm 5) (bopF subI (callF lenO (consF (getE 4) nilF)) (bopF subI (getE 3) (getE 2))))
  (retS (bopF addO (tupF (consF (bopF addO (bopF ixO (getE 0) (cD (.int 0))) (getE 5)) (consF (bopF addO (bopF ixO (getE 0) (cD (.int 1))) (getE 5)) nilF))) (slF slO (getE 0) (soP (cD (.int 2))) noP)))) nilS)
  (retS (cD .non)))))
noncomputable def f_led_mark : List D → Res D := runD 6 B_led_mark
/-- same_marks -/
noncomputable def B_same_marks : En → Res Fl := (seqS (asgP 3 (fnF 2 f_all_marksP (consF (fnX 2 f_edited (consF (getE 0) (consF (getE 2) nilF))) (consF (getE 1) nilF))))
  (seqS (asgO 4 (lstF nilF))
  (seqS (forS (lfG enumTup (fnF 2 f_all_marks (consF (getE 0) (consF (getE 1) nilF)))) (.tp [(.nm 5), (.nm 6)])
    (seqS (asgS (.nm 7) (fnF 2 f_led_mark (consF (getE 6) (consF (getE 2) nilF))))
  (ifS (andF (tstF (bopF isnO (getE 7) (cD .non))) (tstF (bopF inO (getE 7) (getE 3)))) (appS 4 (tupF (consF (getE 5) (consF (ixP 3 (getE 7)) nilF)))) nilS)))
  (retS (callF tupleO (consF (getE 4) nilF))))))
noncomputable def f_same_marks : List D → Res D := runX 8 B_same_marks
/-- _law_edit -/
noncomputable def B_law_edit : En → Res Fl := (seqS (asgS (.nm 2) (fnF 3 f_law_mix (consF (getE 0) (consF (cD (.int 9851)) (consF (bopF addO (callF lenO (consF (getE 1) nilF)) (cD (.int 1))) nilF)))))
  (seqS (asgS (.nm 3) (bopF addO (getE 2) (fnF 3 f_law_mix (consF (getE 0) (consF (cD (.int 9839)) (consF (bopF addO (callF minO (consF (cD (.int 9)) (consF (bopF subI (callF lenO (consF (getE 1) nilF)) (getE 2)) nilF))) (cD (.int 1))) nilF))))))
  (seqS (ifS (tstF (bopF eqO (fnF 3 f_law_mix (consF (getE 0) (consF (cD (.int 9833)) (consF (cD (.int 7)) nilF)))) (cD (.int 0)))) (asgS (.tp [(.nm 2), (.nm 3)]) (bopF ixO (tupF (consF (tupF (consF (bopF addO (getE 3) (cD (.int 1))) (consF (getE 2) nilF))) (consF (tupF (consF (uopF negI (cD (.int 1))) (consF (cD (.int 0)) nilF))) (consF (tupF (consF (cD (.int 0)) (consF (bopF addO (callF lenO (consF (getE 1) nilF)) (cD (.int 1))) nilF))) (consF (tupF (consF (bopF addO (callF lenO (consF (getE 1) nilF)) (cD (.int 1))) (consF (bopF addO (callF lenO (consF (getE 1) nilF)) (cD (.int 1))) nilF))) nilF))))) (bopF modI (getE 0) (cD (.int 4))))) nilS)
  (seqS (asgS (.nm 4) (bopF ixO (tupF (consF (cD (.str [])) (consF (cD (.str [])) (consF (cD (.str [32])) (consF (cD (.str [97])) (consF (cD (.str [46])) (consF (cD (.str wTheB)) (consF (cD (.str wBTeh)) (consF (slF slO (fnF 1 f_law_text (consF (bopF addO (getE 0) (cD (.int 1))) nilF)) noP (soP (cD (.int 8)))) nilF))))))))) (fnF 3 f_law_mix (consF (getE 0) (consF (cD (.int 9829)) (consF (cD (.int 8)) nilF))))))
  (retS (tupF (consF (getE 2) (consF (getE 3) (consF (getE 4) nilF)))))))))
noncomputable def f_law_edit : List D → Res D := runD 5 B_law_edit
end FM

set_option Elab.async false
set_option linter.all false
set_option maxRecDepth 100000
/-! O04: edits: must_fit, edited, back_edit, led_mark, same_marks, the law's drawn edits. -/
namespace FM
open PySem PyProof.Rows L2
theorem fnX_ok {α : Type} {n : Nat} {g : List D → Res α} {f : En → Res (List D)} {e : En} {ds : List D} (h1 : f e = .ok ds) (h2 : ds.length = n) : fnX n g f e = g ds := by rw [fnX_ap, h1, rb_ok, if_pos h2]
theorem f_marksT {t : List Nat} {rs : List Rule} (ht : t.length ≤ 1000) (ha : t.all (· < 128) = true) (hr : rs.length ≤ 4) : f_all_marks [.str t, .tup (rs.map Rule.d)] = .ok (.tup ((ms t rs).map mkP)) := by
  refine (f_marks ht ha hr).trans ?_
  rw [← sorted_ms]; rfl
def edD (b e : Int) (x : List Nat) : D := .tup [.int b, .int e, .str x]
theorem edD_lf (b e : Int) (x : List Nat) : (edD b e x).lf = true := rfl
section
variable {b e : Int} {x : List Nat}
theorem ed_0 : ixO (edD b e x) (.int 0) = some (.int b) := rfl
theorem ed_1 : ixO (edD b e x) (.int 1) = some (.int e) := atI_n (i := 1) rfl
theorem ed_2 : ixO (edD b e x) (.int 2) = some (.str x) := atI_n (i := 2) rfl
end
/-- whether there is such a spot -/
def fits (n : Nat) (b e : Int) : Bool := decide (0 ≤ b) && (decide (b ≤ e) && decide (e ≤ (n : Nat)))
theorem fit_tst {t : List Nat} {b e : Int} {ft fe : En → Res D} {en : En} {x : List Nat} (ht : t.length ≤ 1000) (h1 : ft en = .ok (.str t)) (h2 : fe en = .ok (edD b e x)) :
    tstF (ch3F leO leO leO (cD (.int 0)) (bopF ixO fe (cD (.int 0))) (bopF ixO fe (cD (.int 1))) (callF lenO (consF ft nilF))) en = .ok (fits t.length b e) := by
  have g0 : bopF ixO fe (cD (.int 0)) en = .ok (.int b) := bop_ok h2 rfl ed_0
  have g1 : bopF ixO fe (cD (.int 1)) en = .ok (.int e) := bop_ok h2 rfl ed_1
  have g2 : callF lenO (consF ft nilF) en = .ok (.int (t.length : Nat)) := by rw [callF_ap, cons_ok h1 rfl, rb_ok, len_str ht]; rfl
  unfold tstF ch3F fits
  rw [g0, g1, g2]
  simp only [cD_ap, rb_ok, leO_ii, ofO_some, isBl]
  by_cases h : (0 : Int) ≤ b
  · by_cases h' : b ≤ e
    · simp [h, h']
    · simp [h, h']
  · simp [h]
theorem f_fit {t x : List Nat} {b e : Int} (ht : t.length ≤ 1000) : f_must_fit [.str t, edD b e x] = if fits t.length b e then .ok .non else .exc 0 := by
  unfold f_must_fit runX B_must_fit
  have e0 : initE 2 [.str t, edD b e x] = [.dat (.str t), .dat (edD b e x)] := rfl
  have h := fit_tst (en := [.dat (.str t), .dat (edD b e x)]) (ft := getE 0) (fe := getE 1) (b := b) (e := e) (x := x) ht rfl rfl
  rw [e0]
  cases hf : fits t.length b e with
  | true =>
    rw [hf] at h
    have hn : notF (tstF (ch3F leO leO leO (cD (.int 0)) (bopF ixO (getE 1) (cD (.int 0))) (bopF ixO (getE 1) (cD (.int 1))) (callF lenO (consF (getE 0) nilF)))) [.dat (.str t), .dat (edD b e x)] = .ok false := by rw [notF_ap, h]; rfl
    rw [ifS_no hn]; rfl
  | false =>
    rw [hf] at h
    have hn : notF (tstF (ch3F leO leO leO (cD (.int 0)) (bopF ixO (getE 1) (cD (.int 0))) (bopF ixO (getE 1) (cD (.int 1))) (callF lenO (consF (getE 0) nilF)))) [.dat (.str t), .dat (edD b e x)] = .ok true := by rw [notF_ap, h]; rfl
    rw [ifS_yes hn]; rfl
theorem fits_nat {n : Nat} {b e : Int} (h : fits n b e = true) : ∃ b' e' : Nat, b = (b' : Nat) ∧ e = (e' : Nat) ∧ b' ≤ e' ∧ e' ≤ n := by
  simp only [fits, Bool.and_eq_true, decide_eq_true_eq] at h
  exact ⟨b.toNat, e.toNat, by omega, by omega, by omega, by omega⟩
theorem fits_of {n b e : Nat} (h1 : b ≤ e) (h2 : e ≤ n) : fits n (b : Nat) (e : Nat) = true := by
  simp only [fits, Bool.and_eq_true, decide_eq_true_eq]; omega
theorem f_ed {t x : List Nat} {b e : Nat} (ht : t.length ≤ 1000) (hx : x.length ≤ 1000) (h1 : b ≤ e) (h2 : e ≤ t.length) : f_edited [.str t, edD b e x] = .ok (.str (spl t b e x)) := by
  unfold f_edited runX B_edited
  have e0 : initE 2 [.str t, edD b e x] = [.dat (.str t), .dat (edD b e x)] := rfl
  have hm : fnX 2 f_must_fit (consF (getE 0) (consF (getE 1) nilF)) [.dat (.str t), .dat (edD b e x)] = .ok .non := by
    refine (fnX_ok (n := 2) (ds := [.str t, edD b e x]) (cons_ok rfl (cons_ok rfl rfl)) rfl).trans ?_
    rw [f_fit ht, fits_of h1 h2]; rfl
  rw [e0, seqS_nx (by rw [exprS_ap, hm]; rfl)]
  rw [retS_ap, spl_run (t := t) (m := x) (b := b) (c := e) rfl (bop_ok rfl rfl ed_0) (bop_ok (x := edD b e x) (y := .int 2) rfl rfl ed_2) (bop_ok rfl rfl ed_1) (by omega) (by omega)]
  rfl
theorem f_ed_no {t x : List Nat} {b e : Int} (ht : t.length ≤ 1000) (h : fits t.length b e = false) : f_edited [.str t, edD b e x] = .exc 0 := by
  unfold f_edited runX B_edited
  have e0 : initE 2 [.str t, edD b e x] = [.dat (.str t), .dat (edD b e x)] := rfl
  have hm : fnX 2 f_must_fit (consF (getE 0) (consF (getE 1) nilF)) [.dat (.str t), .dat (edD b e x)] = .exc 0 := by
    refine (fnX_ok (n := 2) (ds := [.str t, edD b e x]) (cons_ok rfl (cons_ok rfl rfl)) rfl).trans ?_
    rw [f_fit ht, h]; rfl
  rw [e0, seqS_ap, exprS_ap, hm]
  rfl
theorem f_back {t x : List Nat} {b e : Nat} (ht : t.length ≤ 1000) (hx : x.length ≤ 1000) (h1 : b ≤ e) (h2 : e ≤ t.length) : f_back_edit [.str t, edD b e x] = .ok (edD b (b + x.length : Nat) (cut t b e)) := by
  unfold f_back_edit runX B_back_edit
  have e0 : initE 2 [.str t, edD b e x] = [.dat (.str t), .dat (edD b e x)] := rfl
  have hm : fnX 2 f_must_fit (consF (getE 0) (consF (getE 1) nilF)) [.dat (.str t), .dat (edD b e x)] = .ok .non := by
    refine (fnX_ok (n := 2) (ds := [.str t, edD b e x]) (cons_ok rfl (cons_ok rfl rfl)) rfl).trans ?_
    rw [f_fit ht, fits_of h1 h2]; rfl
  rw [e0, seqS_nx (by rw [exprS_ap, hm]; rfl)]
  have l1 : callF lenO (consF (bopF ixO (getE 1) (cD (.int 2))) nilF) [.dat (.str t), .dat (edD b e x)] = .ok (.int (x.length : Nat)) := by
    rw [callF_ap, cons_ok (bop_ok rfl rfl ed_2) rfl, rb_ok, len_str hx]; rfl
  have l2 : bopF addO (bopF ixO (getE 1) (cD (.int 0))) (callF lenO (consF (bopF ixO (getE 1) (cD (.int 2))) nilF)) [.dat (.str t), .dat (edD b e x)] = .ok (.int ((b + x.length : Nat) : Int)) := bop_ok (bop_ok rfl rfl ed_0) l1 (by rw [addO_ii]; simp)
  have l3 : slF slO (getE 0) (soP (bopF ixO (getE 1) (cD (.int 0)))) (soP (bopF ixO (getE 1) (cD (.int 1)))) [.dat (.str t), .dat (edD b e x)] = .ok (.str (cut t b e)) := sl_cut ht h1 h2 rfl (soP_ok (bop_ok rfl rfl ed_0)) (soP_ok (bop_ok rfl rfl ed_1))
  rw [retS_ap, tup3 (a := .int (b : Nat)) (bop_ok rfl rfl ed_0) l2 l3]
  rfl
theorem f_back_no {t x : List Nat} {b e : Int} (ht : t.length ≤ 1000) (h : fits t.length b e = false) : f_back_edit [.str t, edD b e x] = .exc 0 := by
  unfold f_back_edit runX B_back_edit
  have e0 : initE 2 [.str t, edD b e x] = [.dat (.str t), .dat (edD b e x)] := rfl
  have hm : fnX 2 f_must_fit (consF (getE 0) (consF (getE 1) nilF)) [.dat (.str t), .dat (edD b e x)] = .exc 0 := by
    refine (fnX_ok (n := 2) (ds := [.str t, edD b e x]) (cons_ok rfl (cons_ok rfl rfl)) rfl).trans ?_
    rw [f_fit ht, h]; rfl
  rw [e0, seqS_ap, exprS_ap, hm]
  rfl
/-! ### where marks are led -/
def led (b e : Nat) (x : List Nat) (f : Flt) : Option Flt := if f.e ≤ b then some f else if e ≤ f.b then some ⟨f.b - e + b + x.length, f.e - e + b + x.length, f.m⟩ else none
def ledD (n : Nat) : Option Flt → D
  | some f => mk n f
  | none => .non
theorem ledD_lf (n : Nat) (o : Option Flt) : (ledD n o).lf = true := by cases o <;> simp [ledD, mk_lf]
theorem cut2 (a b c d : D) : cutL [a, b, c, d] (some 2) none = [c, d] := by
  have h1 : HT.sIx 4 0 (some 2) = 2 := by
    have := HT.sIx_nat 4 0 2
    exact this
  unfold cutL
  simp only [List.length_cons, List.length_nil]
  rw [h1, HT.sIx_none]
  rfl
theorem f_led {n : Nat} {f : Flt} {b e : Nat} {x : List Nat} (hx : x.length ≤ 1000) (hbe : b ≤ e) (hf : f.b ≤ f.e) : f_led_mark [mk n f, edD b e x] = .ok (ledD n (led b e x f)) := by
  unfold f_led_mark runD B_led_mark
  have e0 : initE 6 [mk n f, edD b e x] = [.dat (mk n f), .dat (edD b e x), .un, .un, .un, .un] := rfl
  have s1 : asgS (.tp [(.nm 2), (.nm 3), (.nm 4)]) (getE 1) [.dat (mk n f), .dat (edD b e x), .un, .un, .un, .un] = .ok (.nx [.dat (mk n f), .dat (edD b e x), .dat (.int (b : Nat)), .dat (.int (e : Nat)), .dat (.str x), .un]) := by
    rw [asgS_ap, show getE 1 [.dat (mk n f), .dat (edD b e x), .un, .un, .un, .un] = .ok (edD b e x) from rfl, rb_ok]
    simp [edD, setT, setTs, setN]
  rw [e0, seqS_nx s1]
  have t1 : tstF (bopF leO (bopF ixO (getE 0) (cD (.int 1))) (getE 2)) [.dat (mk n f), .dat (edD b e x), .dat (.int (b : Nat)), .dat (.int (e : Nat)), .dat (.str x), .un] = .ok (decide (f.e ≤ b)) := by
    refine (tst_bop (bop_ok rfl rfl mk_1) rfl leO_ii).trans ?_
    congr 1
    rw [Bool.eq_iff_iff, decide_eq_true_eq, decide_eq_true_eq]; omega
  by_cases h1 : f.e ≤ b
  · rw [decide_eq_true h1] at t1
    rw [seqS_rt (d := mk n f) (by rw [ifS_yes t1]; rfl)]
    simp [led, h1, ledD]
  · rw [decide_eq_false h1] at t1
    rw [seqS_nx (by rw [ifS_no t1]; rfl)]
    have t2 : tstF (bopF geO (bopF ixO (getE 0) (cD (.int 0))) (getE 3)) [.dat (mk n f), .dat (edD b e x), .dat (.int (b : Nat)), .dat (.int (e : Nat)), .dat (.str x), .un] = .ok (decide (e ≤ f.b)) := by
      refine (tst_bop (bop_ok rfl rfl mk_0) rfl geO_ii).trans ?_
      congr 1
      rw [Bool.eq_iff_iff, decide_eq_true_eq, decide_eq_true_eq]; omega
    by_cases h2 : e ≤ f.b
    · rw [decide_eq_true h2] at t2
      have a1 : bopF subI (callF lenO (consF (getE 4) nilF)) (bopF subI (getE 3) (getE 2)) [.dat (mk n f), .dat (edD b e x), .dat (.int (b : Nat)), .dat (.int (e : Nat)), .dat (.str x), .un] = .ok (.int ((x.length : Nat) - ((e : Nat) - (b : Nat)))) := by
        refine bop_ok (x := .int (x.length : Nat)) ?_ (bop_ok rfl rfl subI_ii) subI_ii
        rw [callF_ap, cons_ok (d := .str x) rfl rfl, rb_ok, len_str hx]; rfl
      have a2 : bopF addO (tupF (consF (bopF addO (bopF ixO (getE 0) (cD (.int 0))) (getE 5)) (consF (bopF addO (bopF ixO (getE 0) (cD (.int 1))) (getE 5)) nilF))) (slF slO (getE 0) (soP (cD (.int 2))) noP) [.dat (mk n f), .dat (edD b e x), .dat (.int (b : Nat)), .dat (.int (e : Nat)), .dat (.str x), .dat (.int ((x.length : Nat) - ((e : Nat) - (b : Nat))))] = .ok (ledD n (led b e x f)) := by
        refine bop_ok (tup2 (a := .int ((f.b - e + b + x.length : Nat) : Int)) (b := .int ((f.e - e + b + x.length : Nat) : Int)) (bop_ok (bop_ok rfl rfl mk_0) rfl (by rw [addO_ii]; congr 2; omega)) (bop_ok (bop_ok rfl rfl mk_1) rfl (by rw [addO_ii]; congr 2; omega))) (y := .tup [.int (n : Nat), mD f.m]) ?_ ?_
        · rw [slF_ap, show getE 0 [.dat (mk n f), .dat (edD b e x), .dat (.int (b : Nat)), .dat (.int (e : Nat)), .dat (.str x), .dat (.int ((x.length : Nat) - ((e : Nat) - (b : Nat))))] = .ok (mk n f) from rfl, rb_ok, soP_ok rfl, rb_ok, noP_ap, rb_ok]
          unfold mk
          rw [slO_tup, cut2]; rfl
        · rw [addO_tt (by rw [slE]; simp)]
          simp [led, h1, h2, ledD, mk]
      rw [seqS_rt (d := ledD n (led b e x f))]
      rw [ifS_yes t2, seqS_nx (asg_lf (d := .int ((x.length : Nat) - ((e : Nat) - (b : Nat)))) rfl a1)]
      simp only [List.set]
      rw [retS_ap, a2]; rfl
    · rw [decide_eq_false h2] at t2
      rw [seqS_nx (by rw [ifS_no t2]; rfl)]
      simp [led, h1, h2, ledD]
/-! ### marks are the same data just when they are the same -/
theorem mk_nb {n : Nat} {f : Flt} : (mk n f).nb = true := by
  cases h : f.m <;> simp [mk, mD, h, D.nb, nbAll]
theorem mk_inj {n m : Nat} {f g : Flt} (h : mk n f = mk m g) : n = m ∧ f = g := by
  unfold mk at h
  injection h with h
  simp only [List.cons.injEq, D.int.injEq, and_true] at h
  obtain ⟨h1, h2, h3, h4⟩ := h
  refine ⟨by omega, ?_⟩
  have e4 : f.m = g.m := by
    cases hf : f.m <;> cases hg : g.m <;> rw [hf, hg] at h4 <;> simp [mD] at h4 ⊢
    exact h4
  obtain ⟨b, e, m⟩ := f
  obtain ⟨b', e', m'⟩ := g
  simp only at h1 h2 e4
  simp only [Flt.mk.injEq]
  exact ⟨by omega, by omega, e4⟩
theorem eqv_mk (p q : Nat × Flt) : eqv (mkP p) (mkP q) = decide (p = q) := by
  rw [Bool.eq_iff_iff, eqv_iff _ _ mk_nb mk_nb, decide_eq_true_eq]
  constructor
  · intro h
    obtain ⟨h1, h2⟩ := mk_inj h
    exact Prod.ext h1 h2
  · rintro rfl; rfl
theorem okN_mkP {p : Nat × Flt} {k : Nat} (h : ∀ c ∈ p.2.m.getD [], isL c = true) : D.okN (k + 1) (mkP p) = true := by
  have hm : D.okN k (mD p.2.m) = true := by
    cases hf : p.2.m with
    | none => simp [mD, D.okN]
    | some m =>
      rw [hf] at h
      cases k <;> (simp only [mD, D.okN, List.all_eq_true, decide_eq_true_eq]; intro c hc; have := isL_lt (h c hc); omega)
  simp only [mkP, mk, D.okN, okAll, hm]
  cases k <;> rfl
theorem okAll_mks {l : List (Nat × Flt)} {k : Nat} (h : ∀ p ∈ l, ∀ c ∈ p.2.m.getD [], isL c = true) : okAll (k + 1) (l.map mkP) = true := by
  rw [okAll_iff]
  intro d hd
  obtain ⟨p, hp, rfl⟩ := List.mem_map.mp hd
  exact okN_mkP (h p hp)
theorem in_mks {l : List (Nat × Flt)} {p : Nat × Flt} (h : ∀ p ∈ l, ∀ c ∈ p.2.m.getD [], isL c = true) (hp : ∀ c ∈ p.2.m.getD [], isL c = true) : inB (mkP p) (.tup (l.map mkP)) = some (decide (p ∈ l)) := by
  have e1 : (D.okN 64 (mkP p) && okAll 63 (l.map mkP)) = true := by rw [okN_mkP (k := 63) hp, okAll_mks (k := 62) h]; rfl
  have e2 : ((l.map mkP).any fun z => eqv z (mkP p)) = decide (p ∈ l) := by
    rw [Bool.eq_iff_iff, decide_eq_true_eq, List.any_eq_true]
    constructor
    · rintro ⟨z, hz, he⟩
      obtain ⟨q, hq, rfl⟩ := List.mem_map.mp hz
      rw [eqv_mk, decide_eq_true_eq] at he
      rw [← he]; exact hq
    · intro hm
      exact ⟨mkP p, List.mem_map.mpr ⟨p, hm, rfl⟩, by rw [eqv_mk]; simp⟩
  show inB (.tup _) (.tup _) = _
  unfold inB
  show (if _ then _ else _) = _
  rw [show (D.tup [.int (p.2.b : Nat), .int (p.2.e : Nat), .int (p.1 : Nat), mD p.2.m]) = mkP p from rfl, e1, e2]
  rfl
theorem in_mksL {l : List (Nat × Flt)} {p : Nat × Flt} (h : ∀ p ∈ l, ∀ c ∈ p.2.m.getD [], isL c = true) (hp : ∀ c ∈ p.2.m.getD [], isL c = true) : inB (mkP p) (.lst (l.map mkP)) = some (decide (p ∈ l)) := by
  have e1 : (D.okN 64 (mkP p) && okAll 63 (l.map mkP)) = true := by rw [okN_mkP (k := 63) hp, okAll_mks (k := 62) h]; rfl
  have e2 : ((l.map mkP).any fun z => eqv z (mkP p)) = decide (p ∈ l) := by
    rw [Bool.eq_iff_iff, decide_eq_true_eq, List.any_eq_true]
    constructor
    · rintro ⟨z, hz, he⟩
      obtain ⟨q, hq, rfl⟩ := List.mem_map.mp hz
      rw [eqv_mk, decide_eq_true_eq] at he
      rw [← he]; exact hq
    · intro hm
      exact ⟨mkP p, List.mem_map.mpr ⟨p, hm, rfl⟩, by rw [eqv_mk]; simp⟩
  show inB (.tup _) (.lst _) = _
  unfold inB
  show (if _ then _ else _) = _
  rw [show (D.tup [.int (p.2.b : Nat), .int (p.2.e : Nat), .int (p.1 : Nat), mD p.2.m]) = mkP p from rfl, e1, e2]
  rfl
theorem idx_mks {p : Nat × Flt} : ∀ {l : List (Nat × Flt)}, p ∈ l → idxN (mkP p) (l.map mkP) = some (l.idxOf p)
  | [], h => by simp at h
  | q :: r, h => by
    simp only [List.map_cons, idxN, eqv_mk, decide_eq_true_eq]
    by_cases e : q = p
    · subst e; simp
    · rw [if_neg e, idx_mks (by rcases List.mem_cons.mp h with h | h; exact absurd h.symm e; exact h)]
      rw [List.idxOf_cons]
      have : (q == p) = false := by simpa using e
      rw [this]; rfl
theorem idxO_mks {l : List (Nat × Flt)} {p : Nat × Flt} (h : ∀ p ∈ l, ∀ c ∈ p.2.m.getD [], isL c = true) (hp : p ∈ l) : idxO (l.map mkP) (mkP p) = some (.int (l.idxOf p : Nat)) := by
  unfold idxO
  rw [okN_mkP (k := 63) (h p hp), okAll_mks (k := 62) h, idx_mks hp]
  rfl
/-! ### pairs of marks that are the same -/
def pairs (b e : Nat) (x : List Nat) (later : List (Nat × Flt)) : Nat → List (Nat × Flt) → List (Nat × Nat)
  | _, [] => []
  | k, p :: r => (match led b e x p.2 with
    | some f => if (p.1, f) ∈ later then [(k, later.idxOf (p.1, f))] else []
    | none => []) ++ pairs b e x later (k + 1) r
def pD (q : Nat × Nat) : D := .tup [.int (q.1 : Nat), .int (q.2 : Nat)]
theorem pairs_len {b e : Nat} {x : List Nat} {later : List (Nat × Flt)} : ∀ (k : Nat) (l : List (Nat × Flt)), (pairs b e x later k l).length ≤ l.length
  | _, [] => by simp [pairs]
  | k, p :: r => by
    have := pairs_len (b := b) (e := e) (x := x) (later := later) (k + 1) r
    simp only [pairs, List.length_append, List.length_cons]
    cases led b e x p.2 with
    | none => simp; omega
    | some f => simp only; split <;> simp <;> omega
theorem led_m {b e : Nat} {x : List Nat} {f g : Flt} (h : led b e x f = some g) : g.m = f.m := by
  unfold led at h
  split at h
  · cases h; rfl
  · split at h
    · cases h; rfl
    · cases h
theorem ext_nx {i : Nat} {g : En → Res (List D)} {e : En} {fl : Fl} (h : extS i g e = .ok fl) : ∃ e', fl = .nx e' := by
  unfold extS at h
  split at h
  · cases hg : g e with
    | bad => rw [hg] at h; cases h
    | exc c => rw [hg] at h; cases h
    | ok ds =>
      rw [hg, rb_ok] at h
      split at h
      · cases h; exact ⟨_, rfl⟩
      · cases h
  · cases h
theorem for_nx {tg : Tg} {B : En → Res Fl} (hB : ∀ e fl, B e = .ok fl → ∃ e', fl = .nx e') : ∀ (l : List D) (e : En) (fl : Fl), forF tg B l e = .ok fl → ∃ e', fl = .nx e'
  | [], e, fl, h => by cases h; exact ⟨e, rfl⟩
  | d :: r, e, fl, h => by
    rw [forF_cons] at h
    cases h1 : setT tg d e with
    | bad => rw [h1] at h; cases h
    | exc c => rw [h1] at h; cases h
    | ok e1 =>
      rw [h1, rb_ok] at h
      cases h2 : B e1 with
      | bad => rw [h2] at h; cases h
      | exc c => rw [h2] at h; cases h
      | ok f2 =>
        rw [h2, rb_ok] at h
        obtain ⟨e2, rfl⟩ := hB _ _ h2
        exact for_nx hB r e2 fl h
theorem fors_nx {fi : En → Res (List D)} {tg : Tg} {B : En → Res Fl} {e : En} {fl : Fl} (hB : ∀ e fl, B e = .ok fl → ∃ e', fl = .nx e') (h : forS fi tg B e = .ok fl) : ∃ e', fl = .nx e' := by
  rw [forS_ap] at h
  cases h1 : fi e with
  | bad => rw [h1] at h; cases h
  | exc c => rw [h1] at h; cases h
  | ok l => rw [h1, rb_ok] at h; exact for_nx hB l e fl h
theorem f_marksP {t : List Nat} {rs : List Rule} (ht : t.length ≤ 1000) (ha : t.all (· < 128) = true) (hr : rs.length ≤ 4) : f_all_marksP [.str t, .tup (rs.map Rule.d)] = .ok ((ms t rs).map mkP) := by
  have h := f_marksT ht ha hr
  unfold f_all_marks runD B_all_marks at h
  unfold f_all_marksP runP B_all_marksP
  revert h
  rw [show initE 8 [.str t, .tup (rs.map Rule.d)] = [.dat (.str t), .dat (.tup (rs.map Rule.d)), .un, .un, .un, .un, .un, .un] from rfl, seqS_nx asgO_nil, seqS_nx asgO_nil]
  simp only [List.set, seqS_ap]
  cases hfor : forS (lfG enumTup (getE 1)) (.tp [(.nm 3), (.nm 4)]) (extS 2 (compF [5, 6, 7] (itF asLst (mkL (fnF 2 f_faults_of (consF (getE 0) (consF (getE 4) nilF))))) (.tp [(.nm 5), (.nm 6), (.nm 7)]) yesF (tupF (consF (getE 5) (consF (getE 6) (consF (getE 3) (consF (getE 7) nilF)))))))
      [.dat (.str t), .dat (.tup (rs.map Rule.d)), .own [], .un, .un, .un, .un, .un] with
  | bad => intro h; cases h
  | exc c => intro h; cases h
  | ok fl =>
    obtain ⟨e1, rfl⟩ := fors_nx (fun _ _ h => ext_nx h) hfor
    · simp only [rb_ok, retS_ap, retP_ap, callF_ap, consF_ap, mkL_ap, nilF_ap]
      cases uopN sortK (getE 2) e1 with
      | bad => intro h; cases h
      | exc c => intro h; cases h
      | ok xs =>
        simp only [rb_ok, tupleO_lst, ofO_some]
        intro h
        injection h with h
        injection h with h
        rw [h]
noncomputable def bSm : En → Res Fl := (seqS (asgS (.nm 7) (fnF 2 f_led_mark (consF (getE 6) (consF (getE 2) nilF))))
  (ifS (andF (tstF (bopF isnO (getE 7) (cD .non))) (tstF (bopF inO (getE 7) (getE 3)))) (appS 4 (tupF (consF (getE 5) (consF (ixP 3 (getE 7)) nilF)))) nilS))
theorem isn_led {n : Nat} {o : Option Flt} : isnO (ledD n o) .non = some (.bl o.isSome) := by cases o <;> rfl
theorem sm_run {t : List Nat} {R : D} {b e : Nat} {x : List Nat} {later : List (Nat × Flt)} (hx : x.length ≤ 1000) (hbe : b ≤ e) (hl : ∀ p ∈ later, ∀ c ∈ p.2.m.getD [], isL c = true) : ∀ (l : List (Nat × Flt)) (k : Nat) (fd : List (Nat × Nat)) (x5 x6 x7 : Sl), (∀ p ∈ l, p.2.b ≤ p.2.e ∧ ∀ c ∈ p.2.m.getD [], isL c = true) → fd.length + l.length ≤ 500000 → ∃ y5 y6 y7,
    forF (.tp [.nm 5, .nm 6]) bSm ((l.zipIdx k).map fun q => .tup [.int (q.2 : Nat), mkP q.1]) [.dat (.str t), .dat R, .dat (edD b e x), .ptp (later.map mkP), .own (fd.map pD), x5, x6, x7] =
      .ok (.nx [.dat (.str t), .dat R, .dat (edD b e x), .ptp (later.map mkP), .own ((fd ++ pairs b e x later k l).map pD), y5, y6, y7])
  | [], k, fd, x5, x6, x7, _, _ => ⟨x5, x6, x7, by simp [forF, pairs]⟩
  | p :: r, k, fd, x5, x6, x7, hp, hlen => by
    simp only [List.length_cons] at hlen
    obtain ⟨hp1, hp2⟩ := hp p (by simp)
    have hs : setT (.tp [.nm 5, .nm 6]) (.tup [.int (k : Nat), mkP p]) [.dat (.str t), .dat R, .dat (edD b e x), .ptp (later.map mkP), .own (fd.map pD), x5, x6, x7] = .ok [.dat (.str t), .dat R, .dat (edD b e x), .ptp (later.map mkP), .own (fd.map pD), .dat (.int (k : Nat)), .dat (mkP p), x7] := by
      simp [setT, setTs, setN, mk_lf]
    have h7 : fnF 2 f_led_mark (consF (getE 6) (consF (getE 2) nilF)) [.dat (.str t), .dat R, .dat (edD b e x), .ptp (later.map mkP), .own (fd.map pD), .dat (.int (k : Nat)), .dat (mkP p), x7] = .ok (ledD p.1 (led b e x p.2)) :=
      fn_ok (n := 2) (ds := [mkP p, edD b e x]) (cons_ok rfl (cons_ok rfl rfl)) rfl (f_led hx hbe hp1)
    -- one turn
    have turn : bSm [.dat (.str t), .dat R, .dat (edD b e x), .ptp (later.map mkP), .own (fd.map pD), .dat (.int (k : Nat)), .dat (mkP p), x7] =
        .ok (.nx [.dat (.str t), .dat R, .dat (edD b e x), .ptp (later.map mkP), .own ((fd ++ (match led b e x p.2 with | some f => if (p.1, f) ∈ later then [(k, later.idxOf (p.1, f))] else [] | none => [])).map pD), .dat (.int (k : Nat)), .dat (mkP p), .dat (ledD p.1 (led b e x p.2))]) := by
      unfold bSm
      rw [seqS_nx (asg_lf (ledD_lf _ _) h7)]
      simp only [List.set]
      have t1 : tstF (bopF isnO (getE 7) (cD .non)) [.dat (.str t), .dat R, .dat (edD b e x), .ptp (later.map mkP), .own (fd.map pD), .dat (.int (k : Nat)), .dat (mkP p), .dat (ledD p.1 (led b e x p.2))] = .ok (led b e x p.2).isSome := tst_bop rfl rfl isn_led
      cases hq : led b e x p.2 with
      | none =>
        rw [hq] at t1
        rw [ifS_no (by rw [andF_ap, t1]; rfl)]
        simp
      | some f =>
        rw [hq] at t1
        have hm := led_m hq
        have hfl : ∀ c ∈ (p.1, f).2.m.getD [], isL c = true := by simp only [hm]; exact hp2
        have t2 : tstF (bopF inO (getE 7) (getE 3)) [.dat (.str t), .dat R, .dat (edD b e x), .ptp (later.map mkP), .own (fd.map pD), .dat (.int (k : Nat)), .dat (mkP p), .dat (ledD p.1 (some f))] = .ok (decide ((p.1, f) ∈ later)) := by
          refine tst_bop (x := mkP (p.1, f)) (y := .tup (later.map mkP)) rfl rfl ?_
          unfold inO
          rw [in_mks hl hfl]; rfl
        by_cases hin : (p.1, f) ∈ later
        · rw [decide_eq_true hin] at t2
          rw [ifS_yes (by rw [andF_ap, t1, rb_ok, if_pos (show (some f).isSome = true from rfl), t2])]
          have hix : ixP 3 (getE 7) [.dat (.str t), .dat R, .dat (edD b e x), .ptp (later.map mkP), .own (fd.map pD), .dat (.int (k : Nat)), .dat (mkP p), .dat (ledD p.1 (some f))] = .ok (.int (later.idxOf (p.1, f) : Nat)) := by
            unfold ixP
            simp only [List.getElem?_cons_succ, List.getElem?_cons_zero]
            rw [show getE 7 [.dat (.str t), .dat R, .dat (edD b e x), .ptp (later.map mkP), .own (fd.map pD), .dat (.int (k : Nat)), .dat (mkP p), .dat (ledD p.1 (some f))] = .ok (mkP (p.1, f)) from rfl, rb_ok, idxO_mks hl hin]
            rfl
          rw [app_own (i := 4) (xs := fd.map pD) (d := pD (k, later.idxOf (p.1, f))) rfl (tup2 rfl hix) rfl (by simp; omega)]
          simp [hin]
        · rw [decide_eq_false hin] at t2
          rw [ifS_no (by rw [andF_ap, t1, rb_ok, if_pos (show (some f).isSome = true from rfl), t2])]
          simp [hin]
    obtain ⟨y5, y6, y7, ih⟩ := sm_run (t := t) (R := R) hx hbe hl r (k + 1) (fd ++ (match led b e x p.2 with | some f => if (p.1, f) ∈ later then [(k, later.idxOf (p.1, f))] else [] | none => [])) (.dat (.int (k : Nat))) (.dat (mkP p)) (.dat (ledD p.1 (led b e x p.2))) (fun q hq => hp q (by simp [hq])) (by
      rw [List.length_append]
      cases led b e x p.2 with
      | none => simp; omega
      | some f => simp only; split <;> simp <;> omega)
    refine ⟨y5, y6, y7, ?_⟩
    rw [List.zipIdx_cons, List.map_cons, forF_cons, hs, rb_ok, turn, rb_ok, pairs]
    simp only [← List.append_assoc]
    exact ih
theorem enum_mks (l : List (Nat × Flt)) : enumD (l.map mkP) = (l.zipIdx 0).map fun q => .tup [.int (q.2 : Nat), mkP q.1] := by
  unfold enumD
  rw [List.zipIdx_map, List.map_map]
  rfl
theorem f_same_ms {t x : List Nat} {rs : List Rule} {b e : Nat} (ht : t.length ≤ 900) (ha : t.all (· < 128) = true) (hr : rs.length ≤ 4) (ho : ∀ r ∈ rs, r.ok = true) (hx : x.length ≤ 100) (hxa : x.all (· < 128) = true) (h1 : b ≤ e) (h2 : e ≤ t.length) :
    f_same_marks [.str t, .tup (rs.map Rule.d), edD b e x] = .ok (.tup ((pairs b e x (ms (spl t b e x) rs) 0 (ms t rs)).map pD)) := by
  have hsl := spl_len2 (t := t) (m := x) h1
  have hsa : (spl t b e x).all (· < 128) = true := by
    rw [List.all_eq_true] at ha hxa ⊢
    intro c hc
    unfold spl at hc
    rcases List.mem_append.mp hc with h | h
    · exact ha c (List.mem_of_mem_take h)
    · rcases List.mem_append.mp h with h | h
      · exact hxa c h
      · exact ha c (List.mem_of_mem_drop h)
  have hml := ms_len (t := t) (rs := rs) (by omega) hr
  unfold f_same_marks runX
  have hB : B_same_marks = seqS (asgP 3 (fnF 2 f_all_marksP (consF (fnX 2 f_edited (consF (getE 0) (consF (getE 2) nilF))) (consF (getE 1) nilF)))) (seqS (asgO 4 (lstF nilF)) (seqS (forS (lfG enumTup (fnF 2 f_all_marks (consF (getE 0) (consF (getE 1) nilF)))) (.tp [(.nm 5), (.nm 6)]) bSm) (retS (callF tupleO (consF (getE 4) nilF))))) := rfl
  have e0 : initE 8 [.str t, .tup (rs.map Rule.d), edD b e x] = [.dat (.str t), .dat (.tup (rs.map Rule.d)), .dat (edD b e x), .un, .un, .un, .un, .un] := rfl
  have hed : fnX 2 f_edited (consF (getE 0) (consF (getE 2) nilF)) [.dat (.str t), .dat (.tup (rs.map Rule.d)), .dat (edD b e x), .un, .un, .un, .un, .un] = .ok (.str (spl t b e x)) :=
    (fnX_ok (n := 2) (ds := [.str t, edD b e x]) (cons_ok rfl (cons_ok rfl rfl)) rfl).trans (f_ed (by omega) (by omega) h1 h2)
  have hla : fnF 2 f_all_marksP (consF (fnX 2 f_edited (consF (getE 0) (consF (getE 2) nilF))) (consF (getE 1) nilF)) [.dat (.str t), .dat (.tup (rs.map Rule.d)), .dat (edD b e x), .un, .un, .un, .un, .un] = .ok ((ms (spl t b e x) rs).map mkP) :=
    fn_ok (n := 2) (ds := [.str (spl t b e x), .tup (rs.map Rule.d)]) (cons_ok hed (cons_ok rfl rfl)) rfl (f_marksP (by omega) hsa hr)
  rw [hB, e0, seqS_nx (e1 := [.dat (.str t), .dat (.tup (rs.map Rule.d)), .dat (edD b e x), .ptp ((ms (spl t b e x) rs).map mkP), .un, .un, .un, .un]) (by rw [asgP_ap, hla, rb_ok, mkP_lf]; rfl)]
  rw [seqS_nx asgO_nil]
  simp only [List.set]
  obtain ⟨y5, y6, y7, h⟩ := sm_run (t := t) (R := .tup (rs.map Rule.d)) (b := b) (e := e) (x := x) (later := ms (spl t b e x) rs) (by omega) h1 (fun p hp => (ms_good ho hp).mlen.2) (ms t rs) 0 [] .un .un .un (fun p hp => ⟨Nat.le_of_lt (ms_good ho hp).lt.1, (ms_good ho hp).mlen.2⟩) (by simp; omega)
  have hit : lfG enumTup (fnF 2 f_all_marks (consF (getE 0) (consF (getE 1) nilF))) [.dat (.str t), .dat (.tup (rs.map Rule.d)), .dat (edD b e x), .ptp ((ms (spl t b e x) rs).map mkP), .own [], .un, .un, .un] = .ok ((ms t rs).zipIdx.map fun q => .tup [.int (q.2 : Nat), mkP q.1]) := by
    rw [lfG_ap, fn_ok (n := 2) (ds := [.str t, .tup (rs.map Rule.d)]) (cons_ok rfl (cons_ok rfl rfl)) rfl (f_marksT (by omega) ha hr), rb_ok, lf_tup, mkP_lf, ← enum_mks]
    rfl
  rw [seqS_nx (by rw [forS_ap, hit, rb_ok]; exact h)]
  simp
theorem f_same_no {t x : List Nat} {rs : List Rule} {b e : Int} (ht : t.length ≤ 1000) (h : fits t.length b e = false) : f_same_marks [.str t, .tup (rs.map Rule.d), edD b e x] = .exc 0 := by
  unfold f_same_marks runX B_same_marks
  have e0 : initE 8 [.str t, .tup (rs.map Rule.d), edD b e x] = [.dat (.str t), .dat (.tup (rs.map Rule.d)), .dat (edD b e x), .un, .un, .un, .un, .un] := rfl
  have hed : fnX 2 f_edited (consF (getE 0) (consF (getE 2) nilF)) [.dat (.str t), .dat (.tup (rs.map Rule.d)), .dat (edD b e x), .un, .un, .un, .un, .un] = .exc 0 :=
    (fnX_ok (n := 2) (ds := [.str t, edD b e x]) (cons_ok rfl (cons_ok rfl rfl)) rfl).trans (f_ed_no ht h)
  have hla : fnF 2 f_all_marksP (consF (fnX 2 f_edited (consF (getE 0) (consF (getE 2) nilF))) (consF (getE 1) nilF)) [.dat (.str t), .dat (.tup (rs.map Rule.d)), .dat (edD b e x), .un, .un, .un, .un, .un] = .exc 0 := by
    rw [fnF_ap, consF_ap, hed]; rfl
  rw [e0, seqS_ap, asgP_ap, hla]
  rfl
end FM

set_option Elab.async false
set_option linter.all false
set_option maxRecDepth 100000
/-! P05: faults far from an edit stay. -/
namespace FM
open PySem PyProof.Rows L2
/-! ### rows of stretches, at a spot -/
theorem WF_first {p : Nat → Bool} {sg : Sg} {last : List Nat} (h : WF p true sg last) (hd : ∀ c r, joinS sg last = c :: r → p c = false) : WF p false sg last := by
  cases sg with
  | nil => exact h
  | cons q r =>
    refine ⟨h.1, h.2.1, h.2.2.1, .inr fun z => ?_, h.2.2.2.2⟩
    obtain ⟨c, w', hq⟩ := List.exists_cons_of_ne_nil h.2.2.1
    have a := hd c (w' ++ joinS r last) (by simp [joinS, z, hq])
    rw [h.2.1 c (by rw [hq]; simp)] at a
    cases a
theorem join_last {p : Nat → Bool} : ∀ {sg : Sg} {last : List Nat} {f : Bool}, WF p f sg last → last = [] → sg ≠ [] → ∃ A c, joinS sg last = A ++ [c] ∧ p c = true
  | [], _, _, _, _, h => absurd rfl h
  | [q], last, f, hw, hl, _ => by
    subst hl
    obtain ⟨A, c, hA⟩ := (snoc_cases q.2).resolve_left hw.2.2.1
    exact ⟨q.1 ++ A, c, by simp [joinS, hA], hw.2.1 c (by rw [hA]; simp)⟩
  | q :: q' :: r, last, f, hw, hl, _ => by
    obtain ⟨A, c, hA, hc⟩ := join_last hw.2.2.2.2 hl (by simp)
    exact ⟨q.1 ++ (q.2 ++ A), c, by rw [joinS, hA]; simp, hc⟩
theorem runs_mid {p : Nat → Bool} {c : Nat} (hc : p c = false) (P R : List Nat) : runs p 0 (P ++ c :: R) = runs p 0 P ++ runs p (P.length + 1) R := by
  obtain ⟨sg, last, hw, rfl⟩ := seg_ex p P.length P (Nat.le_refl _)
  obtain ⟨s2, l2, hw2, hR⟩ := seg_ex p R.length R (Nat.le_refl _)
  cases s2 with
  | nil =>
    have hall : ∀ x ∈ R, p x = false := by rw [hR]; exact hw2
    have e1 : joinS sg last ++ c :: R = joinS sg (last ++ c :: R) := by
      have := joinS_app sg [] (last ++ c :: R)
      have h0 := joinS_app sg [] last
      rw [List.append_nil] at this h0
      rw [this, h0]; simp [joinS]
    have hw' : WF p true sg (last ++ c :: R) := by
      have a := (WF_app (a := sg) (b := []) (f := true) (p := p) (last := last)).mp (by simpa using hw)
      have := (WF_app (a := sg) (b := []) (f := true) (p := p) (last := last ++ c :: R)).mpr ⟨a.1, fun x hx => by
        rcases List.mem_append.mp hx with h | h
        · exact a.2 x h
        · rcases List.mem_cons.mp h with rfl | h
          · exact hc
          · exact hall x h⟩
      simpa using this
    rw [e1, runs_join sg _ true 0 hw', runs_join sg _ true 0 hw]
    have := runs_skip (p := p) R [] ((joinS sg last).length + 1) hall
    rw [List.append_nil] at this
    rw [this]; simp [runs]
  | cons q r =>
    obtain ⟨b1, b2, b3, b4, b5⟩ := hw2
    have hR' : R = q.1 ++ (q.2 ++ joinS r l2) := hR
    have e1 : joinS sg last ++ c :: R = joinS (sg ++ (last ++ c :: q.1, q.2) :: r) l2 := by
      have h0 := joinS_app sg [] last
      rw [List.append_nil] at h0
      rw [joinS_app, h0, hR']; simp [joinS]
    have a := (WF_app (a := sg) (b := []) (f := true) (p := p) (last := last)).mp (by simpa using hw)
    have hw' : WF p true (sg ++ (last ++ c :: q.1, q.2) :: r) l2 := WF_app.mpr ⟨a.1, fun x hx => by
        rcases List.mem_append.mp hx with h | h
        · exact a.2 x h
        · rcases List.mem_cons.mp h with rfl | h
          · exact hc
          · exact b1 x h, b2, b3, .inr (by simp), b5⟩
    rw [e1, runs_join _ _ true 0 hw', runs_join sg _ true 0 hw, hR, runs_join (q :: r) l2 true _ ⟨b1, b2, b3, .inl rfl, b5⟩]
    have hwp : ∀ (a b : Sg) (k : Nat), wp k (a ++ b) = wp k a ++ wp (k + lenS a) b := by
      intro a
      induction a with
      | nil => intro b k; simp [wp, lenS_nil]
      | cons x a ih => intro b k; simp only [List.cons_append, wp, ih, lenS_cons]; congr 3; omega
    rw [hwp]
    congr 1
    have hl : (joinS sg last).length = lenS sg + last.length := by
      have h0 := joinS_app sg [] last
      rw [List.append_nil] at h0
      rw [h0]; simp [joinS, lenS]
    simp only [wp, List.length_append, List.length_cons, hl, Nat.zero_add]
    congr 1
    · ext <;> simp <;> omega
    · congr 1; omega
theorem runs_in {p : Nat → Bool} {P : List Nat} {w : Nat × Nat} (h : w ∈ runs p 0 P) : w.1 < w.2 ∧ w.2 ≤ P.length := by
  have := runs_ok p P P.length 0 (by omega)
  simp only [List.drop_zero] at this
  exact ⟨(this.lt w h).1, (this.lt w h).2.1⟩
theorem runs_shift {p : Nat → Bool} (R : List Nat) (k d : Nat) : runs p (k + d) R = (runs p k R).map fun w => (w.1 + d, w.2 + d) := by
  obtain ⟨sg, last, hw, rfl⟩ := seg_ex p R.length R (Nat.le_refl _)
  rw [runs_join _ _ true _ hw, runs_join _ _ true _ hw]
  have : ∀ (a : Sg) (k : Nat), wp (k + d) a = (wp k a).map fun w => (w.1 + d, w.2 + d) := by
    intro a
    induction a with
    | nil => intro k; rfl
    | cons q a ih =>
      intro k
      simp only [wp, List.map_cons, ← ih]
      congr 1
      · ext <;> simp <;> omega
      · congr 1; omega
  exact this sg k
theorem runs_ge {p : Nat → Bool} {R : List Nat} {k : Nat} {w : Nat × Nat} (h : w ∈ runs p k R) : k ≤ w.1 := by
  have := runs_shift (p := p) R 0 k
  rw [Nat.zero_add] at this
  rw [this] at h
  obtain ⟨v, _, rfl⟩ := List.mem_map.mp h
  simp
/-! ### faults of words in rows -/
def mvF (d d' : Nat) (f : Flt) : Flt := ⟨f.b - d + d', f.e - d + d', f.m⟩
theorem atS_in {r : Rule} {k : Nat} {prev : Option (List Nat)} {q : List Nat × List Nat} {f : Flt} (hq : q.2 ≠ []) (h : f ∈ atS r k prev q) : k ≤ f.b ∧ f.b < f.e ∧ k + q.1.length < f.e ∧ f.e ≤ k + q.1.length + q.2.length := by
  have hl : 0 < q.2.length := List.length_pos_iff.mpr hq
  cases r with
  | twice =>
    cases prev with
    | none => simp [atS] at h
    | some u =>
      simp only [atS] at h
      split at h
      · simp only [List.mem_singleton] at h; subst h; simp only; omega
      · simp at h
  | long n =>
    simp only [atS] at h
    split at h
    · simp only [List.mem_singleton] at h; subst h; simp only; omega
    · simp at h
  | word x y =>
    simp only [atS] at h
    split at h
    · simp only [List.mem_singleton] at h; subst h; simp only; omega
    · simp at h
  | great =>
    simp only [atS] at h
    split at h
    · simp only [List.mem_singleton] at h; subst h; simp only; omega
    · simp at h
  | blanks => simp [atS] at h
  | sign c => simp [atS] at h
theorem fs_in {r : Rule} {f : Flt} {p : Nat → Bool} : ∀ {a : Sg} {k : Nat} {prev : Option (List Nat)} {g : Bool} {last : List Nat}, WF p g a last → f ∈ fs r k prev a → k ≤ f.b ∧ f.b < f.e ∧ f.e ≤ k + lenS a
  | [], k, prev, g, last, _, h => by simp [fs] at h
  | q :: b, k, prev, g, last, hw, h => by
    rw [lenS_cons]
    rcases List.mem_append.mp h with h | h
    · have := atS_in hw.2.2.1 h; omega
    · have := fs_in hw.2.2.2.2 h; omega
theorem atS_mv (r : Rule) (k d : Nat) (prev : Option (List Nat)) (q : List Nat × List Nat) : atS r (k + d) prev q = (atS r k prev q).map fun f => ⟨f.b + d, f.e + d, f.m⟩ := by
  cases r with
  | twice =>
    cases prev with
    | none => rfl
    | some u => simp only [atS]; split <;> simp; omega
  | long n => simp only [atS]; split <;> simp; omega
  | word x y => simp only [atS]; split <;> simp; omega
  | great => simp only [atS]; split <;> simp; omega
  | blanks => rfl
  | sign c => rfl
theorem fs_mv (r : Rule) (d : Nat) : ∀ (a : Sg) (k : Nat) (prev : Option (List Nat)), fs r (k + d) prev a = (fs r k prev a).map fun f => ⟨f.b + d, f.e + d, f.m⟩
  | [], k, prev => rfl
  | q :: b, k, prev => by
    simp only [fs, List.map_append, ← atS_mv]
    rw [← fs_mv r d b]
    congr 2; omega
/-- which words there are, in a row -/
theorem wp_mem {w : Nat × Nat} : ∀ {a : Sg} {k : Nat}, w ∈ wp k a → ∃ pre q b, a = pre ++ q :: b ∧ w = (k + lenS pre + q.1.length, k + lenS pre + q.1.length + q.2.length)
  | [], k, h => by simp [wp] at h
  | q :: b, k, h => by
    rcases List.mem_cons.mp h with h | h
    · exact ⟨[], q, b, rfl, by rw [h]; simp [lenS_nil]⟩
    · obtain ⟨pre, q', b', e, hw⟩ := wp_mem h
      refine ⟨q :: pre, q', b', by rw [e]; rfl, ?_⟩
      rw [hw, lenS_cons]
      ext <;> simp <;> omega
theorem bl_isL {c : Nat} (h : isL c = true) : decide (c ∈ [32]) = false := by
  by_cases e : c = 32
  · subst e; revert h; decide
  · simp [e]
/-! ### the left side -/
theorem left_far {t t' : List Nat} {b : Nat} {w : Nat × Nat} {r : Rule} {f : Flt} (hb : b ≤ t.length) (hb' : b ≤ t'.length) (heq : t.take b = t'.take b) (hw : w ∈ words t) (hwb : w.2 < b) (hf : f ∈ faults t r) (hfe : f.e ≤ w.1) : f ∈ faults t' r := by
  have hget : ∀ k, k < b → t[k]? = t'[k]? := fun k hk => by
    have := congrArg (·[k]?) heq
    simpa [List.getElem?_take, hk] using this
  obtain ⟨sg, last, hwf, ht⟩ := seg_ex isL t.length t (Nat.le_refl _)
  rw [ht, words_join hwf] at hw
  obtain ⟨pre, q, s, rfl, rfl⟩ := wp_mem hw
  obtain ⟨a1, a2, a3, a4, a5, a6⟩ := WF_at hwf
  simp only [Nat.zero_add] at hwb hfe
  have hq : 0 < q.2.length := List.length_pos_iff.mpr a3
  have et : t = (joinS pre [] ++ (q.1 ++ q.2)) ++ joinS s last := by rw [ht, join_at]; simp
  have hpl : (joinS pre [] ++ (q.1 ++ q.2)).length = lenS pre + q.1.length + q.2.length := by simp [lenS]; omega
  -- the other text begins alike
  obtain ⟨R, et'⟩ : ∃ R, t' = (joinS pre [] ++ (q.1 ++ q.2)) ++ R := by
    refine ⟨t'.drop (joinS pre [] ++ (q.1 ++ q.2)).length, ?_⟩
    have h1 : t'.take (joinS pre [] ++ (q.1 ++ q.2)).length = joinS pre [] ++ (q.1 ++ q.2) := by
      have : t'.take (joinS pre [] ++ (q.1 ++ q.2)).length = (t'.take b).take (joinS pre [] ++ (q.1 ++ q.2)).length := by rw [List.take_take, Nat.min_eq_left (by omega)]
      rw [this, ← heq, List.take_take, Nat.min_eq_left (by omega)]
      conv => lhs; rw [et]
      exact List.take_left' rfl
    conv => lhs; rw [← List.take_append_drop (joinS pre [] ++ (q.1 ++ q.2)).length t', h1]
  have hR : ∀ c r, R = c :: r → isL c = false := fun c r e => by
    have h1 : t'[lenS pre + q.1.length + q.2.length]? = some c := by rw [et', List.getElem?_append_right (by omega), hpl, e]; simp
    rw [← hget _ hwb, et, List.getElem?_append_right (by omega), hpl, Nat.sub_self] at h1
    cases hj : joinS s last with
    | nil => rw [hj] at h1; simp at h1
    | cons c' r' =>
      rw [hj] at h1
      simp only [List.getElem?_cons_zero, Option.some.injEq] at h1
      subst h1
      exact head_not a5 _ _ hj
  cases hr : r with
  | blanks =>
    subst hr
    -- a letter stands at the spot
    obtain ⟨c, w', hc⟩ := List.exists_cons_of_ne_nil a3
    have hcl : decide (c ∈ [32]) = false := bl_isL (a2 c (by rw [hc]; simp))
    have e1 : t = (joinS pre [] ++ q.1) ++ c :: (w' ++ joinS s last) := by rw [et, hc]; simp
    have e2 : t' = (joinS pre [] ++ q.1) ++ c :: (w' ++ R) := by rw [et', hc]; simp
    have hf' : f ∈ blanks t := hf
    show f ∈ blanks t'
    unfold blanks at hf' ⊢
    rw [e1, runs_mid hcl] at hf'
    rw [e2, runs_mid hcl]
    obtain ⟨v, hv, rfl⟩ := List.mem_map.mp hf'
    obtain ⟨hv1, hv2⟩ := List.mem_filter.mp hv
    refine List.mem_map.mpr ⟨v, List.mem_filter.mpr ⟨?_, hv2⟩, rfl⟩
    rcases List.mem_append.mp hv1 with h | h
    · exact List.mem_append_left _ h
    · have := runs_ge h
      simp only [List.length_append] at this
      simp only [decide_eq_true_eq] at hv2
      simp only [lenS] at hfe
      omega
  | sign c =>
    subst hr
    have hf' : f ∈ signs t c := hf
    show f ∈ signs t' c
    unfold signs at hf' ⊢
    obtain ⟨k, hk, rfl⟩ := List.mem_map.mp hf'
    obtain ⟨hk1, hk2⟩ := List.mem_filter.mp hk
    simp only at hfe
    refine List.mem_map.mpr ⟨k, List.mem_filter.mpr ⟨List.mem_range.mpr (by omega), ?_⟩, rfl⟩
    rw [← hget k (by omega)]; exact hk2
  | _ =>
    all_goals
      have hne : r ≠ .blanks := by rw [hr]; simp
      have hff : ∀ u, faults u r = perWord u r := by intro u; rw [hr]; rfl
      rw [← hr, hff]
      rw [hff, ht, perWord_join hne hwf, fs_app] at hf
      obtain ⟨s', last', hws, hRe⟩ := seg_ex isL R.length R (Nat.le_refl _)
      have hws' := WF_first hws (fun c r e => hR c r (by rw [hRe]; exact e))
      have hwf' : WF isL true (pre ++ q :: s') last' := WF_mk a6 a1 a2 a3 a4 hws'
      have et2 : t' = joinS (pre ++ q :: s') last' := by rw [et', join_at, hRe]; simp
      rw [et2, perWord_join hne hwf', fs_app]
      refine List.mem_append_left _ ?_
      rcases List.mem_append.mp hf with h | h
      · exact h
      · exfalso
        rcases List.mem_append.mp h with h | h
        · have := atS_in a3 h; omega
        · have := fs_in a5 h; omega
/-! ### the right side -/
theorem right_far {A M X C : List Nat} {w : Nat × Nat} {r : Rule} {f : Flt} (hw : w ∈ words (A ++ (M ++ C))) (hwe : A.length + M.length < w.1) (hf : f ∈ faults (A ++ (M ++ C)) r) (hfb : w.2 ≤ f.b) : mvF (A.length + M.length) (A.length + X.length) f ∈ faults (A ++ (X ++ C)) r := by
  obtain ⟨sg, last, hwf, ht⟩ := seg_ex isL _ (A ++ (M ++ C)) (Nat.le_refl _)
  rw [ht, words_join hwf] at hw
  obtain ⟨pre, q, s, rfl, rfl⟩ := wp_mem hw
  obtain ⟨a1, a2, a3, a4, a5, a6⟩ := WF_at hwf
  simp only [Nat.zero_add] at hwe hfb
  have hq : 0 < q.2.length := List.length_pos_iff.mpr a3
  -- what stands after the edit
  obtain ⟨G, hC⟩ : ∃ G, C = G ++ (q.2 ++ joinS s last) ∧ G.length = lenS pre + q.1.length - (A.length + M.length) := by
    have e1 : C = (A ++ (M ++ C)).drop (A.length + M.length) := by rw [← List.append_assoc]; exact (List.drop_left' (by simp)).symm
    have e2 : (A ++ (M ++ C)) = (joinS pre [] ++ q.1) ++ (q.2 ++ joinS s last) := by rw [ht, join_at]; simp
    refine ⟨(joinS pre [] ++ q.1).drop (A.length + M.length), ?_, by simp [lenS]⟩
    rw [e1, e2, List.drop_append_of_le_length (by simp [lenS] at hwe ⊢; omega)]
  obtain ⟨hC, hG⟩ := hC
  -- its last sign is no letter
  have hlen : (A ++ (M ++ C)).length = lenS pre + q.1.length + q.2.length + (joinS s last).length := by rw [ht, join_at]; simp [lenS]; omega
  have hGl : ∃ G' c, G = G' ++ [c] ∧ isL c = false := by
    obtain ⟨G', c, hGc⟩ := (snoc_cases G).resolve_left (fun z => by rw [z] at hG; simp at hG; omega)
    refine ⟨G', c, hGc, ?_⟩
    have e1 : (A ++ (M ++ C))[lenS pre + q.1.length - 1]? = some c := by
      rw [← List.append_assoc, hC, ← List.append_assoc, List.getElem?_append_left (by simp; omega), List.getElem?_append_right (by simp; omega), hGc]
      rw [hGc] at hG
      simp only [List.length_append, List.length_singleton] at hG
      rw [List.getElem?_append_right (by simp; omega)]
      simp only [List.length_append]
      rw [show lenS pre + q.1.length - 1 - (A.length + M.length) - G'.length = 0 by omega]
      rfl
    rw [ht, join_at] at e1
    by_cases hq1 : q.1 = []
    · rw [hq1] at e1 hwe
      rw [List.length_nil, Nat.add_zero] at e1 hwe
      have hp := a4.resolve_right (by simp [hq1])
      have : pre = [] := by simpa using hp
      rw [this, lenS_nil] at hwe
      omega
    · obtain ⟨g', c', hg⟩ := (snoc_cases q.1).resolve_left hq1
      have hl : lenS pre + q.1.length - 1 = (joinS pre [] ++ g').length := by rw [hg]; simp [lenS]
      rw [hl] at e1
      have e2 : joinS pre [] ++ (q.1 ++ (q.2 ++ joinS s last)) = (joinS pre [] ++ g') ++ c' :: (q.2 ++ joinS s last) := by rw [hg]; simp
      rw [e2, List.getElem?_append_right (Nat.le_refl _), Nat.sub_self] at e1
      simp only [List.getElem?_cons_zero, Option.some.injEq] at e1
      rw [← e1]
      exact a1 c' (by rw [hg]; simp)
  obtain ⟨G', c, rfl, hc⟩ := hGl
  simp only [List.length_append, List.length_singleton] at hG
  have eN : A ++ (X ++ C) = (A ++ (X ++ (G' ++ [c]))) ++ (q.2 ++ joinS s last) := by rw [hC]; simp
  have eO : A ++ (M ++ C) = (A ++ (M ++ (G' ++ [c]))) ++ (q.2 ++ joinS s last) := by rw [hC]; simp
  cases hr : r with
  | blanks =>
    subst hr
    obtain ⟨g', c', hg⟩ := (snoc_cases q.2).resolve_left a3
    have hcl : decide (c' ∈ [32]) = false := bl_isL (a2 c' (by rw [hg]; simp))
    have e1 : A ++ (M ++ C) = (A ++ (M ++ (G' ++ [c])) ++ g') ++ c' :: joinS s last := by rw [eO, hg]; simp
    have e2 : A ++ (X ++ C) = (A ++ (X ++ (G' ++ [c])) ++ g') ++ c' :: joinS s last := by rw [eN, hg]; simp
    have hf' : f ∈ blanks (A ++ (M ++ C)) := hf
    show _ ∈ blanks (A ++ (X ++ C))
    unfold blanks at hf' ⊢
    rw [e1, runs_mid hcl] at hf'
    rw [e2, runs_mid hcl]
    obtain ⟨v, hv, rfl⟩ := List.mem_map.mp hf'
    obtain ⟨hv1, hv2⟩ := List.mem_filter.mp hv
    have hgl : q.2.length = g'.length + 1 := by rw [hg]; simp
    simp only [decide_eq_true_eq] at hv2
    rcases List.mem_append.mp hv1 with h | h
    · have := runs_in h
      simp only [List.length_append, List.length_singleton] at this
      simp only at hfb
      omega
    · have hge := runs_ge h
      have s1 := runs_shift (p := fun c => decide (c ∈ [32])) (joinS s last) 0 ((A ++ (M ++ (G' ++ [c])) ++ g').length + 1)
      have s2 := runs_shift (p := fun c => decide (c ∈ [32])) (joinS s last) 0 ((A ++ (X ++ (G' ++ [c])) ++ g').length + 1)
      rw [Nat.zero_add] at s1 s2
      rw [s1] at h
      obtain ⟨u, hu, rfl⟩ := List.mem_map.mp h
      refine List.mem_map.mpr ⟨(u.1 + ((A ++ (X ++ (G' ++ [c])) ++ g').length + 1), u.2 + ((A ++ (X ++ (G' ++ [c])) ++ g').length + 1)), List.mem_filter.mpr ⟨List.mem_append_right _ ?_, by simp only [decide_eq_true_eq] at hv2 ⊢; omega⟩, ?_⟩
      · rw [s2]; exact List.mem_map.mpr ⟨u, hu, rfl⟩
      · simp only [mvF, List.length_append, List.length_singleton]
        congr 1 <;> omega
  | sign d =>
    subst hr
    have hf' : f ∈ signs (A ++ (M ++ C)) d := hf
    show _ ∈ signs (A ++ (X ++ C)) d
    unfold signs at hf' ⊢
    obtain ⟨k, hk, rfl⟩ := List.mem_map.mp hf'
    obtain ⟨hk1, hk2⟩ := List.mem_filter.mp hk
    have hk3 := List.mem_range.mp hk1
    simp only at hfb
    simp only [decide_eq_true_eq] at hk2
    rw [List.length_append, List.length_append] at hk3
    refine List.mem_map.mpr ⟨k - (A.length + M.length) + (A.length + X.length), List.mem_filter.mpr ⟨List.mem_range.mpr (by simp only [List.length_append]; omega), ?_⟩, ?_⟩
    · simp only [decide_eq_true_eq]
      rw [← List.append_assoc, List.getElem?_append_right (by simp only [List.length_append]; omega)] at hk2 ⊢
      simp only [List.length_append] at hk2 ⊢
      rw [← hk2]
      congr 1
      omega
    · simp only [mvF]
      congr 1; omega
  | _ =>
    all_goals
      have hne : r ≠ .blanks := by rw [hr]; simp
      have hff : ∀ u, faults u r = perWord u r := by intro u; rw [hr]; rfl
      rw [← hr, hff]
      rw [hff, ht, perWord_join hne hwf, fs_app] at hf
      obtain ⟨pre', last', hwp, hpe⟩ := seg_ex isL (A ++ (X ++ (G' ++ [c]))).length (A ++ (X ++ (G' ++ [c]))) (Nat.le_refl _)
      have hw3 := (WF_app (a := pre') (b := []) (f := true) (p := isL) (last := last')).mp (by simpa using hwp)
      have hl' : last' ≠ [] := fun z => by
        by_cases hp : pre' = []
        · subst z; subst hp
          simp only [joinS] at hpe
          have := congrArg List.length hpe
          simp at this
        · obtain ⟨Z, d, hZ, hd⟩ := join_last hwp z hp
          rw [hZ] at hpe
          have : A ++ (X ++ (G' ++ [c])) = (A ++ (X ++ G')) ++ [c] := by simp
          rw [this] at hpe
          have := (List.append_inj' hpe rfl).2
          simp only [List.cons.injEq, and_true] at this
          rw [← this, hc] at hd
          cases hd
      have hwf' : WF isL true (pre' ++ (last', q.2) :: s) last := WF_mk hw3.1 hw3.2 a2 a3 (.inr hl') a5
      have et2 : A ++ (X ++ C) = joinS (pre' ++ (last', q.2) :: s) last := by
        rw [eN, join_at, hpe]
        have h0 := joinS_app pre' [] last'
        rw [List.append_nil] at h0
        rw [h0]; simp [joinS]
      have hl2 : lenS pre' + last'.length = A.length + (X.length + (G'.length + 1)) := by
        have := congrArg List.length hpe
        have h0 := joinS_app pre' [] last'
        rw [List.append_nil] at h0
        rw [h0] at this
        simp [joinS, lenS] at this ⊢
        omega
      rw [et2, perWord_join hne hwf', fs_app]
      rcases List.mem_append.mp hf with h | h
      · have := fs_in a6 h; omega
      · rcases List.mem_append.mp h with h | h
        · have := atS_in a3 h; omega
        · refine List.mem_append_right _ (List.mem_append_right _ ?_)
          have s1 := fs_mv r (0 + lenS pre + q.1.length + q.2.length) s 0 (some q.2)
          have s2 := fs_mv r (0 + lenS pre' + last'.length + q.2.length) s 0 (some q.2)
          rw [Nat.zero_add] at s1 s2
          rw [s1] at h
          obtain ⟨u, hu, rfl⟩ := List.mem_map.mp h
          simp only
          rw [s2]
          refine List.mem_map.mpr ⟨u, hu, ?_⟩
          simp only [mvF]
          congr 1 <;> omega
theorem words_left {t t' : List Nat} {b : Nat} {w : Nat × Nat} (hb : b ≤ t.length) (hb' : b ≤ t'.length) (heq : t.take b = t'.take b) (hw : w ∈ words t) (hwb : w.2 < b) : w ∈ words t' := by
  have hget : ∀ k, k < b → t[k]? = t'[k]? := fun k hk => by
    have := congrArg (·[k]?) heq
    simpa [List.getElem?_take, hk] using this
  obtain ⟨sg, last, hwf, ht⟩ := seg_ex isL t.length t (Nat.le_refl _)
  rw [ht, words_join hwf] at hw
  obtain ⟨pre, q, s, rfl, rfl⟩ := wp_mem hw
  obtain ⟨a1, a2, a3, a4, a5, a6⟩ := WF_at hwf
  simp only [Nat.zero_add] at hwb
  have hq : 0 < q.2.length := List.length_pos_iff.mpr a3
  have et : t = (joinS pre [] ++ (q.1 ++ q.2)) ++ joinS s last := by rw [ht, join_at]; simp
  have hpl : (joinS pre [] ++ (q.1 ++ q.2)).length = lenS pre + q.1.length + q.2.length := by simp [lenS]; omega
  -- the other text begins alike
  obtain ⟨R, et'⟩ : ∃ R, t' = (joinS pre [] ++ (q.1 ++ q.2)) ++ R := by
    refine ⟨t'.drop (joinS pre [] ++ (q.1 ++ q.2)).length, ?_⟩
    have h1 : t'.take (joinS pre [] ++ (q.1 ++ q.2)).length = joinS pre [] ++ (q.1 ++ q.2) := by
      have : t'.take (joinS pre [] ++ (q.1 ++ q.2)).length = (t'.take b).take (joinS pre [] ++ (q.1 ++ q.2)).length := by rw [List.take_take, Nat.min_eq_left (by omega)]
      rw [this, ← heq, List.take_take, Nat.min_eq_left (by omega)]
      conv => lhs; rw [et]
      exact List.take_left' rfl
    conv => lhs; rw [← List.take_append_drop (joinS pre [] ++ (q.1 ++ q.2)).length t', h1]
  have hR : ∀ c r, R = c :: r → isL c = false := fun c r e => by
    have h1 : t'[lenS pre + q.1.length + q.2.length]? = some c := by rw [et', List.getElem?_append_right (by omega), hpl, e]; simp
    rw [← hget _ hwb, et, List.getElem?_append_right (by omega), hpl, Nat.sub_self] at h1
    cases hj : joinS s last with
    | nil => rw [hj] at h1; simp at h1
    | cons c' r' =>
      rw [hj] at h1
      simp only [List.getElem?_cons_zero, Option.some.injEq] at h1
      subst h1
      exact head_not a5 _ _ hj
  obtain ⟨s', last', hws, hRe⟩ := seg_ex isL R.length R (Nat.le_refl _)
  have hws' := WF_first hws (fun c r e => hR c r (by rw [hRe]; exact e))
  have hwf' : WF isL true (pre ++ q :: s') last' := WF_mk a6 a1 a2 a3 a4 hws'
  have et2 : t' = joinS (pre ++ q :: s') last' := by rw [et', join_at, hRe]; simp
  rw [et2, words_join hwf']
  exact List.mem_of_getElem? (wp_get pre q s' 0)
theorem words_right {A M X C : List Nat} {w : Nat × Nat} (hw : w ∈ words (A ++ (M ++ C))) (hwe : A.length + M.length < w.1) : (w.1 - (A.length + M.length) + (A.length + X.length), w.2 - (A.length + M.length) + (A.length + X.length)) ∈ words (A ++ (X ++ C)) := by
  obtain ⟨sg, last, hwf, ht⟩ := seg_ex isL _ (A ++ (M ++ C)) (Nat.le_refl _)
  rw [ht, words_join hwf] at hw
  obtain ⟨pre, q, s, rfl, rfl⟩ := wp_mem hw
  obtain ⟨a1, a2, a3, a4, a5, a6⟩ := WF_at hwf
  simp only [Nat.zero_add] at hwe
  have hq : 0 < q.2.length := List.length_pos_iff.mpr a3
  -- what stands after the edit
  obtain ⟨G, hC⟩ : ∃ G, C = G ++ (q.2 ++ joinS s last) ∧ G.length = lenS pre + q.1.length - (A.length + M.length) := by
    have e1 : C = (A ++ (M ++ C)).drop (A.length + M.length) := by rw [← List.append_assoc]; exact (List.drop_left' (by simp)).symm
    have e2 : (A ++ (M ++ C)) = (joinS pre [] ++ q.1) ++ (q.2 ++ joinS s last) := by rw [ht, join_at]; simp
    refine ⟨(joinS pre [] ++ q.1).drop (A.length + M.length), ?_, by simp [lenS]⟩
    rw [e1, e2, List.drop_append_of_le_length (by simp [lenS] at hwe ⊢; omega)]
  obtain ⟨hC, hG⟩ := hC
  -- its last sign is no letter
  have hlen : (A ++ (M ++ C)).length = lenS pre + q.1.length + q.2.length + (joinS s last).length := by rw [ht, join_at]; simp [lenS]; omega
  have hGl : ∃ G' c, G = G' ++ [c] ∧ isL c = false := by
    obtain ⟨G', c, hGc⟩ := (snoc_cases G).resolve_left (fun z => by rw [z] at hG; simp at hG; omega)
    refine ⟨G', c, hGc, ?_⟩
    have e1 : (A ++ (M ++ C))[lenS pre + q.1.length - 1]? = some c := by
      rw [← List.append_assoc, hC, ← List.append_assoc, List.getElem?_append_left (by simp; omega), List.getElem?_append_right (by simp; omega), hGc]
      rw [hGc] at hG
      simp only [List.length_append, List.length_singleton] at hG
      rw [List.getElem?_append_right (by simp; omega)]
      simp only [List.length_append]
      rw [show lenS pre + q.1.length - 1 - (A.length + M.length) - G'.length = 0 by omega]
      rfl
    rw [ht, join_at] at e1
    by_cases hq1 : q.1 = []
    · rw [hq1] at e1 hwe
      rw [List.length_nil, Nat.add_zero] at e1 hwe
      have hp := a4.resolve_right (by simp [hq1])
      have : pre = [] := by simpa using hp
      rw [this, lenS_nil] at hwe
      omega
    · obtain ⟨g', c', hg⟩ := (snoc_cases q.1).resolve_left hq1
      have hl : lenS pre + q.1.length - 1 = (joinS pre [] ++ g').length := by rw [hg]; simp [lenS]
      rw [hl] at e1
      have e2 : joinS pre [] ++ (q.1 ++ (q.2 ++ joinS s last)) = (joinS pre [] ++ g') ++ c' :: (q.2 ++ joinS s last) := by rw [hg]; simp
      rw [e2, List.getElem?_append_right (Nat.le_refl _), Nat.sub_self] at e1
      simp only [List.getElem?_cons_zero, Option.some.injEq] at e1
      rw [← e1]
      exact a1 c' (by rw [hg]; simp)
  obtain ⟨G', c, rfl, hc⟩ := hGl
  simp only [List.length_append, List.length_singleton] at hG
  have eN : A ++ (X ++ C) = (A ++ (X ++ (G' ++ [c]))) ++ (q.2 ++ joinS s last) := by rw [hC]; simp
  have eO : A ++ (M ++ C) = (A ++ (M ++ (G' ++ [c]))) ++ (q.2 ++ joinS s last) := by rw [hC]; simp
  obtain ⟨pre', last', hwp, hpe⟩ := seg_ex isL (A ++ (X ++ (G' ++ [c]))).length (A ++ (X ++ (G' ++ [c]))) (Nat.le_refl _)
  have hw3 := (WF_app (a := pre') (b := []) (f := true) (p := isL) (last := last')).mp (by simpa using hwp)
  have hl' : last' ≠ [] := fun z => by
    by_cases hp : pre' = []
    · subst z; subst hp
      simp only [joinS] at hpe
      have := congrArg List.length hpe
      simp at this
    · obtain ⟨Z, d, hZ, hd⟩ := join_last hwp z hp
      rw [hZ] at hpe
      have : A ++ (X ++ (G' ++ [c])) = (A ++ (X ++ G')) ++ [c] := by simp
      rw [this] at hpe
      have := (List.append_inj' hpe rfl).2
      simp only [List.cons.injEq, and_true] at this
      rw [← this, hc] at hd
      cases hd
  have hwf' : WF isL true (pre' ++ (last', q.2) :: s) last := WF_mk hw3.1 hw3.2 a2 a3 (.inr hl') a5
  have et2 : A ++ (X ++ C) = joinS (pre' ++ (last', q.2) :: s) last := by
    rw [eN, join_at, hpe]
    have h0 := joinS_app pre' [] last'
    rw [List.append_nil] at h0
    rw [h0]; simp [joinS]
  have hl2 : lenS pre' + last'.length = A.length + (X.length + (G'.length + 1)) := by
    have := congrArg List.length hpe
    have h0 := joinS_app pre' [] last'
    rw [List.append_nil] at h0
    rw [h0] at this
    simp [joinS, lenS] at this ⊢
    omega
  rw [et2, words_join hwf']
  have := List.mem_of_getElem? (wp_get pre' (last', q.2) s 0)
  have e9 : (0 + lenS pre + q.1.length - (A.length + M.length) + (A.length + X.length), 0 + lenS pre + q.1.length + q.2.length - (A.length + M.length) + (A.length + X.length)) = (0 + lenS pre' + last'.length, 0 + lenS pre' + last'.length + q.2.length) := by
    ext <;> simp <;> omega
  rw [e9]; exact this
end FM

set_option Elab.async false
set_option linter.all false
set_option maxRecDepth 100000
/-! PE: the law's drawn edits; common lemmas. -/
namespace FM
open PySem PyProof.Rows L2
theorem chk_ok {t : En → Res Bool} {e : En} (h : t e = .ok false) : ifS t (retS (cD (.bl false))) nilS e = .ok (.nx e) := by rw [ifS_no h]; rfl
theorem not_true {f : En → Res D} {e : En} (h : f e = .ok (.bl true)) : notF (truF f) e = .ok false := by simp [h]
theorem f_lmarksT {t : List Nat} {rs : List Rule} (ht : t.length ≤ 1000) (ha : t.all (· < 128) = true) (hr : rs.length ≤ 4) : f_law_marks [.str t, .tup (rs.map Rule.d)] = .ok (.tup ((ms t rs).map mkP)) := by
  refine (f_lmarks ht ha hr).trans ?_
  rw [← sorted_ms]; rfl
theorem flat_mk (n : Nat) (f : Flt) (k : Nat) : flatD (k + 1) (mk n f) := by
  refine ⟨by simp, fun d hd => ?_⟩
  simp only [List.mem_cons, List.not_mem_nil, or_false] at hd
  rcases hd with rfl | rfl | rfl | rfl
  · simp [flatD]
  · simp [flatD]
  · simp [flatD]
  · cases f.m <;> simp [mD, flatD]
theorem flat_mks {l : List (Nat × Flt)} (h : l.length ≤ 1000000) (k : Nat) : flatD (k + 2) (.tup (l.map mkP)) := by
  refine ⟨by rw [List.length_map]; exact h, fun d hd => ?_⟩
  obtain ⟨p, _, rfl⟩ := List.mem_map.mp hd
  exact flat_mk p.1 p.2 k
def okX (d : D) : Prop := ∃ x, d = .str x ∧ x.length ≤ 8 ∧ x.all (· < 128) = true
def okP (d : D) : Prop := ∃ a b : Int, d = .tup [.int a, .int b]
noncomputable def bE1 : En → Res Fl := (ifS (tstF (bopF eqO (fnF 3 f_law_mix (consF (getE 0) (consF (cD (.int 9833)) (consF (cD (.int 7)) nilF)))) (cD (.int 0)))) (asgS (.tp [(.nm 2), (.nm 3)]) (bopF ixO (tupF (consF (tupF (consF (bopF addO (getE 3) (cD (.int 1))) (consF (getE 2) nilF))) (consF (tupF (consF (uopF negI (cD (.int 1))) (consF (cD (.int 0)) nilF))) (consF (tupF (consF (cD (.int 0)) (consF (bopF addO (callF lenO (consF (getE 1) nilF)) (cD (.int 1))) nilF))) (consF (tupF (consF (bopF addO (callF lenO (consF (getE 1) nilF)) (cD (.int 1))) (consF (bopF addO (callF lenO (consF (getE 1) nilF)) (cD (.int 1))) nilF))) nilF))))) (bopF modI (getE 0) (cD (.int 4))))) nilS)
noncomputable def bE2 : En → Res D := (bopF ixO (tupF (consF (cD (.str [])) (consF (cD (.str [])) (consF (cD (.str [32])) (consF (cD (.str [97])) (consF (cD (.str [46])) (consF (cD (.str wTheB)) (consF (cD (.str wBTeh)) (consF (slF slO (fnF 1 f_law_text (consF (bopF addO (getE 0) (cD (.int 1))) nilF)) noP (soP (cD (.int 8)))) nilF))))))))) (fnF 3 f_law_mix (consF (getE 0) (consF (cD (.int 9829)) (consF (cD (.int 8)) nilF)))))
section
variable {c : Int} {t : List Nat} {a b : Int} {x4 : Sl}
theorem len_1 {e : En} {f : En → Res D} (ht : t.length ≤ 1000) (h : f e = .ok (.str t)) : callF lenO (consF f nilF) e = .ok (.int (t.length : Nat)) := by rw [callF_ap, cons_ok h rfl, rb_ok, len_str ht]; rfl
theorem bE1_run (ht : t.length ≤ 1000) : ∃ a' b' : Int, bE1 [.dat (.int c), .dat (.str t), .dat (.int a), .dat (.int b), x4] = .ok (.nx [.dat (.int c), .dat (.str t), .dat (.int a'), .dat (.int b'), x4]) := by
  obtain ⟨r, h1, k1⟩ := f_mixL c 9833 7 (by decide) (by decide) (by decide)
  unfold bE1
  have t1 : tstF (bopF eqO (fnF 3 f_law_mix (consF (getE 0) (consF (cD (.int 9833)) (consF (cD (.int 7)) nilF)))) (cD (.int 0))) [.dat (.int c), .dat (.str t), .dat (.int a), .dat (.int b), x4] = .ok ((r : Int) == 0) := tst_bop (mix_ok rfl rfl h1) rfl eqO_ii
  cases hr : ((r : Int) == 0) with
  | false => rw [hr] at t1; exact ⟨a, b, by rw [ifS_no t1]; rfl⟩
  | true =>
    rw [hr] at t1
    rw [ifS_yes t1]
    have hl := len_1 (e := [.dat (.int c), .dat (.str t), .dat (.int a), .dat (.int b), x4]) (f := getE 1) ht rfl
    have hl1 : bopF addO (callF lenO (consF (getE 1) nilF)) (cD (.int 1)) [.dat (.int c), .dat (.str t), .dat (.int a), .dat (.int b), x4] = .ok (.int ((t.length : Nat) + 1)) := bop_ok hl rfl addO_ii
    obtain ⟨m, hm, hm4⟩ : ∃ m : Nat, c % 4 = (m : Int) ∧ m < 4 := ⟨(c % 4).toNat, by omega, by omega⟩
    obtain ⟨x, hx, a', b', rfl⟩ := at_of (ds := [.tup [.int (b + 1), .int a], .tup [.int (-1), .int 0], .tup [.int 0, .int ((t.length : Nat) + 1)], .tup [.int ((t.length : Nat) + 1), .int ((t.length : Nat) + 1)]]) (i := m) (P := okP) (by simpa using hm4) (by
      intro d hd
      simp only [List.mem_cons, List.not_mem_nil, or_false] at hd
      rcases hd with rfl | rfl | rfl | rfl <;> exact ⟨_, _, rfl⟩)
    refine ⟨a', b', ?_⟩
    rw [asgS_ap, bop_ok (x := .tup [.tup [.int (b + 1), .int a], .tup [.int (-1), .int 0], .tup [.int 0, .int ((t.length : Nat) + 1)], .tup [.int ((t.length : Nat) + 1), .int ((t.length : Nat) + 1)]]) (y := .int (m : Nat)) (z := .tup [.int a', .int b'])
      (tup4 (tup2 (bop_ok (x := .int b) (y := .int 1) rfl rfl addO_ii) rfl) (tup2 rfl rfl) (tup2 rfl hl1) (tup2 hl1 hl1)) (bop_ok (x := .int c) (y := .int 4) rfl rfl (by rw [modI_ii, if_pos (by decide), hm])) hx, rb_ok]
    simp [setT, setTs, setN]
theorem bE2_run : ∃ x, bE2 [.dat (.int c), .dat (.str t), .dat (.int a), .dat (.int b), x4] = .ok (.str x) ∧ x.length ≤ 8 ∧ x.all (· < 128) = true := by
  obtain ⟨r, h1, k1⟩ := f_mixL c 9829 8 (by decide) (by decide) (by decide)
  obtain ⟨t2, h2, k2, k3⟩ := f_text (c + 1)
  have hs : slF slO (fnF 1 f_law_text (consF (bopF addO (getE 0) (cD (.int 1))) nilF)) noP (soP (cD (.int 8))) [.dat (.int c), .dat (.str t), .dat (.int a), .dat (.int b), x4] = .ok (.str (t2.take 8)) := by
    rw [slF_ap, fn_ok (n := 1) (ds := [.int (c + 1)]) (cons_ok (bop_ok rfl rfl addO_ii) rfl) rfl h2, rb_ok, noP_ap, rb_ok, soP_ok (i := ((8 : Nat) : Int)) rfl, rb_ok, slO_str (le_sz (by omega)), cutL_to]; rfl
  obtain ⟨z, hz, x, rfl, q1, q2⟩ := at_of (ds := [.str [], .str [], .str [32], .str [97], .str [46], .str wTheB, .str wBTeh, .str (t2.take 8)]) (i := r) (P := okX) (by simp; omega) (by
    intro d hd
    simp only [List.mem_cons, List.not_mem_nil, or_false] at hd
    rcases hd with rfl | rfl | rfl | rfl | rfl | rfl | rfl | rfl
    · exact ⟨_, rfl, by decide, by decide⟩
    · exact ⟨_, rfl, by decide, by decide⟩
    · exact ⟨_, rfl, by decide, by decide⟩
    · exact ⟨_, rfl, by decide, by decide⟩
    · exact ⟨_, rfl, by decide, by decide⟩
    · exact ⟨_, rfl, by decide, by decide⟩
    · exact ⟨_, rfl, by decide, by decide⟩
    · refine ⟨_, rfl, by rw [List.length_take]; omega, ?_⟩
      rw [List.all_eq_true] at k3 ⊢
      exact fun x hx => k3 x (List.mem_of_mem_take hx))
  refine ⟨x, ?_, q1, q2⟩
  unfold bE2
  refine bop_ok (x := .tup [.str [], .str [], .str [32], .str [97], .str [46], .str wTheB, .str wBTeh, .str (t2.take 8)]) (y := .int (r : Nat)) ?_ (mix_ok rfl rfl h1) hz
  simp only [tupF_ap, consF_ap, cD_ap, hs, rb_ok, nilF_ap]
  first | rfl | exact ofO_le (by simp)
theorem f_edit (c : Int) {t : List Nat} (ht : t.length ≤ 1000) : ∃ (b e : Int) (x : List Nat), f_law_edit [.int c, .str t] = .ok (edD b e x) ∧ x.length ≤ 8 ∧ x.all (· < 128) = true := by
  unfold f_law_edit runD
  have hB : B_law_edit = (seqS (asgS (.nm 2) (fnF 3 f_law_mix (consF (getE 0) (consF (cD (.int 9851)) (consF (bopF addO (callF lenO (consF (getE 1) nilF)) (cD (.int 1))) nilF)))))
    (seqS (asgS (.nm 3) (bopF addO (getE 2) (fnF 3 f_law_mix (consF (getE 0) (consF (cD (.int 9839)) (consF (bopF addO (callF minO (consF (cD (.int 9)) (consF (bopF subI (callF lenO (consF (getE 1) nilF)) (getE 2)) nilF))) (cD (.int 1))) nilF))))))
    (seqS bE1 (seqS (asgS (.nm 4) bE2) (retS (tupF (consF (getE 2) (consF (getE 3) (consF (getE 4) nilF))))))))) := rfl
  have e0 : initE 5 [.int c, .str t] = [.dat (.int c), .dat (.str t), .un, .un, .un] := rfl
  obtain ⟨r0, h0, k0⟩ := f_mixL c 9851 ((t.length : Nat) + 1) (by decide) (by decide) (by omega)
  rw [hB, e0, seqS_nx (asg_lf (d := .int (r0 : Nat)) rfl (mix_ok rfl (bop_ok (len_1 ht rfl) rfl addO_ii) h0))]
  simp only [List.set]
  obtain ⟨m, hm, hm0⟩ : ∃ m : Int, minO [.int 9, .int ((t.length : Nat) - (r0 : Nat))] = some (.int m) ∧ 0 ≤ m := by
    refine ⟨_, rfl, ?_⟩
    split <;> omega
  obtain ⟨r1, h1, k1⟩ := f_mixL c 9839 (m + 1) (by decide) (by decide) (by omega)
  have hmin : callF minO (consF (cD (.int 9)) (consF (bopF subI (callF lenO (consF (getE 1) nilF)) (getE 2)) nilF)) [.dat (.int c), .dat (.str t), .dat (.int (r0 : Nat)), .un, .un] = .ok (.int m) := by
    rw [callF_ap, cons_ok (d := .int 9) rfl (cons_ok (bop_ok (len_1 ht rfl) rfl subI_ii) rfl), rb_ok, hm]; rfl
  rw [seqS_nx (asg_lf (d := .int ((r0 : Nat) + (r1 : Nat))) rfl (bop_ok (x := .int (r0 : Nat)) (y := .int (r1 : Nat)) rfl (mix_ok rfl (bop_ok hmin rfl addO_ii) h1) addO_ii))]
  simp only [List.set]
  obtain ⟨a', b', hE⟩ := bE1_run (c := c) (t := t) (a := (r0 : Nat)) (b := (r0 : Nat) + (r1 : Nat)) (x4 := .un) ht
  rw [seqS_nx hE]
  obtain ⟨x, hx, q1, q2⟩ := bE2_run (c := c) (t := t) (a := a') (b := b') (x4 := .un)
  rw [seqS_nx (asg_lf (d := .str x) rfl hx)]
  simp only [List.set]
  exact ⟨a', b', x, by rw [retS_ap, tup3 rfl rfl rfl]; rfl, q1, q2⟩
end
theorem pD_lf (l : List (Nat × Nat)) : lfAll (l.map pD) = true := by
  rw [lfAll_iff]
  intro d hd
  obtain ⟨q, _, rfl⟩ := List.mem_map.mp hd
  rfl
theorem spl_back {t x : List Nat} {b e : Nat} (h1 : b ≤ e) (h2 : e ≤ t.length) : spl (spl t b e x) b (b + x.length) (cut t b e) = t := by
  unfold spl cut
  have hl : (t.take b).length = b := by rw [List.length_take]; omega
  have e1 : (t.take b ++ (x ++ t.drop e)).take b = t.take b := by
    rw [List.take_append_of_le_length (by omega), List.take_take]; simp
  have e2 : (t.take b ++ (x ++ t.drop e)).drop (b + x.length) = t.drop e := by
    rw [← List.append_assoc, List.drop_append_of_le_length (by simp [hl])]
    rw [List.drop_of_length_le (by simp; omega)]
    rfl
  rw [e1, e2]
  have : List.take (e - b) (List.drop b t) ++ List.drop e t = t.drop b := by
    have : List.drop e t = List.drop (e - b) (List.drop b t) := by rw [List.drop_drop]; congr 1; omega
    rw [this, List.take_append_drop]
  rw [this, List.take_append_drop]
theorem cutto2 (a b c : D) : cutL [a, b, c] none (some 2) = [a, b] := by
  have h1 : HT.sIx 3 3 (some 2) = 2 := by
    have := HT.sIx_nat 3 3 2
    exact this
  unfold cutL
  simp only [List.length_cons, List.length_nil]
  rw [h1, HT.sIx_none]
  rfl
theorem flat_pairs {l : List (Nat × Nat)} (h : l.length ≤ 1000000) (k : Nat) : flatD (k + 2) (.tup (l.map pD)) := by
  refine ⟨by rw [List.length_map]; exact h, fun d hd => ?_⟩
  obtain ⟨q, _, rfl⟩ := List.mem_map.mp hd
  refine ⟨by simp, fun d hd => ?_⟩
  simp only [List.mem_cons, List.not_mem_nil, or_false] at hd
  rcases hd with rfl | rfl <;> simp [flatD]
theorem spl_a {t x : List Nat} {b e : Nat} (ha : t.all (· < 128) = true) (hxa : x.all (· < 128) = true) : (spl t b e x).all (· < 128) = true := by
  rw [List.all_eq_true] at ha hxa ⊢
  intro c hc
  unfold spl at hc
  rcases List.mem_append.mp hc with h | h
  · exact ha c (List.mem_of_mem_take h)
  · rcases List.mem_append.mp h with h | h
    · exact hxa c h
    · exact ha c (List.mem_of_mem_drop h)
end FM

set_option Elab.async false
set_option linter.all false
set_option maxRecDepth 100000
/-! Q05: marks far from an edit; pairs of same marks. -/
namespace FM
open PySem PyProof.Rows L2
theorem ms_iff {t : List Nat} {rs : List Rule} {p : Nat × Flt} : p ∈ ms t rs ↔ ∃ r, rs[p.1]? = some r ∧ p.2 ∈ faults t r := by
  refine ⟨ms_mem, fun ⟨r, h1, h2⟩ => (List.mergeSort_perm (accT t rs) leP).mem_iff.mpr ?_⟩
  unfold accT
  refine List.mem_flatten.mpr ⟨_, List.mem_map.mpr ⟨(r, p.1), List.mem_zipIdx_iff_getElem?.mpr h1, rfl⟩, List.mem_map.mpr ⟨p.2, h2, rfl⟩⟩
theorem ms_nodup (t : List Nat) (rs : List Rule) : (ms t rs).Nodup := by
  refine (List.mergeSort_perm (accT t rs) leP).nodup_iff.mpr ?_
  unfold accT
  have key : ∀ (l : List Rule) (k : Nat), ((l.zipIdx k).map fun p => (faults t p.1).map fun f => (p.2, f)).flatten.Nodup ∧ ∀ p ∈ ((l.zipIdx k).map fun p => (faults t p.1).map fun f => (p.2, f)).flatten, k ≤ p.1 := by
    intro l
    induction l with
    | nil => intro k; simp
    | cons r l ih =>
      intro k
      obtain ⟨h1, h2⟩ := ih (k + 1)
      simp only [List.zipIdx_cons, List.map_cons, List.flatten_cons]
      refine ⟨List.nodup_append.mpr ⟨?_, h1, fun a ha b hb z => ?_⟩, fun p hp => ?_⟩
      · unfold List.Nodup
        rw [List.pairwise_map]
        exact (faults_asc t r).imp fun {f g} hfg z => by
          have := congrArg (·.2.b) z
          simp only at this
          omega
      · obtain ⟨f, _, rfl⟩ := List.mem_map.mp ha
        have := h2 b hb
        rw [← z] at this
        simp only at this
        omega
      · rcases List.mem_append.mp hp with h | h
        · obtain ⟨f, _, rfl⟩ := List.mem_map.mp h
          exact Nat.le_refl _
        · exact Nat.le_of_succ_le (h2 p h)
  exact (key rs 0).1
/-! ### far marks -/
def FarL (t : List Nat) (b lo : Nat) : Prop := lo = 0 ∨ ∃ w ∈ words t, w.2 < b ∧ lo = w.1
def FarR (t : List Nat) (e hi : Nat) : Prop := hi = t.length ∨ ∃ w ∈ words t, e < w.1 ∧ hi = w.2
section
variable {t x : List Nat} {rs : List Rule} {b e lo hi : Nat} {p : Nat × Flt}
theorem spl_take (h1 : b ≤ t.length) : (spl t b e x).take b = t.take b := by
  unfold spl
  rw [List.take_append_of_le_length (by rw [List.length_take]; omega), List.take_take]; simp
theorem spl_len3 (h1 : b ≤ e) (h2 : e ≤ t.length) : (spl t b e x).length = t.length - e + b + x.length := by
  unfold spl
  simp only [List.length_append, List.length_take, List.length_drop]; omega
theorem farL_new (h1 : b ≤ e) (h2 : e ≤ t.length) (h : FarL t b lo) : FarL (spl t b e x) b lo := by
  rcases h with h | ⟨w, hw, hb, rfl⟩
  · exact .inl h
  · exact .inr ⟨w, words_left (by omega) (by rw [spl_len3 h1 h2]; omega) (spl_take (by omega)).symm hw hb, hb, rfl⟩
theorem three (h1 : b ≤ e) (h2 : e ≤ t.length) : t = t.take b ++ (cut t b e ++ t.drop e) := by
  have := spl_back (t := t) (x := []) h1 h2
  conv => lhs; rw [← List.take_append_drop b t]
  congr 1
  unfold cut
  have : List.drop e t = List.drop (e - b) (List.drop b t) := by rw [List.drop_drop]; congr 1; omega
  rw [this, List.take_append_drop]
theorem words_ne {t : List Nat} {w : Nat × Nat} (h : w ∈ words t) : w.1 < w.2 ∧ w.2 ≤ t.length := runs_in h
theorem farR_new (h1 : b ≤ e) (h2 : e ≤ t.length) (h : FarR t e hi) : e ≤ hi ∧ FarR (spl t b e x) (b + x.length) (hi - e + b + x.length) := by
  have l1 : (t.take b).length = b := by rw [List.length_take]; omega
  have l2 : (cut t b e).length = e - b := cut_len h1 h2
  rcases h with h | ⟨w, hw, hb, rfl⟩
  · exact ⟨by omega, .inl (by rw [spl_len3 h1 h2, h])⟩
  · have hlt := words_ne hw
    refine ⟨by omega, .inr ?_⟩
    rw [three h1 h2] at hw
    have := words_right (X := x) hw (by rw [l1, l2]; omega)
    rw [l1, l2] at this
    exact ⟨_, this, by simp only; omega, by simp only; omega⟩
theorem left_ms (h1 : b ≤ e) (h2 : e ≤ t.length) (ho : ∀ r ∈ rs, r.ok = true) (h : FarL t b lo) (hp : p ∈ ms t rs) (hl : p.2.e ≤ lo) : p ∈ ms (spl t b e x) rs := by
  have hg := (ms_good ho hp).lt
  obtain ⟨r, q1, q2⟩ := ms_mem hp
  rcases h with h | ⟨w, hw, hb, rfl⟩
  · omega
  · exact ms_iff.mpr ⟨r, q1, left_far (by omega) (by rw [spl_len3 h1 h2]; omega) (spl_take (by omega)).symm hw hb q2 hl⟩
theorem right_ms (h1 : b ≤ e) (h2 : e ≤ t.length) (ho : ∀ r ∈ rs, r.ok = true) (h : FarR t e hi) (hp : p ∈ ms t rs) (hl : hi ≤ p.2.b) : (p.1, mvF e (b + x.length) p.2) ∈ ms (spl t b e x) rs := by
  have hg := (ms_good ho hp).lt
  have l1 : (t.take b).length = b := by rw [List.length_take]; omega
  have l2 : (cut t b e).length = e - b := cut_len h1 h2
  obtain ⟨r, q1, q2⟩ := ms_mem hp
  rcases h with h | ⟨w, hw, hb, rfl⟩
  · omega
  · refine ms_iff.mpr ⟨r, q1, ?_⟩
    rw [three h1 h2] at hw q2
    have := right_far (X := x) hw (by rw [l1, l2]; omega) q2 hl
    rw [l1, l2] at this
    rw [show b + (e - b) = e by omega] at this
    exact this
end
/-! ### pairs -/
section
variable {b e : Nat} {x : List Nat} {later : List (Nat × Flt)}
theorem pairs_mem {q : Nat × Nat} : ∀ {k : Nat} {l : List (Nat × Flt)}, q ∈ pairs b e x later k l → ∃ j p f, q.1 = k + j ∧ l[j]? = some p ∧ led b e x p.2 = some f ∧ later[q.2]? = some (p.1, f)
  | k, [], h => by simp [pairs] at h
  | k, p :: r, h => by
    rcases List.mem_append.mp h with h | h
    · cases hl : led b e x p.2 with
      | none => rw [hl] at h; simp at h
      | some f =>
        rw [hl] at h
        simp only at h
        split at h
        · rename_i hin
          simp only [List.mem_singleton] at h
          subst h
          exact ⟨0, p, f, rfl, rfl, hl, by
            have hi := List.idxOf_lt_length_of_mem hin
            rw [List.getElem?_eq_getElem hi, List.getElem_idxOf hi]⟩
        · simp at h
    · obtain ⟨j, p', f, e1, e2, e3, e4⟩ := pairs_mem h
      exact ⟨j + 1, p', f, by omega, by simpa using e2, e3, e4⟩
theorem pairs_asc : ∀ (k : Nat) (l : List (Nat × Flt)), (pairs b e x later k l).Pairwise fun q q' => q.1 < q'.1
  | k, [] => by simp [pairs]
  | k, p :: r => by
    unfold pairs
    rw [List.pairwise_append]
    refine ⟨?_, pairs_asc (k + 1) r, fun q hq q' hq' => ?_⟩
    · cases led b e x p.2 with
      | none => simp
      | some f => simp only; split <;> simp
    · obtain ⟨j, _, _, e1, _⟩ := pairs_mem hq'
      have : q.1 = k := by
        cases hl : led b e x p.2 with
        | none => rw [hl] at hq; simp at hq
        | some f =>
          rw [hl] at hq
          simp only at hq
          split at hq
          · simp only [List.mem_singleton] at hq; rw [hq]
          · simp at hq
      omega
theorem led_inj {f g h : Flt} (hbe : b ≤ e) (hf : f.b < f.e) (hg : g.b < g.e) (h1 : led b e x f = some h) (h2 : led b e x g = some h) : f = g := by
  unfold led at h1 h2
  split at h1
  · split at h2
    · rw [← h2] at h1; exact Option.some.inj h1
    · split at h2
      · simp only [Option.some.injEq] at h1 h2
        subst h1
        rename_i a1 a2 a3
        have e1 := congrArg Flt.b h2
        have e2 := congrArg Flt.e h2
        simp only at e1 e2
        omega
      · cases h2
  · split at h1
    · split at h2
      · simp only [Option.some.injEq] at h1 h2
        subst h2
        have e1 := congrArg Flt.b h1
        have e2 := congrArg Flt.e h1
        simp only at e1 e2
        omega
      · split at h2
        · simp only [Option.some.injEq] at h1 h2
          rw [← h2] at h1
          simp only [Flt.mk.injEq] at h1
          obtain ⟨b1, e1, m1⟩ := f
          obtain ⟨b2, e2, m2⟩ := g
          obtain ⟨q1, q2, q3⟩ := h1
          rename_i a1 a2 a3 a4
          simp only at a1 a2 a3 a4 hf hg q1 q2 q3
          simp only [Flt.mk.injEq]
          exact ⟨by omega, by omega, q3⟩
        · cases h2
    · cases h1
theorem pairs_snd {l : List (Nat × Flt)} (hn : l.Nodup) (hbe : b ≤ e) (hl : ∀ p ∈ l, p.2.b < p.2.e) : ((pairs b e x later 0 l).map (·.2)).Nodup := by
  unfold List.Nodup
  rw [List.pairwise_map]
  refine (pairs_asc 0 l).imp_of_mem fun {q q'} hq hq' hlt z => ?_
  obtain ⟨j, p, f, e1, e2, e3, e4⟩ := pairs_mem hq
  obtain ⟨j', p', f', e1', e2', e3', e4'⟩ := pairs_mem hq'
  rw [← z, e4] at e4'
  simp only [Option.some.injEq, Prod.mk.injEq] at e4'
  obtain ⟨w1, w2⟩ := e4'
  subst w2
  have hp : p = p' := Prod.ext w1 (led_inj hbe (hl p (List.mem_of_getElem? e2)) (hl p' (List.mem_of_getElem? e2')) e3 e3')
  subst hp
  obtain ⟨i1, g1⟩ := List.getElem?_eq_some_iff.mp e2
  obtain ⟨i2, g2⟩ := List.getElem?_eq_some_iff.mp e2'
  have hjj := List.pairwise_iff_getElem.mp hn j j' i1 i2 (by omega)
  rw [g1, g2] at hjj
  exact hjj rfl
theorem led_back {t : List Nat} {f g : Flt} (hbe : b ≤ e) (he : e ≤ t.length) (hf : f.b < f.e) (h : led b e x f = some g) : led b (b + x.length) (cut t b e) g = some f := by
  have hc : (cut t b e).length = e - b := cut_len hbe he
  unfold led at h
  split at h
  · rename_i h1
    simp only [Option.some.injEq] at h
    subst h
    unfold led
    rw [if_pos h1]
  · split at h
    · simp only [Option.some.injEq] at h
      subst h
      unfold led
      simp only
      rw [if_neg (by omega), if_pos (by omega), hc]
      obtain ⟨fb, fe, fm⟩ := f
      rename_i a1 a2
      simp only at a1 a2 hf
      simp only [Option.some.injEq, Flt.mk.injEq, and_true]
      exact ⟨by omega, by omega⟩
    · cases h
theorem led_lt {f g : Flt} (hf : f.b < f.e) (h : led b e x f = some g) : g.b < g.e := by
  unfold led at h
  split at h
  · simp only [Option.some.injEq] at h; subst h; exact hf
  · split at h
    · simp only [Option.some.injEq] at h; subst h; simp only; omega
    · cases h
end
/-! ### pairs as data -/
theorem leD_pD {p q : Nat × Nat} (h : p.1 < q.1) : leD (pD p) (pD q) = true := by
  show (!PySem.W.dataLt (toPy (pD q)) (toPy (pD p))) = true
  unfold PySem.W.dataLt
  simp only [pD, toPy, toPyAll, PySem.W.keyToks, PySem.W.keyToksAll, List.cons_append, List.nil_append, lex_cons, itemOrd, itemLt]
  simp [PyProof.Rows.lexLt]
  have hi : ∀ a b : Int, itemLt (Sum.inl a) (Sum.inl b) = decide (a < b) := fun _ _ => rfl
  simp only [hi]
  simp
  omega
theorem okSortP {l : List (Nat × Nat)} (h : l.length ≤ 1000000) : OkSort (l.map pD) where
  lf := pD_lf l
  al := fun a ha b hb => by
    obtain ⟨x, hx, rfl⟩ := List.mem_map.mp ha
    obtain ⟨y, hy, rfl⟩ := List.mem_map.mp hb
    obtain ⟨p, hp, rfl⟩ := List.mem_map.mp hx
    obtain ⟨q, hq, rfl⟩ := List.mem_map.mp hy
    rfl
  so := .inl fun d hd => by
    obtain ⟨x, hx, rfl⟩ := List.mem_map.mp hd
    obtain ⟨p, hp, rfl⟩ := List.mem_map.mp hx
    exact ⟨_, _, rfl⟩
  dp := fun d hd => by
    obtain ⟨p, hp, rfl⟩ := List.mem_map.mp hd
    simp [pD, toPy, toPyAll, PyData.depth, PyData.depthAll]
  ln := by rw [List.length_map]; exact h
theorem sortT_pairs {l : List (Nat × Nat)} (h : l.length ≤ 1000000) (ha : l.Pairwise fun q q' => q.1 < q'.1) : sortT (.tup (l.map pD)) = some (l.map pD) := by
  unfold sortT
  simp only
  rw [if_pos (okSortP h), List.mergeSort_of_pairwise]
  rw [List.pairwise_map]
  exact ha.imp fun h => leD_pD h
theorem pD_nb (q : Nat × Nat) : (pD q).nb = true := rfl
theorem ne_self {d : D} (h1 : d.nb = true) (h2 : d.okN 64 = true) : neO d d = some (.bl false) := by
  unfold neO eqB
  rw [(eqv_iff d d h1 h1).mpr rfl, h2]
  split <;> rfl
theorem ints_of (l : List (Nat × Nat)) : intsO (l.map fun q => D.int (q.2 : Nat)) = some (l.map fun q => ((q.2 : Nat) : Int)) := by
  induction l with
  | nil => rfl
  | cons q l ih => simp only [List.map_cons, intsO, ih]; rfl
end FM

set_option Elab.async false
set_option linter.all false
set_option maxRecDepth 100000
/-! Y03: there are fewer than 64 marks. -/
namespace FM
open PySem PyProof.Rows L2
/-- how many stretches with p begin; f: whether a sign with p stands ahead -/
def nr (p : Nat → Bool) : Bool → List Nat → Nat
  | _, [] => 0
  | f, c :: r => (if p c = true ∧ f = false then 1 else 0) + nr p (p c) r
theorem nr_flag (p : Nat → Bool) (f : Bool) (l : List Nat) : nr p f l ≤ nr p false l := by
  cases l with
  | nil => simp [nr]
  | cons c r =>
    simp only [nr]
    cases f <;> simp
theorem nr_app (p : Nat → Bool) (B : List Nat) : ∀ (A : List Nat) (f : Bool), nr p f (A ++ B) ≤ nr p f A + nr p false B
  | [], f => by simpa [nr] using nr_flag p f B
  | c :: A, f => by
    have := nr_app p B A (p c)
    simp only [List.cons_append, nr]
    omega
theorem nr_take (p : Nat → Bool) : ∀ (A : List Nat) (n : Nat) (f : Bool), nr p f (A.take n) ≤ nr p f A
  | [], n, f => by simp [nr]
  | c :: A, 0, f => by simp [nr]
  | c :: A, n + 1, f => by
    have := nr_take p A n (p c)
    simp only [List.take_succ_cons, nr]
    omega
theorem nr_in {p : Nat → Bool} : ∀ {w l : List Nat}, (∀ c ∈ w, p c = true) → nr p true (w ++ l) = nr p true l
  | [], l, _ => rfl
  | c :: w, l, h => by
    simp only [List.cons_append, nr, h c (by simp)]
    rw [nr_in (fun x hx => h x (by simp [hx]))]
    simp
theorem nr_run {p : Nat → Bool} {w l : List Nat} (h : ∀ c ∈ w, p c = true) (hw : w ≠ []) : nr p false (w ++ l) = 1 + nr p true l := by
  obtain ⟨c, w', rfl⟩ := List.exists_cons_of_ne_nil hw
  simp only [List.cons_append, nr, h c (by simp)]
  rw [nr_in (fun x hx => h x (by simp [hx]))]
  simp
theorem nr_gap {p : Nat → Bool} : ∀ {g l : List Nat}, (∀ c ∈ g, p c = false) → nr p false (g ++ l) = nr p false l
  | [], l, _ => rfl
  | c :: g, l, h => by
    simp only [List.cons_append, nr, h c (by simp)]
    rw [nr_gap (fun x hx => h x (by simp [hx]))]
    simp
theorem nr_head {p : Nat → Bool} {l : List Nat} (h : ∀ c r, l = c :: r → p c = false) : nr p true l = nr p false l := by
  cases l with
  | nil => rfl
  | cons c r => simp [nr, h c r rfl]
theorem nr_seg {p : Nat → Bool} : ∀ {sg : Sg} {last : List Nat} {f : Bool}, WF p f sg last → nr p false (joinS sg last) = sg.length
  | [], last, f, h => by
    have := nr_gap (p := p) (g := last) (l := []) h
    rw [List.append_nil] at this
    simp [joinS, this, nr]
  | q :: r, last, f, h => by
    obtain ⟨a1, a2, a3, a4, a5⟩ := h
    rw [joinS, nr_gap a1, nr_run a2 a3, nr_head (head_not a5), nr_seg a5, List.length_cons]
    omega
theorem runs_nr (p : Nat → Bool) (l : List Nat) : (runs p 0 l).length = nr p false l := by
  obtain ⟨sg, last, hw, rfl⟩ := seg_ex p l.length l (Nat.le_refl _)
  rw [runs_join sg last true 0 hw, nr_seg hw]
  have : ∀ (a : Sg) (k : Nat), (wp k a).length = a.length := by
    intro a
    induction a with
    | nil => intro k; rfl
    | cons q a ih => intro k; simp [wp, ih]
  exact this sg 0
section
variable {c : Int} {qs : List (List Nat × List Nat)} {many : Nat}
theorem nr_flat {p : Nat → Bool} : ∀ {qs : List (List Nat × List Nat)}, (∀ q ∈ qs, nr p false (q.1 ++ q.2) ≤ 1) → nr p false (flatQ qs) ≤ qs.length
  | [], _ => by simp [flatQ, nr]
  | q :: qs, h => by
    rw [flatQ_cons]
    have := nr_app p (flatQ qs) (q.1 ++ q.2) false
    have := h q (by simp)
    have := nr_flat (qs := qs) fun q' hq => h q' (by simp [hq])
    simp only [List.length_cons]
    omega
theorem cnt_flat {p : Nat → Bool} : ∀ {qs : List (List Nat × List Nat)}, (∀ q ∈ qs, (q.1 ++ q.2).countP p ≤ 1) → (flatQ qs).countP p ≤ qs.length
  | [], _ => by simp [flatQ]
  | q :: qs, h => by
    rw [flatQ_cons, List.countP_append]
    have := h q (by simp)
    have := cnt_flat (qs := qs) fun q' hq => h q' (by simp [hq])
    simp only [List.length_cons]
    omega
theorem Txt.mem (h : Txt c qs) {q : List Nat × List Nat} (hq : q ∈ qs) : ∃ s, PcOk s q := by
  obtain ⟨i, hi⟩ := List.mem_iff_getElem?.mp hq
  exact ⟨_, h.pc i q hi⟩
theorem rep_not {p : Nat → Bool} (h32 : p 32 = false) (k : Nat) : ∀ c ∈ List.replicate k 32, p c = false := fun c hc => by
  rw [(List.mem_replicate.mp hc).2]; exact h32
theorem words_few (h : Txt c qs) : (words ((flatQ qs).take many)).length ≤ qs.length := by
  unfold words
  rw [runs_nr]
  refine Nat.le_trans (nr_take _ _ _ _) (nr_flat fun q hq => ?_)
  obtain ⟨s, ok⟩ := h.mem hq
  obtain ⟨ch, k, e, hk⟩ := ok.gf
  have h32 : isL 32 = false := by decide
  by_cases hw : q.1 = []
  · rw [hw, List.nil_append, e]
    simp only [nr]
    have hr := nr_gap (p := isL) (g := List.replicate k 32) (l := []) (rep_not h32 k)
    rw [List.append_nil] at hr
    have := nr_flag isL (isL ch) (List.replicate k 32)
    rw [hr] at this
    simp only [nr] at this
    split <;> omega
  · rw [nr_run ok.wl hw, e]
    have hr := nr_gap (p := isL) (g := List.replicate k 32) (l := []) (rep_not h32 k)
    rw [List.append_nil] at hr
    have := nr_flag isL (isL ch) (List.replicate k 32)
    rw [hr] at this
    simp only [nr] at this ⊢
    simp
    omega
theorem blanks_few (h : Txt c qs) : (runs (fun c => decide (c ∈ [32])) 0 ((flatQ qs).take many)).length ≤ qs.length := by
  rw [runs_nr]
  refine Nat.le_trans (nr_take _ _ _ _) (nr_flat fun q hq => ?_)
  obtain ⟨s, ok⟩ := h.mem hq
  obtain ⟨ch, k, e, hk⟩ := ok.gf
  rw [nr_gap (fun x hx => bl_isL (ok.wl x hx)), e]
  simp only [nr]
  have hin := nr_in (p := fun c => decide (c ∈ [32])) (w := List.replicate k 32) (l := []) (fun x hx => by rw [(List.mem_replicate.mp hx).2]; decide)
  rw [List.append_nil] at hin
  by_cases h1 : ch = 32
  · subst h1
    have : decide (32 ∈ [32]) = true := by decide
    rw [this, hin]
    simp [nr]
  · have hf : decide (ch ∈ [32]) = false := by simp [h1]
    rw [hf]
    cases k with
    | zero => simp [nr]
    | succ k =>
      have := nr_run (p := fun c => decide (c ∈ [32])) (w := List.replicate (k + 1) 32) (l := []) (fun x hx => by rw [(List.mem_replicate.mp hx).2]; decide) (by simp)
      rw [List.append_nil] at this
      rw [this]
      simp [nr]
theorem sign_few (h : Txt c qs) {d : Nat} (hd : isL d = false) (h32 : d ≠ 32) : ((flatQ qs).take many).count d ≤ qs.length := by
  refine Nat.le_trans (List.Sublist.count_le d (List.take_sublist _ _)) ?_
  show (flatQ qs).countP (· == d) ≤ _
  refine cnt_flat fun q hq => ?_
  obtain ⟨s, ok⟩ := h.mem hq
  obtain ⟨ch, k, e, hk⟩ := ok.gf
  rw [List.countP_append, e, List.countP_cons]
  have e1 : q.1.countP (· == d) = 0 := List.countP_eq_zero.mpr fun x hx z => by
    have : x = d := by simpa using z
    rw [← this, ok.wl x hx] at hd; cases hd
  have e2 : (List.replicate k 32).countP (· == d) = 0 := List.countP_eq_zero.mpr fun x hx z => by
    have : x = d := by simpa using z
    rw [← this] at h32; exact h32 (List.mem_replicate.mp hx).2
  rw [e1, e2]
  split <;> omega
end
theorem signs_cnt (t : List Nat) (d : Nat) : (signs t d).length = t.count d := by
  unfold signs
  rw [List.length_map]
  have key : ∀ (n : Nat) (t : List Nat), t.length = n → ((List.range t.length).filter fun k => decide (t[k]? = some d)).length = t.count d := by
    intro n
    induction n with
    | zero =>
      intro t ht
      have : t = [] := List.eq_nil_of_length_eq_zero ht
      subst this; rfl
    | succ n ih =>
      intro t ht
      obtain ⟨a, x, rfl⟩ := (snoc_cases t).resolve_left (fun z => by rw [z] at ht; simp at ht)
      rw [List.length_append, List.length_singleton] at ht
      rw [List.length_append, List.length_singleton, List.range_succ, List.filter_append, List.length_append, List.count_append, ← ih a (by omega)]
      congr 1
      · congr 1
        apply List.filter_congr
        intro k hk
        rw [List.getElem?_append_left (List.mem_range.mp hk)]
      · have : (a ++ [x])[a.length]? = some x := by simp
        rw [List.filter_cons, this]
        by_cases hx : x = d
        · subst hx; simp
        · have : ¬ (some x = some d) := fun z => hx (Option.some.inj z)
          rw [decide_eq_false this]
          simp [hx]
  exact key t.length t rfl
theorem nr_le (p : Nat → Bool) : ∀ (l : List Nat) (f : Bool), nr p f l ≤ l.countP p
  | [], f => by simp [nr]
  | c :: l, f => by
    have := nr_le p l (p c)
    simp only [nr, List.countP_cons]
    by_cases h : p c = true
    · rw [if_pos h]; split <;> omega
    · rw [if_neg h, if_neg (fun z => h z.1)]; omega
theorem WF_ne {p : Nat → Bool} : ∀ {sg : Sg} {last : List Nat} {f : Bool}, WF p f sg last → ∀ q ∈ sg, 1 ≤ q.2.length
  | q :: r, last, f, h, q', hq => by
    rcases List.mem_cons.mp hq with rfl | hq
    · exact List.length_pos_iff.mpr h.2.2.1
    · exact WF_ne h.2.2.2.2 q' hq
/-! ### faults of words -/
theorem atS_one (r : Rule) (k : Nat) (prev : Option (List Nat)) (q : List Nat × List Nat) : (atS r k prev q).length ≤ 1 := by
  cases r with
  | twice =>
    cases prev with
    | none => simp [atS]
    | some u => simp only [atS]; split <;> simp
  | long n => simp only [atS]; split <;> simp
  | word x y => simp only [atS]; split <;> simp
  | great => simp only [atS]; split <;> simp
  | blanks => simp [atS]
  | sign c => simp [atS]
theorem fs_few (r : Rule) : ∀ (a : Sg) (k : Nat) (prev : Option (List Nat)), (fs r k prev a).length ≤ a.length
  | [], _, _ => by simp [fs]
  | q :: b, k, prev => by
    have := fs_few r b (k + q.1.length + q.2.length) (some q.2)
    have := atS_one r k prev q
    simp only [fs, List.length_append, List.length_cons]
    omega
theorem fs_full (r : Rule) : ∀ (a : Sg) (k : Nat) (prev : Option (List Nat)), (fs r k prev a).length = a.length → ∀ q ∈ a, ∃ k' prev', (atS r k' prev' q).length = 1
  | [], _, _, _, q, h => by cases h
  | q :: b, k, prev, h, q', hq => by
    have h1 := fs_few r b (k + q.1.length + q.2.length) (some q.2)
    have h2 := atS_one r k prev q
    simp only [fs, List.length_append, List.length_cons] at h
    rcases List.mem_cons.mp hq with rfl | hq
    · exact ⟨k, prev, by omega⟩
    · exact fs_full r b (k + q.1.length + q.2.length) (some q.2) (by omega) q' hq
/-- letters and others, in a row -/
theorem seg_cnt {sg : Sg} {last : List Nat} : ∀ {f : Bool} {n : Nat}, WF isL f sg last → (∀ q ∈ sg, n ≤ q.2.length) → n * sg.length ≤ (joinS sg last).countP isL ∧ sg.length ≤ (joinS sg last).countP (fun c => !isL c) + (if f then 1 else 0) := by
  induction sg with
  | nil => intro f n _ _; simp
  | cons q r ih =>
    intro f n h hn
    obtain ⟨a1, a2, a3, a4, a5⟩ := h
    obtain ⟨i1, i2⟩ := ih a5 (fun q' hq => hn q' (by simp [hq]))
    have hq := hn q (by simp)
    simp only [joinS, List.countP_append, List.length_cons]
    have c1 : q.2.countP isL = q.2.length := List.countP_eq_length.mpr a2
    have c2 : q.1.countP (fun c => !isL c) = q.1.length := List.countP_eq_length.mpr fun x hx => by simp [a1 x hx]
    rw [c1, c2, Nat.mul_succ]
    simp only [Bool.false_eq_true, if_false, Nat.add_zero] at i2
    refine ⟨by omega, ?_⟩
    rcases a4 with rfl | h4
    · simp; omega
    · have : 0 < q.1.length := List.length_pos_iff.mpr h4
      omega
theorem seg_eq {sg : Sg} {last : List Nat} : ∀ {f : Bool} {n : Nat}, WF isL f sg last → (∀ q ∈ sg, q.2.length = n) → (joinS sg last).countP isL = n * sg.length := by
  induction sg with
  | nil =>
    intro f n h _
    simp only [joinS, List.length_nil, Nat.mul_zero]
    exact List.countP_eq_zero.mpr fun x hx z => by rw [h x hx] at z; cases z
  | cons q r ih =>
    intro f n h hn
    obtain ⟨a1, a2, a3, a4, a5⟩ := h
    have i1 := ih a5 (fun q' hq => hn q' (by simp [hq]))
    have hq := hn q (by simp)
    simp only [joinS, List.countP_append, List.length_cons]
    have c1 : q.2.countP isL = q.2.length := List.countP_eq_length.mpr a2
    have c2 : q.1.countP isL = 0 := List.countP_eq_zero.mpr fun x hx z => by rw [a1 x hx] at z; cases z
    rw [c1, c2, Nat.mul_succ, i1]
    omega
theorem cnt_two (l : List Nat) : l.length = l.countP isL + l.countP (fun c => !isL c) := by
  induction l with
  | nil => rfl
  | cons c l ih =>
    simp only [List.length_cons, List.countP_cons, ih]
    cases isL c <;> simp <;> omega
/-- the signs that a rule takes up -/
def own (r : Rule) : Nat → Bool := match r with
  | .sign d => fun c => c == d
  | .blanks => fun c => c == 32
  | _ => isL
theorem three_own {p q r : Nat → Bool} (h : ∀ c, (p c = true → q c = false ∧ r c = false) ∧ (q c = true → r c = false)) (l : List Nat) : l.countP p + l.countP q + l.countP r ≤ l.length := by
  induction l with
  | nil => simp
  | cons c l ih =>
    obtain ⟨h1, h2⟩ := h c
    simp only [List.countP_cons, List.length_cons]
    cases hp : p c with
    | true =>
      obtain ⟨x, y⟩ := h1 hp
      rw [x, y]; simp; omega
    | false =>
      cases hq : q c with
      | true => rw [h2 hq]; simp; omega
      | false => cases r c <;> simp <;> omega
def plainR (r : Rule) : Prop := r = .blanks ∨ r = .great ∨ ∃ d, r = .sign d ∧ isL d = false ∧ d ≠ 32
theorem own_apart {r r' : Rule} (h : plainR r) (h' : plainR r') (hne : r ≠ r') (c : Nat) (hc : own r c = true) : own r' c = false := by
  have l32 : isL 32 = false := by decide
  rcases h with rfl | rfl | ⟨d, rfl, d1, d2⟩ <;> rcases h' with rfl | rfl | ⟨d', rfl, d1', d2'⟩
  · exact absurd rfl hne
  · have : c = 32 := by simpa [own] using hc
    subst this; exact l32
  · have : c = 32 := by simpa [own] using hc
    subst this
    show (32 == d') = false
    simp; exact fun z => d2' z.symm
  · by_cases e : c = 32
    · subst e
      have : isL 32 = true := hc
      rw [l32] at this; cases this
    · show (c == 32) = false
      simp [e]
  · exact absurd rfl hne
  · by_cases e : c = d'
    · subst e
      have : isL c = true := hc
      rw [d1'] at this; cases this
    · show (c == d') = false
      simp [e]
  · have : c = d := by simpa [own] using hc
    subst this
    show (c == 32) = false
    simp [d2]
  · have : c = d := by simpa [own] using hc
    subst this; exact d1
  · have : c = d := by simpa [own] using hc
    subst this
    show (c == d') = false
    have : c ≠ d' := fun z => hne (by rw [z])
    simp [this]
theorem sum_le {f : Rule → Nat} : ∀ {rs : List Rule}, (∀ r ∈ rs, f r ≤ 16) → (rs.map f).sum ≤ 16 * rs.length
  | [], _ => by simp
  | r :: rs, h => by
    have := h r (by simp)
    have := sum_le (rs := rs) fun r' hr => h r' (by simp [hr])
    simp only [List.map_cons, List.sum_cons, List.length_cons]
    omega
theorem accT_sum (t : List Nat) (rs : List Rule) : (accT t rs).length = (rs.map fun r => (faults t r).length).sum := by
  unfold accT
  have : ∀ (l : List Rule) (k : Nat), (((l.zipIdx k).map fun p => (faults t p.1).map fun f => (p.2, f)).flatten).length = (l.map fun r => (faults t r).length).sum := by
    intro l
    induction l with
    | nil => intro k; rfl
    | cons r l ih => intro k; simp only [List.zipIdx_cons, List.map_cons, List.flatten_cons, List.length_append, List.length_map, ih, List.sum_cons]
  exact this rs 0
theorem few_marks {c : Int} {qs : List (List Nat × List Nat)} {many : Nat} {rs : List Rule} (h : Txt c qs) (hm : many ≤ 40) (hl : qs ≠ [] → (flatQ qs.dropLast).length < many) (hr : rs.length ≤ 4) (hn : rs.Nodup) (ho : ∀ r ∈ rs, r.ok = true) : (ms ((flatQ qs).take many) rs).length < 64 := by
  obtain ⟨h16, h19⟩ := few_pieces h hm hl
  generalize ht : (flatQ qs).take many = t at *
  have htl : t.length ≤ 40 := by rw [← ht, List.length_take]; omega
  have hw : (words t).length ≤ qs.length := by rw [← ht]; exact words_few h
  obtain ⟨sg, last, wf, hj⟩ := seg_ex isL t.length t (Nat.le_refl _)
  have hsg : sg.length = (words t).length := by
    unfold words
    rw [runs_nr, hj, nr_seg wf]
  have hper : ∀ r, r ≠ .blanks → (perWord t r).length ≤ sg.length := fun r hb => by
    rw [hj, perWord_join hb wf]; exact fs_few r sg 0 none
  -- what the rules are about
  have sgn : ∀ d, Rule.sign d ∈ rs → isL d = false ∧ d ≠ 32 := fun d hd => by
    have := ho _ hd
    simp only [Rule.ok, signC, isSm, isGr, Bool.and_eq_true, Bool.not_eq_true', decide_eq_true_eq, Bool.and_eq_false_iff, decide_eq_false_iff_not] at this
    refine ⟨?_, by omega⟩
    unfold isL
    simp only [decide_eq_false_iff_not, tLetters, List.mem_cons, List.not_mem_nil, or_false]
    omega
  have each : ∀ r ∈ rs, (faults t r).length ≤ 16 := fun r hrr => by
    cases hr' : r with
    | blanks =>
      show (blanks t).length ≤ 16
      unfold blanks
      rw [List.length_map]
      refine Nat.le_trans (List.length_filter_le _ _) ?_
      have := blanks_few (many := many) h
      rw [ht] at this
      omega
    | sign d =>
      show (signs t d).length ≤ 16
      rw [signs_cnt]
      obtain ⟨z1, z2⟩ := sgn d (hr' ▸ hrr)
      have := sign_few (many := many) h z1 z2
      rw [ht] at this
      omega
    | _ =>
      all_goals
        rw [← hr']
        have : faults t r = perWord t r := by rw [hr']; rfl
        rw [this]
        have := hper r (by rw [hr']; simp)
        omega
  have hlen : (ms t rs).length = (rs.map fun r => (faults t r).length).sum := by
    rw [← accT_sum]; exact (List.mergeSort_perm (accT t rs) leP).length_eq
  rw [hlen]
  apply Classical.byContradiction
  intro hbig
  -- there are four rules, each with sixteen marks
  match rs, hr with
  | [], _ => simp at hbig
  | [r1], _ =>
    have := sum_le each
    simp only [List.length_cons, List.length_nil] at this
    omega
  | [r1, r2], _ =>
    have := sum_le each
    simp only [List.length_cons, List.length_nil] at this
    omega
  | [r1, r2, r3], _ =>
    have := sum_le each
    simp only [List.length_cons, List.length_nil] at this
    omega
  | [r1, r2, r3, r4], _ =>
    have e1 := each r1 (by simp)
    have e2 := each r2 (by simp)
    have e3 := each r3 (by simp)
    have e4 := each r4 (by simp)
    simp only [List.map_cons, List.map_nil, List.sum_cons, List.sum_nil] at hbig
    have all16 : ∀ r ∈ [r1, r2, r3, r4], (faults t r).length = 16 := fun r hrr => by
      simp only [List.mem_cons, List.not_mem_nil, or_false] at hrr
      rcases hrr with rfl | rfl | rfl | rfl <;> omega
    have two := cnt_two t
    -- what each can be
    have wide : ∀ n, sg.length = 16 → 2 ≤ n → (∀ q ∈ sg, n ≤ q.2.length) → False := fun n hs hn2 hall => by
      obtain ⟨i1, i2⟩ := seg_cnt wf hall
      rw [← hj, hs] at i1 i2
      have : 2 * 16 ≤ n * 16 := Nat.mul_le_mul_right 16 hn2
      simp only [if_true] at i2
      omega
    have perw : ∀ r ∈ [r1, r2, r3, r4], r ≠ .blanks → faults t r = perWord t r → sg.length = 16 ∧ (fs r 0 none sg).length = sg.length := fun r hrr hb hf => by
      have := all16 r hrr
      rw [hf] at this
      have h2 := fs_few r sg 0 none
      rw [hj, perWord_join hb wf] at this
      exact ⟨by omega, by omega⟩
    have plain : ∀ r ∈ [r1, r2, r3, r4], plainR r ∧ 16 ≤ t.countP (own r) := fun r hrr => by
      have h16r := all16 r hrr
      cases hr' : r with
      | blanks =>
        subst hr'
        refine ⟨.inl rfl, ?_⟩
        have h1 : (blanks t).length = 16 := h16r
        unfold blanks at h1
        rw [List.length_map] at h1
        have h2 := List.length_filter_le (fun w : Nat × Nat => decide (w.1 + 1 < w.2)) (runs (fun c => decide (c ∈ [32])) 0 t)
        have h3 := runs_nr (fun c => decide (c ∈ [32])) t
        have h4 := nr_le (fun c => decide (c ∈ [32])) t false
        have h5 : t.countP (own .blanks) = t.countP (fun c => decide (c ∈ [32])) := by
          apply List.countP_congr
          intro x _
          simp [own]
        omega
      | sign d =>
        subst hr'
        obtain ⟨z1, z2⟩ := sgn d hrr
        refine ⟨.inr (.inr ⟨d, rfl, z1, z2⟩), ?_⟩
        have : (signs t d).length = 16 := h16r
        rw [signs_cnt] at this
        exact Nat.le_of_eq this.symm
      | great =>
        subst hr'
        refine ⟨.inr (.inl rfl), ?_⟩
        obtain ⟨hs, _⟩ := perw _ hrr (by simp) rfl
        obtain ⟨i1, _⟩ := seg_cnt (n := 1) wf (WF_ne wf)
        rw [← hj, hs] at i1
        show 16 ≤ t.countP isL
        omega
      | twice =>
        exfalso
        subst hr'
        obtain ⟨hs, hf⟩ := perw _ hrr (by simp) rfl
        cases sg with
        | nil => simp at hs
        | cons q b =>
          have := fs_few .twice b (0 + q.1.length + q.2.length) (some q.2)
          simp only [fs, atS, List.nil_append, List.length_cons] at hf
          omega
      | long n =>
        exfalso
        subst hr'
        obtain ⟨hs, hf⟩ := perw _ hrr (by simp) rfl
        have hok := ho _ hrr
        simp only [Rule.ok, Bool.and_eq_true, decide_eq_true_eq] at hok
        refine wide 2 hs (by omega) fun q hq => ?_
        obtain ⟨k', p', h1⟩ := fs_full _ sg 0 none hf q hq
        simp only [atS] at h1
        split at h1
        · omega
        · simp at h1
      | word x y =>
        exfalso
        subst hr'
        obtain ⟨hs, hf⟩ := perw _ hrr (by simp) rfl
        have hall : ∀ q ∈ sg, q.2.length = x.length := fun q hq => by
          obtain ⟨k', p', h1⟩ := fs_full _ sg 0 none hf q hq
          simp only [atS] at h1
          split at h1
          · rename_i hx
            rw [← hx]; simp [low]
          · simp at h1
        have hc := seg_eq wf hall
        rw [← hj, hs] at hc
        have hq16 : qs.length = 16 := by omega
        have h19' := h19 hq16
        rcases Nat.lt_or_ge x.length 2 with hx | hx
        · have : x.length * 16 ≤ 1 * 16 := Nat.mul_le_mul_right 16 (by omega)
          omega
        · exact wide x.length hs hx fun q hq => Nat.le_of_eq (hall q hq).symm
    obtain ⟨p1, c1⟩ := plain r1 (by simp)
    obtain ⟨p2, c2⟩ := plain r2 (by simp)
    obtain ⟨p3, c3⟩ := plain r3 (by simp)
    simp only [List.nodup_cons, List.mem_cons, not_or] at hn
    have := three_own (p := own r1) (q := own r2) (r := own r3) (fun x => ⟨fun hx => ⟨own_apart p1 p2 hn.1.1 x hx, own_apart p1 p3 hn.1.2.1 x hx⟩, fun hx => own_apart p2 p3 hn.2.1.1 x hx⟩) t
    omega
end FM

set_option Elab.async false
set_option linter.all false
set_option maxRecDepth 100000
/-! T02: the law's texts; words_in, marks_in. -/
namespace FM
open PySem PyProof.Rows L2
theorem f_words {t : List Nat} (ht : t.length ≤ 1000) : f_words_in [.str t] = .ok (.tup ((words t).map wD)) := by
  unfold f_words_in runD B_words_in
  have e0 : initE 1 [.str t] = [.dat (.str t)] := rfl
  have := str_words (e := [.dat (.str t)]) ht rfl
  simp only [e0, retS_ap, callF_ap, consF_ap, mkL_ap, this, rb_ok, nilF_ap, tupleO_lst, ofO_some]
/-- the marks that begin in a piece -/
def inP (a b : Int) : D → Bool
  | .tup (.int i :: _) => decide (a ≤ i) && decide (i < b)
  | _ => false
theorem comp_in {vs : List Nat} {fi : En → Res (List D)} {t : List Nat} {rs : List Rule} {k ka kb : Nat} {e : En} {a b : Int} (ht : t.length ≤ 1000) (hr : rs.length ≤ 4) (h1 : fi e = .ok (sorted t rs))
    (hk : ∀ d, getE k ((wipeE e vs).set k (.dat d)) = .ok d) (ha : ∀ d, getE ka ((wipeE e vs).set k (.dat d)) = .ok (.int a)) (hb : ∀ d, getE kb ((wipeE e vs).set k (.dat d)) = .ok (.int b)) :
    compF vs fi (.nm k) (tstF (chF leO ltO (getE ka) (bopF ixO (getE k) (cD (.int 0))) (getE kb))) (getE k) e = .ok ((sorted t rs).filter (inP a b)) := by
  have := sorted_len ht hr
  refine compF_ok h1 (le_sz (by omega)) ?_
  have h2 := lcF_filter (t := .nm k) (tt := tstF (chF leO ltO (getE ka) (bopF ixO (getE k) (cD (.int 0))) (getE kb))) (te := getE k) (e := wipeE e vs) (p := inP a b) (g := id) (items := sorted t rs) fun d hd => by
    obtain ⟨n, f, rfl⟩ := sorted_mem hd
    refine ⟨(wipeE e vs).set k (.dat (mk n f)), by rw [setT_nm, setN_lf (mk_lf n f)], ?_, fun _ => ⟨hk _, mk_lf n f⟩⟩
    have hx : bopF ixO (getE k) (cD (.int 0)) ((wipeE e vs).set k (.dat (mk n f))) = .ok (.int (f.b : Nat)) := bop_ok (hk _) rfl rfl
    simp only [tstF_ap, chF, ha, hx, rb_ok, leO_ii, ofO_some, isBl]
    by_cases h : a ≤ (f.b : Nat)
    · simp [h, hb, inP, mk]
    · simp [h, inP, mk]
  rw [List.map_id] at h2
  exact h2
theorem f_marksin {t : List Nat} {rs : List Rule} {a b : Int} (ht : t.length ≤ 1000) (ha : t.all (· < 128) = true) (hr : rs.length ≤ 4) : f_marks_in [.str t, .tup (rs.map Rule.d), .int a, .int b] = .ok (.tup ((sorted t rs).filter (inP a b))) := by
  unfold f_marks_in runD B_marks_in
  have e0 : initE 5 [.str t, .tup (rs.map Rule.d), .int a, .int b] = [.dat (.str t), .dat (.tup (rs.map Rule.d)), .dat (.int a), .dat (.int b), .un] := rfl
  rw [e0]
  have hm : fnF 2 f_all_marks (consF (getE 0) (consF (getE 1) nilF)) [.dat (.str t), .dat (.tup (rs.map Rule.d)), .dat (.int a), .dat (.int b), .un] = .ok (.tup (sorted t rs)) := fn_ok (cons_ok rfl (cons_ok rfl rfl)) rfl (f_marks ht ha hr)
  have hc := comp_in (vs := [4]) (fi := itF asTup (fnF 2 f_all_marks (consF (getE 0) (consF (getE 1) nilF)))) (t := t) (rs := rs) (k := 4) (ka := 2) (kb := 3) (e := [.dat (.str t), .dat (.tup (rs.map Rule.d)), .dat (.int a), .dat (.int b), .un]) (a := a) (b := b) ht hr
    (by rw [itF_ap, hm]; rfl) (fun _ => rfl) (fun _ => rfl) (fun _ => rfl)
  simp only [retS_ap, callF_ap, consF_ap, mkL_ap, hc, rb_ok, nilF_ap, tupleO_lst, ofO_some]
end FM

set_option Elab.async false
set_option linter.all false
set_option maxRecDepth 100000
/-! Z03: marks rise; the marks of one rule; pieces. -/
namespace FM
open PySem PyProof.Rows L2
theorem leP_trans (a b c : Nat × Flt) (h1 : leP a b = true) (h2 : leP b c = true) : leP a c = true := by
  simp only [leP, leM, decide_eq_true_eq] at *
  omega
theorem leP_total (a b : Nat × Flt) : (leP a b || leP b a) = true := by
  simp only [leP, leM, Bool.or_eq_true, decide_eq_true_eq]
  omega
theorem ms_sorted (t : List Nat) (rs : List Rule) : (ms t rs).Pairwise fun p q => leP p q = true := List.pairwise_mergeSort leP_trans leP_total _
theorem ms_b (t : List Nat) (rs : List Rule) : (ms t rs).Pairwise fun p q => p.2.b ≤ q.2.b := (ms_sorted t rs).imp fun {p q} h => by
  simp only [leP, leM, decide_eq_true_eq] at h
  omega
theorem ms_strict (t : List Nat) (rs : List Rule) : (ms t rs).Pairwise fun p q => p.2.b < q.2.b ∨ (p.2.b = q.2.b ∧ (p.2.e < q.2.e ∨ (p.2.e = q.2.e ∧ p.1 < q.1))) := by
  have h1 := (ms_sorted t rs).and (ms_nodup t rs)
  refine h1.imp_of_mem fun {p q} hp hq ⟨hle, hne⟩ => ?_
  simp only [leP, leM, decide_eq_true_eq] at hle
  rcases hle with h | ⟨h, h'⟩
  · exact .inl h
  · refine .inr ⟨h, ?_⟩
    rcases h' with h' | ⟨h', h3⟩
    · exact .inl h'
    · refine .inr ⟨h', ?_⟩
      rcases Nat.lt_or_ge p.1 q.1 with z | z
      · exact z
      · exfalso
        have e1 : p.1 = q.1 := by omega
        obtain ⟨r, r1, r2⟩ := ms_mem hp
        obtain ⟨r', r1', r2'⟩ := ms_mem hq
        rw [← e1, r1] at r1'
        cases r1'
        obtain ⟨i, hi, gi⟩ := List.getElem_of_mem r2
        obtain ⟨j, hj, gj⟩ := List.getElem_of_mem r2'
        have pw := List.pairwise_iff_getElem.mp (faults_asc t r)
        rcases Nat.lt_trichotomy i j with w | w | w
        · have := pw i j hi hj w
          rw [gi, gj] at this; omega
        · subst w
          rw [gi] at gj
          exact hne (Prod.ext e1 gj)
        · have := pw j i hj hi w
          rw [gi, gj] at this; omega
def inN (a c : Int) (p : Nat × Flt) : Bool := decide (a ≤ ((p.2.b : Nat) : Int)) && decide (((p.2.b : Nat) : Int) < c)
theorem filter_mid {a m c : Int} (h1 : a ≤ m) (h2 : m ≤ c) : ∀ {l : List (Nat × Flt)}, (l.Pairwise fun p q => p.2.b ≤ q.2.b) → l.filter (inN a m) ++ l.filter (inN m c) = l.filter (inN a c)
  | [], _ => rfl
  | p :: l, h => by
    rw [List.pairwise_cons] at h
    by_cases hp : ((p.2.b : Nat) : Int) < m
    · have ih := filter_mid h1 h2 h.2
      have e1 : inN m c p = false := by unfold inN; rw [decide_eq_false (show ¬ m ≤ ((p.2.b : Nat) : Int) by omega)]; rfl
      have e2 : inN a m p = inN a c p := by
        unfold inN
        rw [decide_eq_true hp, decide_eq_true (show ((p.2.b : Nat) : Int) < c by omega)]
      rw [List.filter_cons, List.filter_cons, List.filter_cons, e1, e2]
      cases inN a c p
      · simpa using ih
      · simpa using ih
    · have e1 : (p :: l).filter (inN a m) = [] := by
        rw [List.filter_eq_nil_iff]
        intro q hq
        have : p.2.b ≤ q.2.b := by
          rcases List.mem_cons.mp hq with rfl | hq
          · exact Nat.le_refl _
          · exact h.1 q hq
        unfold inN
        rw [decide_eq_false (show ¬ ((q.2.b : Nat) : Int) < m by omega)]
        simp
      rw [e1, List.nil_append]
      apply List.filter_congr
      intro q hq
      have : p.2.b ≤ q.2.b := by
        rcases List.mem_cons.mp hq with rfl | hq
        · exact Nat.le_refl _
        · exact h.1 q hq
      unfold inN
      rw [decide_eq_true (show m ≤ ((q.2.b : Nat) : Int) by omega), decide_eq_true (show a ≤ ((q.2.b : Nat) : Int) by omega)]
theorem filter_inP (l : List (Nat × Flt)) (a c : Int) : (l.map mkP).filter (inP a c) = (l.filter (inN a c)).map mkP := by
  rw [List.filter_map]
  rfl
/-! ### no rule has two that touch -/
theorem fs_apart {p : Nat → Bool} (r : Rule) : ∀ (a : Sg) (k : Nat) (prev : Option (List Nat)) (g : Bool) (last : List Nat), WF p g a last → (fs r k prev a).Pairwise fun f h => f.e ≤ h.b
  | [], _, _, _, _, _ => by simp [fs]
  | q :: b, k, prev, g, last, hw => by
    simp only [fs]
    rw [List.pairwise_append]
    refine ⟨?_, fs_apart r b _ _ false last hw.2.2.2.2, fun f hf h hh => ?_⟩
    · have := atS_one r k prev q
      match atS r k prev q, this with
      | [], _ => simp
      | [x], _ => simp
    · have := (atS_in hw.2.2.1 hf).2.2.2
      have := (fs_in hw.2.2.2.2 hh).1
      omega
theorem faults_apart (t : List Nat) (r : Rule) : (faults t r).Pairwise fun f g => f.e ≤ g.b := by
  cases hr : r with
  | blanks =>
    show (blanks t).Pairwise _
    unfold blanks
    rw [List.pairwise_map]
    have := runs_ok (fun c => decide (c ∈ [32])) t t.length 0 (by omega)
    simp only [List.drop_zero] at this
    exact (pw_filter this.asc).imp fun h => by simp only; omega
  | sign c =>
    show (signs t c).Pairwise _
    unfold signs
    rw [List.pairwise_map]
    exact (pw_filter List.pairwise_lt_range).imp fun h => by simp only; omega
  | _ =>
    all_goals
      rw [← hr]
      have : faults t r = perWord t r := by rw [hr]; rfl
      rw [this]
      obtain ⟨sg, last, wf, rfl⟩ := seg_ex isL t.length t (Nat.le_refl _)
      rw [perWord_join (by rw [hr]; simp) wf]
      exact fs_apart r sg 0 none true last wf
/-! ### the marks of one rule -/
theorem acc_rule {t : List Nat} {r : Rule} {i : Nat} : ∀ (rs : List Rule) (k : Nat), k ≤ i → rs[i - k]? = some r → (((rs.zipIdx k).map fun p => (faults t p.1).map fun f => (p.2, f)).flatten).filter (fun p => decide (p.1 = i)) = (faults t r).map fun f => (i, f)
  | [], k, _, h => by simp at h
  | x :: rs, k, hk, h => by
    simp only [List.zipIdx_cons, List.map_cons, List.flatten_cons, List.filter_append]
    by_cases e : i = k
    · subst e
      simp only [Nat.sub_self, List.getElem?_cons_zero, Option.some.injEq] at h
      subst h
      have e1 : ((faults t x).map fun f => (i, f)).filter (fun p => decide (p.1 = i)) = (faults t x).map fun f => (i, f) := by
        rw [List.filter_eq_self]
        intro p hp
        obtain ⟨f, _, rfl⟩ := List.mem_map.mp hp
        simp
      have e2 : (((rs.zipIdx (i + 1)).map fun p => (faults t p.1).map fun f => (p.2, f)).flatten).filter (fun p => decide (p.1 = i)) = [] := by
        rw [List.filter_eq_nil_iff]
        intro p hp
        obtain ⟨l, hl, hp⟩ := List.mem_flatten.mp hp
        obtain ⟨q, hq, rfl⟩ := List.mem_map.mp hl
        obtain ⟨f, _, rfl⟩ := List.mem_map.mp hp
        have := List.le_snd_of_mem_zipIdx hq
        simp only [decide_eq_true_eq]
        omega
      rw [e1, e2, List.append_nil]
    · have e1 : ((faults t x).map fun f => (k, f)).filter (fun p => decide (p.1 = i)) = [] := by
        rw [List.filter_eq_nil_iff]
        intro p hp
        obtain ⟨f, _, rfl⟩ := List.mem_map.mp hp
        simp only [decide_eq_true_eq]
        omega
      rw [e1, List.nil_append]
      refine acc_rule rs (k + 1) (by omega) ?_
      rw [show i - k = (i - (k + 1)) + 1 by omega, List.getElem?_cons_succ] at h
      exact h
theorem ms_rule {t : List Nat} {rs : List Rule} {i : Nat} {r : Rule} (h : rs[i]? = some r) : (ms t rs).filter (fun p => decide (p.1 = i)) = (faults t r).map fun f => (i, f) := by
  have hp : ((ms t rs).filter fun p => decide (p.1 = i)).Perm ((faults t r).map fun f => (i, f)) := by
    rw [← acc_rule rs 0 (Nat.zero_le i) (by simpa using h)]
    exact (List.mergeSort_perm (accT t rs) leP).filter _
  refine List.Perm.eq_of_pairwise (le := fun p q => p.2.b ≤ q.2.b) (fun p q hp' hq h1 h2 => ?_) (pw_filter (ms_b t rs)) ?_ hp
  · obtain ⟨f, hf, rfl⟩ := List.mem_map.mp (hp.mem_iff.mp hp')
    obtain ⟨g, hg, rfl⟩ := List.mem_map.mp hq
    obtain ⟨x, hx, gx⟩ := List.getElem_of_mem hf
    obtain ⟨y, hy, gy⟩ := List.getElem_of_mem hg
    have pw := List.pairwise_iff_getElem.mp (faults_asc t r)
    simp only at h1 h2
    rcases Nat.lt_trichotomy x y with w | w | w
    · have := pw x y hx hy w
      rw [gx, gy] at this; omega
    · subst w
      rw [gx] at gy; rw [gy]
    · have := pw y x hy hx w
      rw [gx, gy] at this; omega
  · rw [List.pairwise_map]
    exact (faults_asc t r).imp fun h => by simp only; omega
theorem ms_one (t : List Nat) (r : Rule) : ms t [r] = (faults t r).map fun f => (0, f) := by
  have := ms_rule (t := t) (rs := [r]) (i := 0) (r := r) rfl
  rw [← this]
  symm
  rw [List.filter_eq_self]
  intro p hp
  obtain ⟨r', h1, _⟩ := ms_mem hp
  simp only [decide_eq_true_eq]
  have := (List.getElem?_eq_some_iff.mp h1).1
  simp at this
  exact this
/-! ### heads -/
def hD (p : Nat × Flt) : D := .tup [.int (p.2.b : Nat), .int (p.2.e : Nat), .int (p.1 : Nat)]
theorem hD_lf (p : Nat × Flt) : (hD p).lf = true := rfl
theorem trs_hD (l : List (Nat × Flt)) : trsO (l.map hD) = some (l.map fun p => [((p.2.b : Nat) : Int), ((p.2.e : Nat) : Int), ((p.1 : Nat) : Int)]) := by
  induction l with
  | nil => rfl
  | cons p l ih => simp only [List.map_cons, hD, trsO, intsO, Option.map_some, Option.bind_some, ih]
theorem heads_ok {t : List Nat} {rs : List Rule} (hf : (ms t rs).length < 64) (ht : t.length ≤ 900) (hr : rs.length ≤ 4) (ho : ∀ r ∈ rs, r.ok = true) : sortSetT (.lst ((ms t rs).map hD)) = some ((ms t rs).map hD) := by
  unfold sortSetT
  simp only [trs_hD]
  rw [if_pos]
  refine ⟨by rw [List.length_map]; exact hf, fun k hk => ?_, ?_⟩
  · obtain ⟨p, hp, rfl⟩ := List.mem_map.mp hk
    refine ⟨rfl, fun m hm => ?_⟩
    have hg := (ms_good ho hp).lt
    obtain ⟨r, h1, _⟩ := ms_mem hp
    have hi := (List.getElem?_eq_some_iff.mp h1).1
    simp only [List.mem_cons, List.not_mem_nil, or_false] at hm
    rcases hm with rfl | rfl | rfl <;> omega
  · rw [List.pairwise_map]
    refine (ms_strict t rs).imp_of_mem fun {p q} hp hq h => ?_
    have hg := (ms_good ho hp).lt
    have hg' := (ms_good ho hq).lt
    obtain ⟨r, h1, _⟩ := ms_mem hp
    have hi := (List.getElem?_eq_some_iff.mp h1).1
    obtain ⟨r', h1', _⟩ := ms_mem hq
    have hi' := (List.getElem?_eq_some_iff.mp h1').1
    rw [code3, code3]
    omega
/-! ### cuts -/
def leI (a b : Int) : Bool := decide (a ≤ b)
theorem leD_int (a b : Int) : leD (.int a) (.int b) = leI a b := by
  show (!PySem.W.dataLt (toPy (.int b)) (toPy (.int a))) = _
  unfold PySem.W.dataLt
  simp only [toPy, PySem.W.keyToks, itemOrd, itemLt]
  simp [PyProof.Rows.lexLt, leI]
  have hi : ∀ a b : Int, itemLt (Sum.inl a) (Sum.inl b) = decide (a < b) := fun _ _ => rfl
  try simp only [hi]
  rw [Bool.eq_iff_iff]
  simp
theorem okSortI {l : List Int} (h : l.length ≤ 1000000) : OkSort (l.map .int) where
  lf := by
    rw [lfAll_iff]
    intro d hd
    obtain ⟨i, _, rfl⟩ := List.mem_map.mp hd
    rfl
  al := fun a ha b hb => by
    obtain ⟨x, hx, rfl⟩ := List.mem_map.mp ha
    obtain ⟨y, hy, rfl⟩ := List.mem_map.mp hb
    obtain ⟨p, hp, rfl⟩ := List.mem_map.mp hx
    obtain ⟨q, hq, rfl⟩ := List.mem_map.mp hy
    rfl
  so := .inr fun d hd => by
    obtain ⟨x, hx, rfl⟩ := List.mem_map.mp hd
    obtain ⟨p, hp, rfl⟩ := List.mem_map.mp hx
    exact ⟨by simp [toPy], fun xs => by simp [toPy]⟩
  dp := fun d hd => by
    obtain ⟨p, hp, rfl⟩ := List.mem_map.mp hd
    simp [toPy, PyData.depth]
  ln := by rw [List.length_map]; exact h
theorem sort_ints {l : List Int} (h : l.length ≤ 1000000) : sortDs [.lst (l.map .int)] = some ((l.mergeSort leI).map .int) := by
  unfold sortDs sortD
  simp only
  rw [if_pos (okSortI h)]
  congr 1
  symm
  exact List.map_mergeSort (r := leI) (s := leD) (l := l) (f := D.int) (fun a _ b _ => (leD_int a b).symm)
theorem cuts_ok {l : List Int} {n : Int} (h0 : (0 : Int) ∈ l) (hn : n ∈ l) (hb : ∀ x ∈ l, 0 ≤ x ∧ x ≤ n) : (l.mergeSort leI).Pairwise (· ≤ ·) ∧ (l.mergeSort leI).head? = some 0 ∧ (l.mergeSort leI).getLast? = some n := by
  have hs : (l.mergeSort leI).Pairwise (· ≤ ·) := (List.pairwise_mergeSort (le := leI) (fun a b c h1 h2 => by simp only [leI, decide_eq_true_eq] at *; omega) (fun a b => by simp only [leI, Bool.or_eq_true, decide_eq_true_eq]; omega) l).imp fun h => by simpa [leI] using h
  have hm : ∀ x, x ∈ l.mergeSort leI ↔ x ∈ l := fun x => (List.mergeSort_perm l leI).mem_iff
  refine ⟨hs, ?_, ?_⟩
  · match hc : l.mergeSort leI with
    | [] => have := (hm 0).mpr h0; rw [hc] at this; cases this
    | x :: r =>
      rw [hc] at hs
      have h1 := (hb x ((hm x).mp (by rw [hc]; simp))).1
      have h2 := (hm 0).mpr h0
      rw [hc] at h2
      rcases List.mem_cons.mp h2 with z | z
      · rw [← z]; rfl
      · have := (List.pairwise_cons.mp hs).1 0 z
        simp only [List.head?_cons, Option.some.injEq]; omega
  · rcases snoc_cases (l.mergeSort leI) with hc | ⟨a, x, hc⟩
    · have := (hm 0).mpr h0; rw [hc] at this; cases this
    · rw [hc] at hs ⊢
      have h1 := (hb x ((hm x).mp (by rw [hc]; simp))).2
      have h2 := (hm n).mpr hn
      rw [hc] at h2
      rcases List.mem_append.mp h2 with z | z
      · have := (List.pairwise_append.mp hs).2.2 n z x (by simp)
        simp; omega
      · simp only [List.mem_singleton] at z
        simp [z]
end FM

set_option Elab.async false
set_option linter.all false
set_option maxRecDepth 100000
/-! Law03: the law. -/
namespace FM
open PySem PyProof.Rows L2
theorem comp_PM {α : Type} {c h : α → D} (hc : ∀ a, (h a).lf = true) {en : En} {vs : List Nat} {k : Nat} {fi : En → Res (List D)} {tt : En → Res Bool} {te : En → Res D} {P : α → Bool} {l : List α} (h1 : fi en = .ok (l.map c)) (hl : l.length ≤ 1000000)
    (hk : ∀ a ∈ l, ∃ e1, setT (.nm k) (c a) (wipeE en vs) = .ok e1 ∧ tt e1 = .ok (P a) ∧ te e1 = .ok (h a)) : compF vs fi (.nm k) tt te en = .ok ((l.filter P).map h) := by
  refine compF_ok h1 (le_sz (by rw [List.length_map]; exact hl)) ?_
  clear h1 hl
  induction l with
  | nil => rfl
  | cons a l ih =>
    obtain ⟨e1, g1, g2, g3⟩ := hk a (by simp)
    have ih := ih (fun b hb => hk b (by simp [hb]))
    simp only [List.map_cons, lcF, g1, rb_ok, g2]
    cases hP : P a with
    | true => simp only [if_true, g3, rb_ok, hc a, ih, List.filter_cons, hP, List.map_cons]
    | false => simp [ih, List.filter_cons, hP]
theorem nil_ok {en : En} : mkL (lstF nilF) en = .ok (.lst []) := by
  rw [mkL_ap]
  have : lstF nilF en = .ok [] := by unfold lstF; simp [nilF_ap, rb_ok]
  rw [this]; rfl
theorem chk_nil {f : En → Res D} {en : En} (h : f en = .ok (.lst [])) : ifS (tstF (bopF neO f (mkL (lstF nilF)))) (retS (cD (.bl false))) nilS en = .ok (.nx en) := chk_ok (tst_bop h nil_ok rfl)
theorem fil_no {α : Type} (l : List α) (c : α → D) : ((l.filter fun _ => false).map c) = [] := by simp
theorem fil_all {α : Type} (l : List α) : (l.filter fun _ => true) = l := by simp
theorem cut3 (a b c d : D) : cutL [a, b, c, d] none (some 3) = [a, b, c] := by
  have h1 : HT.sIx 4 4 (some 3) = 3 := HT.sIx_nat 4 4 3
  unfold cutL
  simp only [List.length_cons, List.length_nil]
  rw [h1, HT.sIx_none]; rfl
theorem cut4a (a b c d : D) : cutL [a, b, c, d] none (some 2) = [a, b] := by
  have h1 : HT.sIx 4 4 (some 2) = 2 := HT.sIx_nat 4 4 2
  unfold cutL
  simp only [List.length_cons, List.length_nil]
  rw [h1, HT.sIx_none]; rfl
theorem cut4b (a b c d : D) : cutL [a, b, c, d] (some 3) none = [d] := by
  have h1 : HT.sIx 4 0 (some 3) = 3 := HT.sIx_nat 4 0 3
  unfold cutL
  simp only [List.length_cons, List.length_nil]
  rw [h1, HT.sIx_none]; rfl
theorem nb_mks (l : List (Nat × Flt)) : nbAll (l.map mkP) = true := by
  induction l with
  | nil => rfl
  | cons p l ih =>
    simp only [List.map_cons, nbAll, ih, Bool.and_true]
    exact mk_nb
theorem nb_hds (l : List (Nat × Flt)) : nbAll (l.map hD) = true := by
  induction l with
  | nil => rfl
  | cons p l ih => simp only [List.map_cons, nbAll, ih, Bool.and_true]; rfl
theorem ok_hds (l : List (Nat × Flt)) (k : Nat) : okAll (k + 1) (l.map hD) = true := by
  rw [okAll_iff]
  intro d hd
  obtain ⟨q, _, rfl⟩ := List.mem_map.mp hd
  cases k <;> rfl
section
variable (ns : List Int) (i : Nat) (x2 x3 x4 x5 x6 x7 x8 x9 x10 x11 x12 x13 : Sl)
abbrev e3 : En := [.dat (.lst (ns.map .int)), .dat (.int (i : Nat)), x2, x3, x4, x5, x6, x7, x8, x9, x10, x11, x12, x13]
end
/-! ### the pieces -/
noncomputable def bJ3 : En → Res Fl := (asgS (.nm 7) (bopF addO (getE 7) (fnF 4 f_marks_in (consF (getE 3) (consF (getE 4) (consF (bopF ixO (getE 6) (bopF subI (getE 8) (cD (.int 1)))) (consF (bopF ixO (getE 6) (getE 8)) nilF)))))))
theorem pieces_run {ns : List Int} {i : Nat} {t : List Nat} {rs : List Rule} {u : List Int} {x2 x8 x9 x10 x11 x12 x13 : Sl} (ht : t.length ≤ 900) (ha : t.all (· < 128) = true) (hr : rs.length ≤ 4) (hu : u.Pairwise (· ≤ ·)) (h0 : u.head? = some 0) (hn : u.getLast? = some ((t.length : Nat) : Int)) (hul : u.length ≤ 100) (ho : ∀ r ∈ rs, r.ok = true) : ∃ y8,
    forS (itF asRng2 (consF (cD (.int 1)) (consF (callF lenO (consF (getE 6) nilF)) nilF))) (.nm 8) bJ3 (e3 ns i x2 (.dat (.str t)) (.dat (.tup (rs.map Rule.d))) (.dat (.tup ((ms t rs).map mkP))) (.dat (.lst (u.map .int))) (.dat (.tup [])) x8 x9 x10 x11 x12 x13) =
      .ok (.nx (e3 ns i x2 (.dat (.str t)) (.dat (.tup (rs.map Rule.d))) (.dat (.tup ((ms t rs).map mkP))) (.dat (.lst (u.map .int))) (.dat (.tup ((ms t rs).map mkP))) y8 x9 x10 x11 x12 x13)) := by
  have hml := ms_len (t := t) (rs := rs) (by omega) hr
  have hpos : 0 < u.length := List.length_pos_iff.mpr (fun z => by rw [z] at h0; cases h0)
  have hit : itF asRng2 (consF (cD (.int 1)) (consF (callF lenO (consF (getE 6) nilF)) nilF)) (e3 ns i x2 (.dat (.str t)) (.dat (.tup (rs.map Rule.d))) (.dat (.tup ((ms t rs).map mkP))) (.dat (.lst (u.map .int))) (.dat (.tup [])) x8 x9 x10 x11 x12 x13) = .ok (rgD 1 (u.length - 1)) := by
    have hl : callF lenO (consF (getE 6) nilF) (e3 ns i x2 (.dat (.str t)) (.dat (.tup (rs.map Rule.d))) (.dat (.tup ((ms t rs).map mkP))) (.dat (.lst (u.map .int))) (.dat (.tup [])) x8 x9 x10 x11 x12 x13) = .ok (.int (u.length : Nat)) := by
      rw [callF_ap, cons_ok (d := .lst (u.map .int)) rfl rfl, rb_ok]
      rw [show lenO [.lst (u.map .int)] = some (.int ((u.map D.int).length : Nat)) from rfl, List.length_map]; rfl
    rw [itF_ap, cons_ok (d := .int 1) rfl (cons_ok hl rfl), rb_ok]
    simp only [asRng2]
    rw [if_pos ⟨by decide, by omega⟩]
    congr 2
    omega
  have hfirst : u[0]? = some 0 := by rw [← List.head?_eq_getElem?]; exact h0
  obtain ⟨e', hf, y8, rfl⟩ := forF_inv (t := .nm 8) (B := bJ3) (items := rgD 1 (u.length - 1)) (fun j en => ∃ y8, en = e3 ns i x2 (.dat (.str t)) (.dat (.tup (rs.map Rule.d))) (.dat (.tup ((ms t rs).map mkP))) (.dat (.lst (u.map .int))) (.dat (.tup (((ms t rs).filter (inN 0 (u.getD j 0))).map mkP))) y8 x9 x10 x11 x12 x13) (fun j d en hd he => by
    obtain ⟨y8, rfl⟩ := he
    obtain ⟨hj, rfl⟩ := rgD_get hd
    have hj1 : j + 1 < u.length := by omega
    have g0 : u[j]? = some u[j] := List.getElem?_eq_getElem (by omega)
    have g1 : u[j + 1]? = some u[j + 1] := List.getElem?_eq_getElem hj1
    have d0 : u.getD j 0 = u[j] := by rw [List.getD_eq_getElem?_getD, g0]; rfl
    have d1 : u.getD (j + 1) 0 = u[j + 1] := by rw [List.getD_eq_getElem?_getD, g1]; rfl
    have hle : u[j] ≤ u[j + 1] := List.pairwise_iff_getElem.mp hu j (j + 1) (by omega) hj1 (by omega)
    have h0j : (0 : Int) ≤ u[j] := by
      rcases Nat.eq_zero_or_pos j with z | z
      · subst z
        rw [hfirst] at g0
        have := Option.some.inj g0
        omega
      · have hq := List.pairwise_iff_getElem.mp hu 0 j hpos (by omega) z
        have : u[0] = 0 := by
          have := List.getElem?_eq_getElem hpos
          rw [hfirst] at this
          exact (Option.some.inj this).symm
        omega
    refine ⟨e3 ns i x2 (.dat (.str t)) (.dat (.tup (rs.map Rule.d))) (.dat (.tup ((ms t rs).map mkP))) (.dat (.lst (u.map .int))) (.dat (.tup (((ms t rs).filter (inN 0 (u.getD j 0))).map mkP))) (.dat (.int (1 + (j : Nat)))) x9 x10 x11 x12 x13, _, by rw [setT_nm, setN_lf rfl]; rfl, ?_, .dat (.int (1 + (j : Nat))), rfl⟩
    unfold bJ3
    have a1 : bopF ixO (getE 6) (bopF subI (getE 8) (cD (.int 1))) (e3 ns i x2 (.dat (.str t)) (.dat (.tup (rs.map Rule.d))) (.dat (.tup ((ms t rs).map mkP))) (.dat (.lst (u.map .int))) (.dat (.tup (((ms t rs).filter (inN 0 (u.getD j 0))).map mkP))) (.dat (.int (1 + (j : Nat)))) x9 x10 x11 x12 x13) = .ok (.int u[j]) := by
      refine bop_ok (x := .lst (u.map .int)) (y := .int ((j : Nat) : Int)) rfl (bop_ok (x := .int (1 + (j : Nat))) (y := .int 1) rfl rfl (by rw [subI_ii]; congr 2; omega)) ?_
      rw [ixO_lst]; exact atI_n (by simp [g0])
    have a2 : bopF ixO (getE 6) (getE 8) (e3 ns i x2 (.dat (.str t)) (.dat (.tup (rs.map Rule.d))) (.dat (.tup ((ms t rs).map mkP))) (.dat (.lst (u.map .int))) (.dat (.tup (((ms t rs).filter (inN 0 (u.getD j 0))).map mkP))) (.dat (.int (1 + (j : Nat)))) x9 x10 x11 x12 x13) = .ok (.int u[j + 1]) := by
      refine bop_ok (x := .lst (u.map .int)) (y := .int (1 + (j : Nat))) rfl rfl ?_
      rw [ixO_lst, show (1 : Int) + (j : Nat) = ((j + 1 : Nat) : Int) by omega]; exact atI_n (by simp [g1])
    have a3 : fnF 4 f_marks_in (consF (getE 3) (consF (getE 4) (consF (bopF ixO (getE 6) (bopF subI (getE 8) (cD (.int 1)))) (consF (bopF ixO (getE 6) (getE 8)) nilF)))) (e3 ns i x2 (.dat (.str t)) (.dat (.tup (rs.map Rule.d))) (.dat (.tup ((ms t rs).map mkP))) (.dat (.lst (u.map .int))) (.dat (.tup (((ms t rs).filter (inN 0 (u.getD j 0))).map mkP))) (.dat (.int (1 + (j : Nat)))) x9 x10 x11 x12 x13) = .ok (.tup (((ms t rs).filter (inN u[j] u[j + 1])).map mkP)) := by
      refine (fn_ok (n := 4) (ds := [.str t, .tup (rs.map Rule.d), .int u[j], .int u[j + 1]]) (cons_ok rfl (cons_ok rfl (cons_ok a1 (cons_ok a2 rfl)))) rfl (f_marksin (by omega) ha hr)).trans ?_
      rw [sorted_ms, filter_inP]
    have l1 := List.length_filter_le (inN 0 (u.getD j 0)) (ms t rs)
    have l2 := List.length_filter_le (inN u[j] u[j + 1]) (ms t rs)
    rw [asg_lf (d := .tup (((ms t rs).filter (inN 0 (u.getD (j + 1) 0))).map mkP)) (by rw [lf_tup]; exact mkP_lf _) (bop_ok (x := .tup (((ms t rs).filter (inN 0 (u.getD j 0))).map mkP)) rfl a3 ?_)]
    · rfl
    · rw [addO_tt (le_sz (by simp only [List.length_map]; omega)), ← List.map_append, d0, d1, filter_mid h0j hle (ms_b t rs)]) (e := e3 ns i x2 (.dat (.str t)) (.dat (.tup (rs.map Rule.d))) (.dat (.tup ((ms t rs).map mkP))) (.dat (.lst (u.map .int))) (.dat (.tup [])) x8 x9 x10 x11 x12 x13) ⟨x8, by
      have : (ms t rs).filter (inN 0 (u.getD 0 0)) = [] := by
        rw [List.getD_eq_getElem?_getD, hfirst]
        rw [List.filter_eq_nil_iff]
        intro p _
        unfold inN
        simp only [Option.getD_some]
        rw [decide_eq_false (show ¬ ((p.2.b : Nat) : Int) < 0 by omega)]
        simp
      rw [this]; rfl⟩
  refine ⟨y8, ?_⟩
  rw [forS_ap, hit, rb_ok, hf, rgD_len]
  have hlast : u.getD (u.length - 1) 0 = (t.length : Nat) := by
    rw [List.getD_eq_getElem?_getD, ← List.getLast?_eq_getElem?, hn]; rfl
  have : (ms t rs).filter (inN 0 (u.getD (u.length - 1) 0)) = ms t rs := by
    rw [List.filter_eq_self, hlast]
    intro p hp
    have := (ms_good ho hp).lt
    unfold inN
    rw [decide_eq_true (show (0 : Int) ≤ ((p.2.b : Nat) : Int) by omega), decide_eq_true (show ((p.2.b : Nat) : Int) < (t.length : Nat) by omega)]
    rfl
  rw [this]
/-! ### rule by rule -/
noncomputable def bR3 : En → Res Fl := (seqS (asgL 12 (compF [13] (itF asTup (getE 5)) (.nm 13) (tstF (bopF eqO (bopF ixO (getE 13) (cD (.int 2))) (getE 10))) (getE 13)))
  (seqS (ifS (tstF (bopF neO (mkL (compF [13] (itF asLst (getE 12)) (.nm 13) yesF (bopF addO (bopF addO (slF slO (getE 13) noP (soP (cD (.int 2)))) (tupF (consF (cD (.int 0)) nilF))) (slF slO (getE 13) (soP (cD (.int 3))) noP)))) (mkL (callF listO (consF (fnF 2 f_all_marks (consF (getE 3) (consF (tupF (consF (getE 11) nilF)) nilF))) nilF))))) (retS (cD (.bl false))) nilS)
  (ifS (tstF (bopF neO (mkL (compF [8] (itF asRng2 (consF (cD (.int 1)) (consF (callF lenO (consF (getE 12) nilF)) nilF))) (.nm 8) (tstF (bopF ltO (bopF ixO (bopF ixO (getE 12) (getE 8)) (cD (.int 0))) (bopF ixO (bopF ixO (getE 12) (bopF subI (getE 8) (cD (.int 1)))) (cD (.int 1))))) (getE 8))) (mkL (lstF nilF)))) (retS (cD (.bl false))) nilS)))
theorem tup1 {fa : En → Res D} {e : En} {a : D} (h1 : fa e = .ok a) : tupF (consF fa nilF) e = .ok (.tup [a]) := by
  simp only [tupF_ap, consF_ap, h1, rb_ok, nilF_ap, List.length_cons, List.length_nil]
  exact ofO_le (by omega)
theorem rule_run {ns : List Int} {i k : Nat} {t : List Nat} {rs : List Rule} {r : Rule} {x2 x6 x7 x8 x9 x12 x13 : Sl} (hk : rs[k]? = some r) (ht : t.length ≤ 900) (ha : t.all (· < 128) = true) (hr : rs.length ≤ 4) (ho : ∀ r ∈ rs, r.ok = true) : ∃ y12,
    bR3 (e3 ns i x2 (.dat (.str t)) (.dat (.tup (rs.map Rule.d))) (.dat (.tup ((ms t rs).map mkP))) x6 x7 x8 x9 (.dat (.int (k : Nat))) (.dat r.d) x12 x13) =
      .ok (.nx (e3 ns i x2 (.dat (.str t)) (.dat (.tup (rs.map Rule.d))) (.dat (.tup ((ms t rs).map mkP))) x6 x7 x8 x9 (.dat (.int (k : Nat))) (.dat r.d) y12 x13)) := by
  have hml := ms_len (t := t) (rs := rs) (by omega) hr
  have hrok := ho r (List.mem_of_getElem? hk)
  have hfl := faults_len t r
  unfold bR3
  have c1 : compF [13] (itF asTup (getE 5)) (.nm 13) (tstF (bopF eqO (bopF ixO (getE 13) (cD (.int 2))) (getE 10))) (getE 13) (e3 ns i x2 (.dat (.str t)) (.dat (.tup (rs.map Rule.d))) (.dat (.tup ((ms t rs).map mkP))) x6 x7 x8 x9 (.dat (.int (k : Nat))) (.dat r.d) x12 x13) = .ok (((faults t r).map fun f => (k, f)).map mkP) := by
    rw [← ms_rule hk]
    refine comp_PM (c := mkP) (h := mkP) (fun p => mk_lf p.1 p.2) rfl (by omega) fun p hp => ⟨e3 ns i x2 (.dat (.str t)) (.dat (.tup (rs.map Rule.d))) (.dat (.tup ((ms t rs).map mkP))) x6 x7 x8 x9 (.dat (.int (k : Nat))) (.dat r.d) x12 (.dat (mkP p)), by rw [setT_nm, setN_lf (mk_lf _ _)]; rfl, ?_, rfl⟩
    refine (tst_bop (bop_ok rfl rfl mk_2) rfl eqO_ii).trans ?_
    congr 1
    rw [Bool.eq_iff_iff, beq_iff_eq, decide_eq_true_eq]; omega
  rw [seqS_nx (asgL_ok c1 (mkP_lf _))]
  simp only [List.set]
  generalize hF : faults t r = F at *
  have c2 : compF [13] (itF asLst (getE 12)) (.nm 13) yesF (bopF addO (bopF addO (slF slO (getE 13) noP (soP (cD (.int 2)))) (tupF (consF (cD (.int 0)) nilF))) (slF slO (getE 13) (soP (cD (.int 3))) noP)) (e3 ns i x2 (.dat (.str t)) (.dat (.tup (rs.map Rule.d))) (.dat (.tup ((ms t rs).map mkP))) x6 x7 x8 x9 (.dat (.int (k : Nat))) (.dat r.d) (.dat (.lst ((F.map fun f => (k, f)).map mkP))) x13) = .ok ((F.map fun f => (0, f)).map mkP) := by
    have := comp_PM (c := mkP) (h := fun p => mkP (0, p.2)) (fun p => mk_lf 0 p.2) (P := fun _ => true) (l := F.map fun f => (k, f)) (en := e3 ns i x2 (.dat (.str t)) (.dat (.tup (rs.map Rule.d))) (.dat (.tup ((ms t rs).map mkP))) x6 x7 x8 x9 (.dat (.int (k : Nat))) (.dat r.d) (.dat (.lst ((F.map fun f => (k, f)).map mkP))) x13) (vs := [13]) (k := 13) (fi := itF asLst (getE 12)) (tt := yesF) (te := bopF addO (bopF addO (slF slO (getE 13) noP (soP (cD (.int 2)))) (tupF (consF (cD (.int 0)) nilF))) (slF slO (getE 13) (soP (cD (.int 3))) noP)) rfl (by rw [List.length_map]; omega) fun p hp => ⟨e3 ns i x2 (.dat (.str t)) (.dat (.tup (rs.map Rule.d))) (.dat (.tup ((ms t rs).map mkP))) x6 x7 x8 x9 (.dat (.int (k : Nat))) (.dat r.d) (.dat (.lst ((F.map fun f => (k, f)).map mkP))) (.dat (mkP p)), by rw [setT_nm, setN_lf (mk_lf _ _)]; rfl, rfl, ?_⟩
    · rw [fil_all] at this
      rw [this, List.map_map, List.map_map]; rfl
    · have g : getE 13 (e3 ns i x2 (.dat (.str t)) (.dat (.tup (rs.map Rule.d))) (.dat (.tup ((ms t rs).map mkP))) x6 x7 x8 x9 (.dat (.int (k : Nat))) (.dat r.d) (.dat (.lst ((F.map fun f => (k, f)).map mkP))) (.dat (mkP p))) = .ok (mkP p) := rfl
      refine bop_ok (x := .tup [.int (p.2.b : Nat), .int (p.2.e : Nat), .int 0]) (y := .tup [mD p.2.m]) (bop_ok (x := .tup [.int (p.2.b : Nat), .int (p.2.e : Nat)]) (y := .tup [.int 0]) ?_ (tup1 rfl) ?_) ?_ ?_
      · rw [slF_ap, g, rb_ok, noP_ap, rb_ok, soP_ok rfl, rb_ok]
        unfold mkP mk
        rw [slO_tup, cut4a]; rfl
      · rw [addO_tt (by rw [slE]; simp)]; rfl
      · rw [slF_ap, g, rb_ok, soP_ok rfl, rb_ok, noP_ap, rb_ok]
        unfold mkP mk
        rw [slO_tup, cut4b]; rfl
      · rw [addO_tt (by rw [slE]; simp)]; rfl
  have hlet : ∀ p ∈ (F.map fun f => (0, f)), ∀ c ∈ p.2.m.getD [], isL c = true := fun p hp => by
    obtain ⟨f, hf, rfl⟩ := List.mem_map.mp hp
    rw [← hF] at hf
    exact (good_faults hrok hf).mlen.2
  have c3 : ∀ {en : En}, getE 3 en = .ok (.str t) → getE 11 en = .ok r.d → mkL (callF listO (consF (fnF 2 f_all_marks (consF (getE 3) (consF (tupF (consF (getE 11) nilF)) nilF))) nilF)) en = .ok (.lst ((F.map fun f => (0, f)).map mkP)) := fun g3 g11 => by
    have := f_marksT (t := t) (rs := [r]) (by omega) ha (by simp)
    rw [ms_one, hF] at this
    rw [mkL_ap, callF_ap, cons_ok (fn_ok (n := 2) (ds := [.str t, .tup [r.d]]) (cons_ok g3 (cons_ok (tup1 g11) rfl)) rfl this) rfl, rb_ok, listO_tup]; rfl
  rw [seqS_nx (chk_ok (tst_bop (x := .lst ((F.map fun f => (0, f)).map mkP)) (by rw [mkL_ap, c2]; rfl) (c3 rfl rfl) (ne_self (nb_mks _) (okAll_mks (k := 62) hlet))))]
  refine ⟨_, chk_nil ?_⟩
  rw [mkL_ap]
  have c4 : compF [8] (itF asRng2 (consF (cD (.int 1)) (consF (callF lenO (consF (getE 12) nilF)) nilF))) (.nm 8) (tstF (bopF ltO (bopF ixO (bopF ixO (getE 12) (getE 8)) (cD (.int 0))) (bopF ixO (bopF ixO (getE 12) (bopF subI (getE 8) (cD (.int 1)))) (cD (.int 1))))) (getE 8) (e3 ns i x2 (.dat (.str t)) (.dat (.tup (rs.map Rule.d))) (.dat (.tup ((ms t rs).map mkP))) x6 x7 x8 x9 (.dat (.int (k : Nat))) (.dat r.d) (.dat (.lst ((F.map fun f => (k, f)).map mkP))) x13) = .ok [] := by
    have hl : callF lenO (consF (getE 12) nilF) (e3 ns i x2 (.dat (.str t)) (.dat (.tup (rs.map Rule.d))) (.dat (.tup ((ms t rs).map mkP))) x6 x7 x8 x9 (.dat (.int (k : Nat))) (.dat r.d) (.dat (.lst ((F.map fun f => (k, f)).map mkP))) x13) = .ok (.int (F.length : Nat)) := by
      rw [callF_ap, cons_ok (d := .lst ((F.map fun f => (k, f)).map mkP)) rfl rfl, rb_ok]
      rw [show lenO [.lst ((F.map fun f => (k, f)).map mkP)] = some (.int (((F.map fun f => (k, f)).map mkP).length : Nat)) from rfl, List.length_map, List.length_map]; rfl
    have hit : itF asRng2 (consF (cD (.int 1)) (consF (callF lenO (consF (getE 12) nilF)) nilF)) (e3 ns i x2 (.dat (.str t)) (.dat (.tup (rs.map Rule.d))) (.dat (.tup ((ms t rs).map mkP))) x6 x7 x8 x9 (.dat (.int (k : Nat))) (.dat r.d) (.dat (.lst ((F.map fun f => (k, f)).map mkP))) x13) = .ok ((List.range (F.length - 1)).map fun j => D.int (1 + (j : Nat))) := by
      rw [itF_ap, cons_ok (d := .int 1) rfl (cons_ok hl rfl), rb_ok]
      simp only [asRng2]
      rw [if_pos ⟨by decide, by omega⟩, show (((F.length : Nat) : Int) - 1).toNat = F.length - 1 by omega]
      rfl
    rw [← fil_no (List.range (F.length - 1)) (fun j => D.int (1 + (j : Nat)))]
    refine comp_PM (c := fun j : Nat => D.int (1 + (j : Nat))) (h := fun j : Nat => D.int (1 + (j : Nat))) (P := fun _ => false) (l := List.range (F.length - 1)) (fun _ => rfl) hit (by rw [List.length_range]; omega) fun j hj => ⟨e3 ns i x2 (.dat (.str t)) (.dat (.tup (rs.map Rule.d))) (.dat (.tup ((ms t rs).map mkP))) x6 x7 (.dat (.int (1 + (j : Nat)))) x9 (.dat (.int (k : Nat))) (.dat r.d) (.dat (.lst ((F.map fun f => (k, f)).map mkP))) x13, by rw [setT_nm, setN_lf rfl]; rfl, ?_, rfl⟩
    have hj1 : j + 1 < F.length := by have := List.mem_range.mp hj; omega
    have g0 : F[j]? = some F[j] := List.getElem?_eq_getElem (by omega)
    have g1 : F[j + 1]? = some F[j + 1] := List.getElem?_eq_getElem hj1
    have hap : (F[j]).e ≤ (F[j + 1]).b := by
      have := faults_apart t r
      rw [hF] at this
      exact List.pairwise_iff_getElem.mp this j (j + 1) (by omega) hj1 (by omega)
    have i1 : ixO (.lst ((F.map fun f => (k, f)).map mkP)) (.int (1 + (j : Nat))) = some (mkP (k, F[j + 1])) := by
      rw [ixO_lst, show (1 : Int) + (j : Nat) = ((j + 1 : Nat) : Int) by omega]; exact atI_n (by simp [g1])
    have i0 : ixO (.lst ((F.map fun f => (k, f)).map mkP)) (.int ((j : Nat) : Int)) = some (mkP (k, F[j])) := by
      rw [ixO_lst]; exact atI_n (by simp [g0])
    refine (tst_bop (bop_ok (bop_ok (x := .lst ((F.map fun f => (k, f)).map mkP)) (y := .int (1 + (j : Nat))) rfl rfl i1) rfl mk_0) (bop_ok (bop_ok (x := .lst ((F.map fun f => (k, f)).map mkP)) (y := .int ((j : Nat) : Int)) rfl (bop_ok (x := .int (1 + (j : Nat))) (y := .int 1) rfl rfl (by rw [subI_ii]; congr 2; omega)) i0) rfl mk_1) ltO_ii).trans ?_
    congr 1
    rw [decide_eq_false]
    show ¬ (((F[j + 1]).b : Nat) : Int) < ((F[j]).e : Nat)
    omega
  rw [c4]; rfl
noncomputable def bT3 : En → Res Fl := (seqS (asgS (.nm 2) (bopF addO (fnF 2 f_law_cell (consF (getE 0) (consF (bopF modI (getE 1) (cD (.int 9))) nilF))) (bopF mulI (cD (.int 31)) (getE 1))))
  (seqS (asgS (.nm 3) (fnF 1 f_law_text (consF (getE 2) nilF)))
  (seqS (asgS (.nm 4) (fnF 1 f_law_rules (consF (bopF addO (fnF 2 f_law_cell (consF (getE 0) (consF (cD (.int 9)) nilF))) (bopF mulI (cD (.int 7)) (getE 1))) nilF)))
  (seqS (asgS (.nm 5) (fnF 2 f_all_marks (consF (getE 3) (consF (getE 4) nilF))))
  (seqS (asgL 6 (callF sortDs (consF (mkL (bopN addL (mkL (lstF (consF (cD (.int 0)) (consF (callF lenO (consF (getE 3) nilF)) nilF)))) (mkL (compF [8] (itF asRng1 (consF (cD (.int 5)) nilF)) (.nm 8) yesF (fnF 3 f_law_mix (consF (bopF addO (getE 2) (bopF mulI (cD (.int 5)) (getE 8))) (consF (cD (.int 9791)) (consF (bopF addO (callF lenO (consF (getE 3) nilF)) (cD (.int 1))) nilF)))))))) nilF)))
  (seqS (asgS (.nm 7) (tupF nilF))
  (seqS (forS (itF asRng2 (consF (cD (.int 1)) (consF (callF lenO (consF (getE 6) nilF)) nilF))) (.nm 8) bJ3)
  (seqS (asgL 9 (compF [13] (itF asTup (getE 5)) (.nm 13) yesF (slF slO (getE 13) noP (soP (cD (.int 3))))))
  (seqS (ifS (orF (tstF (bopF neO (getE 7) (getE 5))) (tstF (bopF neO (getE 9) (mkL (uopN sortSetT (getE 9)))))) (retS (cD (.bl false))) nilS)
  (seqS (ifS (tstF (bopF neO (mkL (compF [13] (itF asTup (getE 5)) (.nm 13) (notF (tstF (ch3F leO ltO leO (cD (.int 0)) (bopF ixO (getE 13) (cD (.int 0))) (bopF ixO (getE 13) (cD (.int 1))) (callF lenO (consF (getE 3) nilF))))) (getE 13))) (mkL (lstF nilF)))) (retS (cD (.bl false))) nilS)
  (forS (lfG enumTup (getE 4)) (.tp [(.nm 10), (.nm 11)]) bR3)))))))))))
theorem turn3 {ns : List Int} {i : Nat} {x2 x3 x4 x5 x6 x7 x8 x9 x10 x11 x12 x13 : Sl} : ∃ y2 y3 y4 y5 y6 y7 y8 y9 y10 y11 y12 y13, bT3 (e3 ns i x2 x3 x4 x5 x6 x7 x8 x9 x10 x11 x12 x13) = .ok (.nx (e3 ns i y2 y3 y4 y5 y6 y7 y8 y9 y10 y11 y12 y13)) := by
  obtain ⟨c1, hc1⟩ := f_cell ns (i % 9)
  obtain ⟨c9, hc9⟩ := f_cell ns 9
  obtain ⟨qs, many, ht, hmany, hmq, hta, htx, hlast⟩ := f_text2 (c1 + 31 * (i : Nat))
  obtain ⟨rs, hrs, r1, r4, rn, ro⟩ := f_lawrules (c9 + 7 * (i : Nat))
  have hfew := few_marks htx hmany hlast r4 rn ro
  generalize hteq : (flatQ qs).take many = t at *
  have ht40 : t.length ≤ 40 := by rw [← hteq, List.length_take]; omega
  have hm : modI (.int (i : Nat)) (.int 9) = some (.int ((i % 9 : Nat) : Int)) := by simp
  have hml := ms_len (t := t) (rs := rs) (by omega) r4
  unfold bT3
  rw [seqS_nx (asg_lf (d := .int (c1 + 31 * (i : Nat))) rfl (bop_ok (x := .int c1) (y := .int (31 * (i : Nat))) (fn_ok (n := 2) (ds := [.lst (ns.map .int), .int ((i % 9 : Nat) : Int)]) (cons_ok rfl (cons_ok (bop_ok rfl rfl hm) rfl)) rfl hc1) (by simp) rfl))]
  simp only [List.set]
  rw [seqS_nx (asg_lf (d := .str t) rfl (fn_ok (n := 1) (ds := [.int (c1 + 31 * (i : Nat))]) (cons_ok rfl rfl) rfl ht))]
  simp only [List.set]
  have hrl : (D.tup (rs.map Rule.d)).lf = true := by rw [lf_tup]; exact lfAll_rules rs
  rw [seqS_nx (asg_lf (d := .tup (rs.map Rule.d)) hrl (fn_ok (n := 1) (ds := [.int (c9 + 7 * (i : Nat))]) (cons_ok (bop_ok (x := .int c9) (y := .int (7 * (i : Nat))) (fn_ok (n := 2) (ds := [.lst (ns.map .int), .int ((9 : Nat) : Int)]) (cons_ok rfl (cons_ok rfl rfl)) rfl hc9) (by simp) rfl) rfl) rfl hrs))]
  simp only [List.set]
  rw [seqS_nx (asg_lf (d := .tup ((ms t rs).map mkP)) (by rw [lf_tup]; exact mkP_lf _) (fn_ok (n := 2) (ds := [.str t, .tup (rs.map Rule.d)]) (cons_ok rfl (cons_ok rfl rfl)) rfl (f_marksT (by omega) hta r4)))]
  simp only [List.set]
  -- the cuts
  have hlen : ∀ {en : En}, getE 3 en = .ok (.str t) → callF lenO (consF (getE 3) nilF) en = .ok (.int (t.length : Nat)) := fun g => len_1 (by omega) g
  have hcomp : compF [8] (itF asRng1 (consF (cD (.int 5)) nilF)) (.nm 8) yesF (fnF 3 f_law_mix (consF (bopF addO (getE 2) (bopF mulI (cD (.int 5)) (getE 8))) (consF (cD (.int 9791)) (consF (bopF addO (callF lenO (consF (getE 3) nilF)) (cD (.int 1))) nilF)))) (e3 ns i (.dat (.int (c1 + 31 * (i : Nat)))) (.dat (.str t)) (.dat (.tup (rs.map Rule.d))) (.dat (.tup ((ms t rs).map mkP))) x6 x7 x8 x9 x10 x11 x12 x13) = .ok ((List.range 5).map fun j => D.int (mixN (c1 + 31 * (i : Nat) + 5 * (0 + (j : Nat))) 9791 (t.length + 1) : Nat)) := by
    have := comp_PM (c := fun j : Nat => D.int (0 + (j : Nat))) (h := fun j : Nat => D.int (mixN (c1 + 31 * (i : Nat) + 5 * (0 + (j : Nat))) 9791 (t.length + 1) : Nat)) (P := fun _ => true) (l := List.range 5) (fun _ => rfl) (en := e3 ns i (.dat (.int (c1 + 31 * (i : Nat)))) (.dat (.str t)) (.dat (.tup (rs.map Rule.d))) (.dat (.tup ((ms t rs).map mkP))) x6 x7 x8 x9 x10 x11 x12 x13) (vs := [8]) (k := 8) (fi := itF asRng1 (consF (cD (.int 5)) nilF)) (tt := yesF) (te := fnF 3 f_law_mix (consF (bopF addO (getE 2) (bopF mulI (cD (.int 5)) (getE 8))) (consF (cD (.int 9791)) (consF (bopF addO (callF lenO (consF (getE 3) nilF)) (cD (.int 1))) nilF))))
      (by rw [itF_ap, cons_ok rfl rfl, rb_ok]; exact asRng1_nat (n := 5) (by decide)) (by decide) fun j hj => ⟨e3 ns i (.dat (.int (c1 + 31 * (i : Nat)))) (.dat (.str t)) (.dat (.tup (rs.map Rule.d))) (.dat (.tup ((ms t rs).map mkP))) x6 x7 (.dat (.int (0 + (j : Nat)))) x9 x10 x11 x12 x13, by rw [setT_nm, setN_lf rfl]; rfl, rfl, ?_⟩
    · rw [fil_all] at this; exact this
    · refine mix_ok (c := c1 + 31 * (i : Nat) + 5 * (0 + (j : Nat))) (m := ((t.length + 1 : Nat) : Int)) (bop_ok (x := .int (c1 + 31 * (i : Nat))) (y := .int (5 * (0 + (j : Nat)))) rfl (bop_ok (x := .int 5) (y := .int (0 + (j : Nat))) rfl rfl rfl) addO_ii) (bop_ok (hlen rfl) rfl (by rw [addO_ii]; rfl)) ?_
      exact f_mixN _ (by decide) (by decide) (by omega)
  obtain ⟨cs, hcs, hc0, hcn, hcb, hcl⟩ : ∃ cs : List Int, [D.int 0, .int (t.length : Nat)] ++ ((List.range 5).map fun j => D.int (mixN (c1 + 31 * (i : Nat) + 5 * (0 + (j : Nat))) 9791 (t.length + 1) : Nat)) = cs.map .int ∧ (0 : Int) ∈ cs ∧ ((t.length : Nat) : Int) ∈ cs ∧ (∀ x ∈ cs, 0 ≤ x ∧ x ≤ ((t.length : Nat) : Int)) ∧ cs.length = 7 := by
    refine ⟨[0, ((t.length : Nat) : Int)] ++ (List.range 5).map fun j => ((mixN (c1 + 31 * (i : Nat) + 5 * (0 + (j : Nat))) 9791 (t.length + 1) : Nat) : Int), ?_, by simp, by simp, fun x hx => ?_, by simp⟩
    · rw [List.map_append, List.map_map]; rfl
    · rcases List.mem_append.mp hx with h | h
      · simp only [List.mem_cons, List.not_mem_nil, or_false] at h
        rcases h with rfl | rfl <;> omega
      · obtain ⟨j, _, rfl⟩ := List.mem_map.mp h
        have := mixN_lt (c1 + 31 * (i : Nat) + 5 * (0 + (j : Nat))) 9791 (m := t.length + 1) (by omega)
        omega
  obtain ⟨hu, hu0, hun⟩ := cuts_ok hc0 hcn hcb
  have hul : (cs.mergeSort leI).length = 7 := by rw [List.length_mergeSort, hcl]
  have hcut : callF sortDs (consF (mkL (bopN addL (mkL (lstF (consF (cD (.int 0)) (consF (callF lenO (consF (getE 3) nilF)) nilF)))) (mkL (compF [8] (itF asRng1 (consF (cD (.int 5)) nilF)) (.nm 8) yesF (fnF 3 f_law_mix (consF (bopF addO (getE 2) (bopF mulI (cD (.int 5)) (getE 8))) (consF (cD (.int 9791)) (consF (bopF addO (callF lenO (consF (getE 3) nilF)) (cD (.int 1))) nilF)))))))) nilF) (e3 ns i (.dat (.int (c1 + 31 * (i : Nat)))) (.dat (.str t)) (.dat (.tup (rs.map Rule.d))) (.dat (.tup ((ms t rs).map mkP))) x6 x7 x8 x9 x10 x11 x12 x13) = .ok ((cs.mergeSort leI).map .int) := by
    have l1 : mkL (lstF (consF (cD (.int 0)) (consF (callF lenO (consF (getE 3) nilF)) nilF))) (e3 ns i (.dat (.int (c1 + 31 * (i : Nat)))) (.dat (.str t)) (.dat (.tup (rs.map Rule.d))) (.dat (.tup ((ms t rs).map mkP))) x6 x7 x8 x9 x10 x11 x12 x13) = .ok (.lst [.int 0, .int (t.length : Nat)]) := by
      rw [mkL_ap]
      have : lstF (consF (cD (.int 0)) (consF (callF lenO (consF (getE 3) nilF)) nilF)) (e3 ns i (.dat (.int (c1 + 31 * (i : Nat)))) (.dat (.str t)) (.dat (.tup (rs.map Rule.d))) (.dat (.tup ((ms t rs).map mkP))) x6 x7 x8 x9 x10 x11 x12 x13) = .ok [.int 0, .int (t.length : Nat)] := by
        unfold lstF
        rw [cons_ok (d := .int 0) rfl (cons_ok (hlen rfl) rfl), rb_ok]
        first | rfl | exact ofO_le (by simp)
      rw [this]; rfl
    have l2 : bopN addL (mkL (lstF (consF (cD (.int 0)) (consF (callF lenO (consF (getE 3) nilF)) nilF)))) (mkL (compF [8] (itF asRng1 (consF (cD (.int 5)) nilF)) (.nm 8) yesF (fnF 3 f_law_mix (consF (bopF addO (getE 2) (bopF mulI (cD (.int 5)) (getE 8))) (consF (cD (.int 9791)) (consF (bopF addO (callF lenO (consF (getE 3) nilF)) (cD (.int 1))) nilF)))))) (e3 ns i (.dat (.int (c1 + 31 * (i : Nat)))) (.dat (.str t)) (.dat (.tup (rs.map Rule.d))) (.dat (.tup ((ms t rs).map mkP))) x6 x7 x8 x9 x10 x11 x12 x13) = .ok (cs.map .int) := by
      unfold bopN
      rw [l1, rb_ok, mkL_ap, hcomp]
      simp only [rb_ok, addL]
      rw [if_pos (le_sz (by simp)), hcs]; rfl
    rw [callF_ap, cons_ok (d := .lst (cs.map .int)) (by rw [mkL_ap, l2]; rfl) rfl, rb_ok, sort_ints (by omega)]; rfl
  rw [seqS_nx (asgL_ok hcut (by
    rw [lfAll_iff]
    intro d hd
    obtain ⟨z, _, rfl⟩ := List.mem_map.mp hd
    rfl))]
  simp only [List.set]
  rw [seqS_nx (asg_lf (d := .tup []) rfl rfl)]
  simp only [List.set]
  obtain ⟨y8, hpc⟩ := pieces_run (ns := ns) (i := i) (t := t) (rs := rs) (u := cs.mergeSort leI) (x2 := .dat (.int (c1 + 31 * (i : Nat)))) (x8 := x8) (x9 := x9) (x10 := x10) (x11 := x11) (x12 := x12) (x13 := x13) (by omega) hta r4 hu hu0 hun (by omega) ro
  rw [seqS_nx hpc]
  generalize hU : (cs.mergeSort leI).map D.int = U
  -- heads
  have hheads : compF [13] (itF asTup (getE 5)) (.nm 13) yesF (slF slO (getE 13) noP (soP (cD (.int 3)))) (e3 ns i (.dat (.int (c1 + 31 * (i : Nat)))) (.dat (.str t)) (.dat (.tup (rs.map Rule.d))) (.dat (.tup ((ms t rs).map mkP))) (.dat (.lst U)) (.dat (.tup ((ms t rs).map mkP))) y8 x9 x10 x11 x12 x13) = .ok ((ms t rs).map hD) := by
    have := comp_PM (c := mkP) (h := hD) (P := fun _ => true) (l := ms t rs) hD_lf (en := e3 ns i (.dat (.int (c1 + 31 * (i : Nat)))) (.dat (.str t)) (.dat (.tup (rs.map Rule.d))) (.dat (.tup ((ms t rs).map mkP))) (.dat (.lst U)) (.dat (.tup ((ms t rs).map mkP))) y8 x9 x10 x11 x12 x13) (vs := [13]) (k := 13) (fi := itF asTup (getE 5)) (tt := yesF) (te := slF slO (getE 13) noP (soP (cD (.int 3)))) rfl (by omega) fun p hp => ⟨e3 ns i (.dat (.int (c1 + 31 * (i : Nat)))) (.dat (.str t)) (.dat (.tup (rs.map Rule.d))) (.dat (.tup ((ms t rs).map mkP))) (.dat (.lst U)) (.dat (.tup ((ms t rs).map mkP))) y8 x9 x10 x11 x12 (.dat (mkP p)), by rw [setT_nm, setN_lf (mk_lf _ _)]; rfl, rfl, ?_⟩
    · rw [fil_all] at this; exact this
    · rw [slF_ap, show getE 13 (e3 ns i (.dat (.int (c1 + 31 * (i : Nat)))) (.dat (.str t)) (.dat (.tup (rs.map Rule.d))) (.dat (.tup ((ms t rs).map mkP))) (.dat (.lst U)) (.dat (.tup ((ms t rs).map mkP))) y8 x9 x10 x11 x12 (.dat (mkP p))) = .ok (mkP p) from rfl, rb_ok, noP_ap, rb_ok, soP_ok rfl, rb_ok]
      unfold mkP mk
      rw [slO_tup, cut3]; rfl
  rw [seqS_nx (asgL_ok hheads (by
    rw [lfAll_iff]
    intro d hd
    obtain ⟨p, _, rfl⟩ := List.mem_map.mp hd
    rfl))]
  simp only [List.set]
  have hlet : ∀ p ∈ ms t rs, ∀ c ∈ p.2.m.getD [], isL c = true := fun p hp => (ms_good ro hp).mlen.2
  have t1 : ∀ {en : En}, getE 7 en = .ok (.tup ((ms t rs).map mkP)) → getE 5 en = .ok (.tup ((ms t rs).map mkP)) → tstF (bopF neO (getE 7) (getE 5)) en = .ok false := fun g7 g5 => tst_bop g7 g5 (ne_self (nb_mks _) (okAll_mks (k := 62) hlet))
  have t2 : ∀ {en : En}, getE 9 en = .ok (.lst ((ms t rs).map hD)) → tstF (bopF neO (getE 9) (mkL (uopN sortSetT (getE 9)))) en = .ok false := fun g9 => by
    refine tst_bop g9 (y := .lst ((ms t rs).map hD)) ?_ (ne_self (nb_hds _) (ok_hds _ 62))
    rw [mkL_ap]
    unfold uopN
    rw [g9, rb_ok, heads_ok hfew (by omega) r4 ro]; rfl
  rw [seqS_nx (chk_ok (by rw [orF_ap, t1 rfl rfl, rb_ok, if_neg Bool.false_ne_true]; exact t2 rfl))]
  have hin : compF [13] (itF asTup (getE 5)) (.nm 13) (notF (tstF (ch3F leO ltO leO (cD (.int 0)) (bopF ixO (getE 13) (cD (.int 0))) (bopF ixO (getE 13) (cD (.int 1))) (callF lenO (consF (getE 3) nilF))))) (getE 13) (e3 ns i (.dat (.int (c1 + 31 * (i : Nat)))) (.dat (.str t)) (.dat (.tup (rs.map Rule.d))) (.dat (.tup ((ms t rs).map mkP))) (.dat (.lst U)) (.dat (.tup ((ms t rs).map mkP))) y8 (.dat (.lst ((ms t rs).map hD))) x10 x11 x12 x13) = .ok [] := by
    rw [← fil_no (ms t rs) mkP]
    refine comp_PM (c := mkP) (h := mkP) (P := fun _ => false) (l := ms t rs) (fun p => mk_lf p.1 p.2) rfl (by omega) fun p hp => ⟨e3 ns i (.dat (.int (c1 + 31 * (i : Nat)))) (.dat (.str t)) (.dat (.tup (rs.map Rule.d))) (.dat (.tup ((ms t rs).map mkP))) (.dat (.lst U)) (.dat (.tup ((ms t rs).map mkP))) y8 (.dat (.lst ((ms t rs).map hD))) x10 x11 x12 (.dat (mkP p)), by rw [setT_nm, setN_lf (mk_lf _ _)]; rfl, ?_, rfl⟩
    have hg := (ms_good ro hp).lt
    have g0 : bopF ixO (getE 13) (cD (.int 0)) (e3 ns i (.dat (.int (c1 + 31 * (i : Nat)))) (.dat (.str t)) (.dat (.tup (rs.map Rule.d))) (.dat (.tup ((ms t rs).map mkP))) (.dat (.lst U)) (.dat (.tup ((ms t rs).map mkP))) y8 (.dat (.lst ((ms t rs).map hD))) x10 x11 x12 (.dat (mkP p))) = .ok (.int (p.2.b : Nat)) := bop_ok rfl rfl mk_0
    have g1 : bopF ixO (getE 13) (cD (.int 1)) (e3 ns i (.dat (.int (c1 + 31 * (i : Nat)))) (.dat (.str t)) (.dat (.tup (rs.map Rule.d))) (.dat (.tup ((ms t rs).map mkP))) (.dat (.lst U)) (.dat (.tup ((ms t rs).map mkP))) y8 (.dat (.lst ((ms t rs).map hD))) x10 x11 x12 (.dat (mkP p))) = .ok (.int (p.2.e : Nat)) := bop_ok rfl rfl mk_1
    have g2 := hlen (en := e3 ns i (.dat (.int (c1 + 31 * (i : Nat)))) (.dat (.str t)) (.dat (.tup (rs.map Rule.d))) (.dat (.tup ((ms t rs).map mkP))) (.dat (.lst U)) (.dat (.tup ((ms t rs).map mkP))) y8 (.dat (.lst ((ms t rs).map hD))) x10 x11 x12 (.dat (mkP p))) rfl
    rw [notF_ap]
    unfold tstF ch3F
    rw [g0, g1, g2]
    simp only [cD_ap, rb_ok, leO_ii, ltO_ii, ofO_some, isBl]
    rw [decide_eq_true (show (0 : Int) ≤ ((p.2.b : Nat) : Int) by omega), decide_eq_true (show ((p.2.b : Nat) : Int) < ((p.2.e : Nat) : Int) by omega), decide_eq_true (show ((p.2.e : Nat) : Int) ≤ ((t.length : Nat) : Int) by omega)]
    rfl
  rw [seqS_nx (chk_nil (by rw [mkL_ap, hin]; rfl))]
  -- rule by rule
  have hit : lfG enumTup (getE 4) (e3 ns i (.dat (.int (c1 + 31 * (i : Nat)))) (.dat (.str t)) (.dat (.tup (rs.map Rule.d))) (.dat (.tup ((ms t rs).map mkP))) (.dat (.lst U)) (.dat (.tup ((ms t rs).map mkP))) y8 (.dat (.lst ((ms t rs).map hD))) x10 x11 x12 x13) = .ok (enumD (rs.map Rule.d)) := by
    rw [lfG_ap, show getE 4 (e3 ns i (.dat (.int (c1 + 31 * (i : Nat)))) (.dat (.str t)) (.dat (.tup (rs.map Rule.d))) (.dat (.tup ((ms t rs).map mkP))) (.dat (.lst U)) (.dat (.tup ((ms t rs).map mkP))) y8 (.dat (.lst ((ms t rs).map hD))) x10 x11 x12 x13) = .ok (.tup (rs.map Rule.d)) from rfl, rb_ok, hrl]
    rfl
  obtain ⟨e', hf, y10, y11, y12, rfl⟩ := forF_inv (t := .tp [.nm 10, .nm 11]) (B := bR3) (items := enumD (rs.map Rule.d)) (fun _ en => ∃ y10 y11 y12, en = e3 ns i (.dat (.int (c1 + 31 * (i : Nat)))) (.dat (.str t)) (.dat (.tup (rs.map Rule.d))) (.dat (.tup ((ms t rs).map mkP))) (.dat (.lst U)) (.dat (.tup ((ms t rs).map mkP))) y8 (.dat (.lst ((ms t rs).map hD))) y10 y11 y12 x13) (fun j d en hd he => by
    obtain ⟨y10, y11, y12, rfl⟩ := he
    obtain ⟨x, hx, rfl⟩ := enumD_get hd
    simp only [List.getElem?_map, Option.map_eq_some_iff] at hx
    obtain ⟨r, hrr, rfl⟩ := hx
    obtain ⟨z12, hz⟩ := rule_run (ns := ns) (i := i) (k := j) (t := t) (rs := rs) (r := r) (x2 := .dat (.int (c1 + 31 * (i : Nat)))) (x6 := .dat (.lst U)) (x7 := .dat (.tup ((ms t rs).map mkP))) (x8 := y8) (x9 := .dat (.lst ((ms t rs).map hD))) (x12 := y12) (x13 := x13) hrr (by omega) hta r4 ro
    exact ⟨_, _, by simp [setT, setTs, setN, Rule.lf], hz, _, _, _, rfl⟩) (e := e3 ns i (.dat (.int (c1 + 31 * (i : Nat)))) (.dat (.str t)) (.dat (.tup (rs.map Rule.d))) (.dat (.tup ((ms t rs).map mkP))) (.dat (.lst U)) (.dat (.tup ((ms t rs).map mkP))) y8 (.dat (.lst ((ms t rs).map hD))) x10 x11 x12 x13) ⟨_, _, _, rfl⟩
  exact ⟨_, _, _, _, _, _, _, _, _, _, _, _, by rw [forS_ap, hit, rb_ok]; exact hf⟩
theorem law03 (ns : List Int) : f_law [.lst (ns.map .int)] = .ok (.bl true) := by
  unfold f_law runD
  have hB : B_law = seqS (forS (itF asRng1 (consF (cD (.int 12)) nilF)) (.nm 1) bT3) (retS (cD (.bl true))) := rfl
  have e0 : initE 14 [.lst (ns.map .int)] = [.dat (.lst (ns.map .int)), .un, .un, .un, .un, .un, .un, .un, .un, .un, .un, .un, .un, .un] := rfl
  obtain ⟨e', h1, y1, y2, y3, y4, y5, y6, y7, y8, y9, y10, y11, y12, y13, rfl⟩ := forF_inv (t := .nm 1) (B := bT3) (items := rgD 0 12) (fun _ e => ∃ y1 y2 y3 y4 y5 y6 y7 y8 y9 y10 y11 y12 y13, e = [.dat (.lst (ns.map .int)), y1, y2, y3, y4, y5, y6, y7, y8, y9, y10, y11, y12, y13]) (fun i d e hd he => by
    obtain ⟨y1, y2, y3, y4, y5, y6, y7, y8, y9, y10, y11, y12, y13, rfl⟩ := he
    obtain ⟨_, rfl⟩ := rgD_get hd
    rw [Int.zero_add]
    obtain ⟨z2, z3, z4, z5, z6, z7, z8, z9, z10, z11, z12, z13, hz⟩ := turn3 (ns := ns) (i := i) (x2 := y2) (x3 := y3) (x4 := y4) (x5 := y5) (x6 := y6) (x7 := y7) (x8 := y8) (x9 := y9) (x10 := y10) (x11 := y11) (x12 := y12) (x13 := y13)
    exact ⟨_, _, by rw [setT_nm, setN_lf rfl]; rfl, hz, _, _, _, _, _, _, _, _, _, _, _, _, _, rfl⟩) (e := [.dat (.lst (ns.map .int)), .un, .un, .un, .un, .un, .un, .un, .un, .un, .un, .un, .un, .un]) ⟨_, _, _, _, _, _, _, _, _, _, _, _, _, rfl⟩
  have hit : itF asRng1 (consF (cD (.int 12)) nilF) [.dat (.lst (ns.map .int)), .un, .un, .un, .un, .un, .un, .un, .un, .un, .un, .un, .un, .un] = .ok (rgD 0 12) := by
    rw [itF_ap, cons_ok rfl rfl, rb_ok]
    exact asRng1_nat (n := 12) (by decide)
  rw [hB, e0, seqS_nx (by rw [forS_ap, hit, rb_ok]; exact h1)]
  rfl
end FM

set_option Elab.async false
set_option linter.all false
set_option maxRecDepth 100000


namespace FM
open PySem PySem.Spec PyProof.Rows L2
theorem RpAll.ints {K : PySem.W.Frag} {H : Hp} : ∀ ns : List Int, RpAll K H (ns.map .int) (ns.map V.int)
  | [] => RpAll.nil
  | n :: ns => RpAll.cons rfl (RpAll.ints ns)
theorem all_mk {l : PySem.W.OpenLaw} {w : World} {K : PySem.W.Frag} {h : Heap} {mg : Str → Option Value} {fa : Addr} (X : K.In h) (G : h.Ns mainGlobals mg) (hfa : mg "law" = some (.ref fa))
    {f0 : Addr} {od0 an0 : Option Addr} {sl0 : Array (Option Value)} {oc0 kV0 dc0 pm0 cd0 ct0 : Value}
    (a0 : PySem.W.nsIn K mainGlobals "stretches" = some (some (.ref f0))) (l0 : K.lookup f0 = some ⟨oc0, od0, .func (PySem.W.fnOf "stretches" "stretches" (defArgs s_stretches) (defBody s_stretches) (defScope s_stretches) .none kV0 dc0 pm0 an0 cd0 ct0), sl0⟩) (c0_ : PySem.W.codeIn K cd0 "stretches" = true) (k0 : PySem.W.keepIn K (.ref f0) = true)
    {f1 : Addr} {od1 an1 : Option Addr} {sl1 : Array (Option Value)} {oc1 kV1 dc1 pm1 cd1 ct1 : Value}
    (a1 : PySem.W.nsIn K mainGlobals "twice" = some (some (.ref f1))) (l1 : K.lookup f1 = some ⟨oc1, od1, .func (PySem.W.fnOf "twice" "twice" (defArgs s_twice) (defBody s_twice) (defScope s_twice) .none kV1 dc1 pm1 an1 cd1 ct1), sl1⟩) (c1_ : PySem.W.codeIn K cd1 "twice" = true) (k1 : PySem.W.keepIn K (.ref f1) = true)
    {f2 : Addr} {od2 an2 : Option Addr} {sl2 : Array (Option Value)} {oc2 kV2 dc2 pm2 cd2 ct2 : Value}
    (a2 : PySem.W.nsIn K mainGlobals "great" = some (some (.ref f2))) (l2 : K.lookup f2 = some ⟨oc2, od2, .func (PySem.W.fnOf "great" "great" (defArgs s_great) (defBody s_great) (defScope s_great) .none kV2 dc2 pm2 an2 cd2 ct2), sl2⟩) (c2_ : PySem.W.codeIn K cd2 "great" = true) (k2 : PySem.W.keepIn K (.ref f2) = true)
    {f3 : Addr} {od3 an3 : Option Addr} {sl3 : Array (Option Value)} {oc3 kV3 dc3 pm3 cd3 ct3 : Value}
    (a3 : PySem.W.nsIn K mainGlobals "faults_of" = some (some (.ref f3))) (l3 : K.lookup f3 = some ⟨oc3, od3, .func (PySem.W.fnOf "faults_of" "faults_of" (defArgs s_faults_of) (defBody s_faults_of) (defScope s_faults_of) .none kV3 dc3 pm3 an3 cd3 ct3), sl3⟩) (c3_ : PySem.W.codeIn K cd3 "faults_of" = true) (k3 : PySem.W.keepIn K (.ref f3) = true)
    {c0 T0 : Addr} {ec : Value} {dc : Option Addr} {vsc : Array Value} {slc : Array (Option Value)}
    {f4 : Addr} {od4 an4 : Option Addr} {sl4 : Array (Option Value)} {oc4 kV4 dc4 pm4 ct4 : Value}
    (a4 : PySem.W.nsIn K mainGlobals "all_marks" = some (some (.ref f4))) (l4 : K.lookup f4 = some ⟨oc4, od4, .func (PySem.W.fnOf "all_marks" "all_marks" (defArgs s_all_marks) (defBody s_all_marks) (defScope s_all_marks) .none kV4 dc4 pm4 an4 (.ref c0) ct4), sl4⟩) (c4_ : PySem.W.codeIn K (.ref c0) "all_marks" = true) (k4 : PySem.W.keepIn K (.ref f4) = true)
    (t1 : K.lookup c0 = some ⟨ec, dc, .fields vsc, slc⟩) (t2 : vsc[11]? = some (.ref T0)) (t3 : PySem.W.codeHdIn K c0 T0 = true) (t4 : K.lookup T0 = none) (t5 : h.get? T0 = some { cls := .none, data := .fields #[] })
    {f5 : Addr} {od5 an5 : Option Addr} {sl5 : Array (Option Value)} {oc5 kV5 dc5 pm5 cd5 ct5 : Value}
    (a5 : PySem.W.nsIn K mainGlobals "marks_in" = some (some (.ref f5))) (l5 : K.lookup f5 = some ⟨oc5, od5, .func (PySem.W.fnOf "marks_in" "marks_in" (defArgs s_marks_in) (defBody s_marks_in) (defScope s_marks_in) .none kV5 dc5 pm5 an5 cd5 ct5), sl5⟩) (c5_ : PySem.W.codeIn K cd5 "marks_in" = true) (k5 : PySem.W.keepIn K (.ref f5) = true)
    {f6 : Addr} {od6 an6 : Option Addr} {sl6 : Array (Option Value)} {oc6 kV6 dc6 pm6 cd6 ct6 : Value}
    (a6 : PySem.W.nsIn K mainGlobals "_law_cell" = some (some (.ref f6))) (l6 : K.lookup f6 = some ⟨oc6, od6, .func (PySem.W.fnOf "_law_cell" "_law_cell" (defArgs s_law_cell) (defBody s_law_cell) (defScope s_law_cell) .none kV6 dc6 pm6 an6 cd6 ct6), sl6⟩) (c6_ : PySem.W.codeIn K cd6 "_law_cell" = true) (k6 : PySem.W.keepIn K (.ref f6) = true)
    {f7 : Addr} {od7 an7 : Option Addr} {sl7 : Array (Option Value)} {oc7 kV7 dc7 pm7 cd7 ct7 : Value}
    (a7 : PySem.W.nsIn K mainGlobals "_law_mix" = some (some (.ref f7))) (l7 : K.lookup f7 = some ⟨oc7, od7, .func (PySem.W.fnOf "_law_mix" "_law_mix" (defArgs s_law_mix) (defBody s_law_mix) (defScope s_law_mix) .none kV7 dc7 pm7 an7 cd7 ct7), sl7⟩) (c7_ : PySem.W.codeIn K cd7 "_law_mix" = true) (k7 : PySem.W.keepIn K (.ref f7) = true)
    {f8 : Addr} {od8 an8 : Option Addr} {sl8 : Array (Option Value)} {oc8 kV8 dc8 pm8 cd8 ct8 : Value}
    (a8 : PySem.W.nsIn K mainGlobals "_law_signs" = some (some (.ref f8))) (l8 : K.lookup f8 = some ⟨oc8, od8, .func (PySem.W.fnOf "_law_signs" "_law_signs" (defArgs s_law_signs) (defBody s_law_signs) (defScope s_law_signs) .none kV8 dc8 pm8 an8 cd8 ct8), sl8⟩) (c8_ : PySem.W.codeIn K cd8 "_law_signs" = true) (k8 : PySem.W.keepIn K (.ref f8) = true)
    {f9 : Addr} {od9 an9 : Option Addr} {sl9 : Array (Option Value)} {oc9 kV9 dc9 pm9 cd9 ct9 : Value}
    (a9 : PySem.W.nsIn K mainGlobals "_law_letters" = some (some (.ref f9))) (l9 : K.lookup f9 = some ⟨oc9, od9, .func (PySem.W.fnOf "_law_letters" "_law_letters" (defArgs s_law_letters) (defBody s_law_letters) (defScope s_law_letters) .none kV9 dc9 pm9 an9 cd9 ct9), sl9⟩) (c9_ : PySem.W.codeIn K cd9 "_law_letters" = true) (k9 : PySem.W.keepIn K (.ref f9) = true)
    {f10 : Addr} {od10 an10 : Option Addr} {sl10 : Array (Option Value)} {oc10 kV10 dc10 pm10 cd10 ct10 : Value}
    (a10 : PySem.W.nsIn K mainGlobals "_law_text" = some (some (.ref f10))) (l10 : K.lookup f10 = some ⟨oc10, od10, .func (PySem.W.fnOf "_law_text" "_law_text" (defArgs s_law_text) (defBody s_law_text) (defScope s_law_text) .none kV10 dc10 pm10 an10 cd10 ct10), sl10⟩) (c10_ : PySem.W.codeIn K cd10 "_law_text" = true) (k10 : PySem.W.keepIn K (.ref f10) = true)
    {f11 : Addr} {od11 an11 : Option Addr} {sl11 : Array (Option Value)} {oc11 kV11 dc11 pm11 cd11 ct11 : Value}
    (a11 : PySem.W.nsIn K mainGlobals "_law_rule" = some (some (.ref f11))) (l11 : K.lookup f11 = some ⟨oc11, od11, .func (PySem.W.fnOf "_law_rule" "_law_rule" (defArgs s_law_rule) (defBody s_law_rule) (defScope s_law_rule) .none kV11 dc11 pm11 an11 cd11 ct11), sl11⟩) (c11_ : PySem.W.codeIn K cd11 "_law_rule" = true) (k11 : PySem.W.keepIn K (.ref f11) = true)
    {f12 : Addr} {od12 an12 : Option Addr} {sl12 : Array (Option Value)} {oc12 kV12 dc12 pm12 cd12 ct12 : Value}
    (a12 : PySem.W.nsIn K mainGlobals "_law_rules" = some (some (.ref f12))) (l12 : K.lookup f12 = some ⟨oc12, od12, .func (PySem.W.fnOf "_law_rules" "_law_rules" (defArgs s_law_rules) (defBody s_law_rules) (defScope s_law_rules) .none kV12 dc12 pm12 an12 cd12 ct12), sl12⟩) (c12_ : PySem.W.codeIn K cd12 "_law_rules" = true) (k12 : PySem.W.keepIn K (.ref f12) = true)
    {f13 : Addr} {od13 an13 : Option Addr} {sl13 : Array (Option Value)} {oc13 kV13 dc13 pm13 cd13 ct13 : Value}
    (a13 : PySem.W.nsIn K mainGlobals "law" = some (some (.ref f13))) (l13 : K.lookup f13 = some ⟨oc13, od13, .func (PySem.W.fnOf "law" "law" (defArgs s_law) (defBody s_law) (defScope s_law) .none kV13 dc13 pm13 an13 cd13 ct13), sl13⟩) (c13_ : PySem.W.codeIn K cd13 "law" = true) (k13 : PySem.W.keepIn K (.ref f13) = true)
    (zenumerate : PySem.W.nsIn K mainGlobals "enumerate" = some none)
    (zlen : PySem.W.nsIn K mainGlobals "len" = some none)
    (zlist : PySem.W.nsIn K mainGlobals "list" = some none)
    (zrange : PySem.W.nsIn K mainGlobals "range" = some none)
    (zset : PySem.W.nsIn K mainGlobals "set" = some none)
    (zsorted : PySem.W.nsIn K mainGlobals "sorted" = some none)
    (ztuple : PySem.W.nsIn K mainGlobals "tuple" = some none)
    {xLETTERS : Str} {tLETTERS : Tok} (gLETTERS : PySem.W.nsIn K mainGlobals "LETTERS" = some (some (.str xLETTERS tLETTERS))) (eLETTERS : xLETTERS = S tLetters)
    {xSMALL : Str} {tSMALL : Tok} (gSMALL : PySem.W.nsIn K mainGlobals "SMALL" = some (some (.str xSMALL tSMALL))) (eSMALL : xSMALL = S tSmall)
    : LamX.LawAtS l w K CX0 6 63 "script" mg fa h := by
  have e := hfa.symm.trans (PySem.W.mg_of X G a13)
  cases e
  have T : Gm mg := ⟨PySem.W.mg_none_of X G zenumerate, PySem.W.mg_none_of X G zlen, PySem.W.mg_none_of X G zlist, PySem.W.mg_none_of X G zrange, PySem.W.mg_none_of X G zset, PySem.W.mg_none_of X G zsorted, PySem.W.mg_none_of X G ztuple, ⟨tLETTERS, by rw [PySem.W.mg_of X G gLETTERS, eLETTERS]⟩, ⟨tSMALL, by rw [PySem.W.mg_of X G gSMALL, eSMALL]⟩⟩
  have F0 := fun_mk (st := s_stretches) l0 c0_ k0
  have B0 := F0.binds (ps := ["text", "signs"]) fun _ _ _ _ _ _ us hl => match us, hl with | [_, _], _ => rfl
  have D0 : DefAt K mg "stretches" s_stretches ["text", "signs"] := ⟨f0, _, F0, PySem.W.mg_of X G a0, B0⟩
  have F1 := fun_mk (st := s_twice) l1 c1_ k1
  have B1 := F1.binds (ps := ["text"]) fun _ _ _ _ _ _ us hl => match us, hl with | [_], _ => rfl
  have D1 : DefAt K mg "twice" s_twice ["text"] := ⟨f1, _, F1, PySem.W.mg_of X G a1, B1⟩
  have F2 := fun_mk (st := s_great) l2 c2_ k2
  have B2 := F2.binds (ps := ["text"]) fun _ _ _ _ _ _ us hl => match us, hl with | [_], _ => rfl
  have D2 : DefAt K mg "great" s_great ["text"] := ⟨f2, _, F2, PySem.W.mg_of X G a2, B2⟩
  have F3 := fun_mk (st := s_faults_of) l3 c3_ k3
  have B3 := F3.binds (ps := ["text", "rule"]) fun _ _ _ _ _ _ us hl => match us, hl with | [_, _], _ => rfl
  have D3 : DefAt K mg "faults_of" s_faults_of ["text", "rule"] := ⟨f3, _, F3, PySem.W.mg_of X G a3, B3⟩
  have F4 := fun_mk (st := s_all_marks) l4 c4_ k4
  have B4 := F4.binds (ps := ["text", "rules"]) fun _ _ _ _ _ _ us hl => match us, hl with | [_, _], _ => rfl
  have F5 := fun_mk (st := s_marks_in) l5 c5_ k5
  have B5 := F5.binds (ps := ["text", "rules", "begin", "end"]) fun _ _ _ _ _ _ us hl => match us, hl with | [_, _, _, _], _ => rfl
  have D5 : DefAt K mg "marks_in" s_marks_in ["text", "rules", "begin", "end"] := ⟨f5, _, F5, PySem.W.mg_of X G a5, B5⟩
  have F6 := fun_mk (st := s_law_cell) l6 c6_ k6
  have B6 := F6.binds (ps := ["script", "k"]) fun _ _ _ _ _ _ us hl => match us, hl with | [_, _], _ => rfl
  have D6 : DefAt K mg "_law_cell" s_law_cell ["script", "k"] := ⟨f6, _, F6, PySem.W.mg_of X G a6, B6⟩
  have F7 := fun_mk (st := s_law_mix) l7 c7_ k7
  have B7 := F7.binds (ps := ["cell", "prime", "many"]) fun _ _ _ _ _ _ us hl => match us, hl with | [_, _, _], _ => rfl
  have D7 : DefAt K mg "_law_mix" s_law_mix ["cell", "prime", "many"] := ⟨f7, _, F7, PySem.W.mg_of X G a7, B7⟩
  have F8 := fun_mk (st := s_law_signs) l8 c8_ k8
  have B8 := F8.binds (ps := []) fun _ _ _ _ _ _ us hl => match us, hl with | [], _ => rfl
  have D8 : DefAt K mg "_law_signs" s_law_signs [] := ⟨f8, _, F8, PySem.W.mg_of X G a8, B8⟩
  have F9 := fun_mk (st := s_law_letters) l9 c9_ k9
  have B9 := F9.binds (ps := ["cell", "many"]) fun _ _ _ _ _ _ us hl => match us, hl with | [_, _], _ => rfl
  have D9 : DefAt K mg "_law_letters" s_law_letters ["cell", "many"] := ⟨f9, _, F9, PySem.W.mg_of X G a9, B9⟩
  have F10 := fun_mk (st := s_law_text) l10 c10_ k10
  have B10 := F10.binds (ps := ["cell"]) fun _ _ _ _ _ _ us hl => match us, hl with | [_], _ => rfl
  have D10 : DefAt K mg "_law_text" s_law_text ["cell"] := ⟨f10, _, F10, PySem.W.mg_of X G a10, B10⟩
  have F11 := fun_mk (st := s_law_rule) l11 c11_ k11
  have B11 := F11.binds (ps := ["cell"]) fun _ _ _ _ _ _ us hl => match us, hl with | [_], _ => rfl
  have D11 : DefAt K mg "_law_rule" s_law_rule ["cell"] := ⟨f11, _, F11, PySem.W.mg_of X G a11, B11⟩
  have F12 := fun_mk (st := s_law_rules) l12 c12_ k12
  have B12 := F12.binds (ps := ["cell"]) fun _ _ _ _ _ _ us hl => match us, hl with | [_], _ => rfl
  have D12 : DefAt K mg "_law_rules" s_law_rules ["cell"] := ⟨f12, _, F12, PySem.W.mg_of X G a12, B12⟩
  have F13 := fun_mk (st := s_law) l13 c13_ k13
  have hT0 : TabAt K T0 := ⟨f4, c0, _, _, _, _, _, _, _, _, a4, l4, rfl, t1, t2⟩
  refine ⟨PySem.W.fnOf "law" "law" (defArgs s_law) (defBody s_law) (defScope s_law) .none kV13 dc13 pm13 an13 cd13 ct13, [(c0, T0)], spD K ⟨fun _ => 0⟩ 1 f_law, fun p hp => ?_, fun p hp => ?_, fun p hp => ?_, fun s v => .of_eq rfl, fun H a ns hl _ hH hS => ?_, fun base _ _ tb => ?_⟩
  · rw [List.mem_singleton.mp hp]; exact t5
  · rw [List.mem_singleton.mp hp]; exact t4
  · rw [List.mem_singleton.mp hp]; exact PySem.W.codeHd_of_K X t3
  · refine ⟨fun P' hP => ?_, [.lst (ns.map .int)], rfl, RpAll.cons ⟨a, _, rfl, hS, RpAll.ints ns⟩ RpAll.nil, ?_⟩
    · obtain ⟨f', c', oc', od', fd', sl', e', dd', vs', sl2', q1, q2, q3, q4, q5⟩ := hP
      rw [a4] at q1; cases q1
      rw [l4] at q2; cases q2
      cases q3
      rw [t1] at q4; cases q4
      rw [t2] at q5; cases q5
      exact LamX.TabS.nil (hH (c0, T0) (List.mem_singleton.mpr rfl))
    · rw [law03 ns]
      intro v H' _ r
      exact r
  have D4 : DefTab K mg base "all_marks" s_all_marks ["text", "rules"] := ⟨f4, c0, T0, _, _, _, _, _, _, _, _, l4, c4_, k4, PySem.W.mg_of X G a4, B4, hT0, tb (c0, T0) (List.mem_singleton.mpr rfl)⟩
  have h_stretches := ok_stretches (P := l.prog) (w := w) (base := base) (C := ⟨fun _ => 0⟩) T D0 
  have h_law_cell := ok_law_cell (P := l.prog) (w := w) (base := base) (C := ⟨fun _ => 0⟩) T D6 
  have h_law_mix := ok_law_mix (P := l.prog) (w := w) (base := base) (C := ⟨fun _ => 0⟩) T D7 
  have h_law_signs := ok_law_signs (P := l.prog) (w := w) (base := base) (C := ⟨fun _ => 0⟩) T D8 
  have h_twice := ok_twice (P := l.prog) (w := w) (base := base) (C := ⟨fun _ => 0⟩) T D1 h_stretches
  have h_great := ok_great (P := l.prog) (w := w) (base := base) (C := ⟨fun _ => 0⟩) T D2 h_stretches
  have h_law_letters := ok_law_letters (P := l.prog) (w := w) (base := base) (C := ⟨fun _ => 0⟩) T D9 h_law_mix
  have h_faults_of := ok_faults_of (P := l.prog) (w := w) (base := base) (C := ⟨fun _ => 0⟩) T D3 h_great h_stretches h_twice
  have h_law_text := ok_law_text (P := l.prog) (w := w) (base := base) (C := ⟨fun _ => 0⟩) T D10 h_law_letters h_law_mix h_law_signs
  have h_law_rule := ok_law_rule (P := l.prog) (w := w) (base := base) (C := ⟨fun _ => 0⟩) T D11 h_law_letters h_law_mix h_law_signs
  have h_all_marks := ok_all_marks (P := l.prog) (w := w) (base := base) (C := ⟨fun _ => 0⟩) T D4 h_faults_of
  have h_law_rules := ok_law_rules (P := l.prog) (w := w) (base := base) (C := ⟨fun _ => 0⟩) T D12 h_law_mix h_law_rule
  have h_marks_in := ok_marks_in (P := l.prog) (w := w) (base := base) (C := ⟨fun _ => 0⟩) T D5 h_all_marks
  exact ok_law T F13 h_law_cell h_law_mix h_law_rules h_law_text h_all_marks h_marks_in
end FM
open PySem PySem.W PyProof.Rows
set_option maxHeartbeats 0 in
theorem PySem.Challenge.cw_faultmarks_k03_whole_pieces_holds : PySem.Challenge.rw_faultmarks_k03_whole_pieces.Holds := by
  w_on; o_law; k_head; (case hw => w_witness2)
  k_fill
  refine LamX.walk_ofTs (l := PySem.Challenge.rw_faultmarks_k03_whole_pieces) (n := 63) (k := 6) (x := "script") (CX := fun _ => L2.CX0) rfl (by decide) rfl ⟨rfl, by decide, by decide⟩ (fun w h Y => PySem.W.km_in_of Y) ?F (fun _ _ _ _ _ h => h)
  case F =>
    intro w mg fa h Y KX G hmg
    refine' FM.all_mk KX G hmg ?a0 ?l0 ?c0_ ?k0 ?a1 ?l1 ?c1_ ?k1 ?a2 ?l2 ?c2_ ?k2 ?a3 ?l3 ?c3_ ?k3 ?a4 ?l4 ?c4_ ?k4 ?t1 ?t2 ?t3 ?t4 ?t5 ?a5 ?l5 ?c5_ ?k5 ?a6 ?l6 ?c6_ ?k6 ?a7 ?l7 ?c7_ ?k7 ?a8 ?l8 ?c8_ ?k8 ?a9 ?l9 ?c9_ ?k9 ?a10 ?l10 ?c10_ ?k10 ?a11 ?l11 ?c11_ ?k11 ?a12 ?l12 ?c12_ ?k12 ?a13 ?l13 ?c13_ ?k13 ?zenumerate ?zlen ?zlist ?zrange ?zset ?zsorted ?ztuple ?gLETTERS ?eLETTERS ?gSMALL ?eSMALL
    (case a0 => k_is)
    (case l0 => k_is)
    (case c0_ => k_is)
    (case k0 => k_is)
    (case a1 => k_is)
    (case l1 => k_is)
    (case c1_ => k_is)
    (case k1 => k_is)
    (case a2 => k_is)
    (case l2 => k_is)
    (case c2_ => k_is)
    (case k2 => k_is)
    (case a3 => k_is)
    (case l3 => k_is)
    (case c3_ => k_is)
    (case k3 => k_is)
    (case a4 => k_is)
    (case l4 => k_is)
    (case c4_ => k_is)
    (case k4 => k_is)
    (case t1 => k_is)
    (case t2 => rfl)
    (case t3 => kernel_rfl)
    (case t4 => kernel_rfl)
    (case t5 => exact PySem.W.km_tabs_of Y _ (by decide))
    (case a5 => k_is)
    (case l5 => k_is)
    (case c5_ => k_is)
    (case k5 => k_is)
    (case a6 => k_is)
    (case l6 => k_is)
    (case c6_ => k_is)
    (case k6 => k_is)
    (case a7 => k_is)
    (case l7 => k_is)
    (case c7_ => k_is)
    (case k7 => k_is)
    (case a8 => k_is)
    (case l8 => k_is)
    (case c8_ => k_is)
    (case k8 => k_is)
    (case a9 => k_is)
    (case l9 => k_is)
    (case c9_ => k_is)
    (case k9 => k_is)
    (case a10 => k_is)
    (case l10 => k_is)
    (case c10_ => k_is)
    (case k10 => k_is)
    (case a11 => k_is)
    (case l11 => k_is)
    (case c11_ => k_is)
    (case k11 => k_is)
    (case a12 => k_is)
    (case l12 => k_is)
    (case c12_ => k_is)
    (case k12 => k_is)
    (case a13 => k_is)
    (case l13 => k_is)
    (case c13_ => k_is)
    (case k13 => k_is)
    (case zenumerate => k_is)
    (case zlen => k_is)
    (case zlist => k_is)
    (case zrange => k_is)
    (case zset => k_is)
    (case zsorted => k_is)
    (case ztuple => k_is)
    (case gLETTERS => k_is)
    (case eLETTERS => rfl)
    (case gSMALL => k_is)
    (case eSMALL => rfl)
