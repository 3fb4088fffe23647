import PyProof.Rows.All
import Wide.All
import OpenK.AllK
import Wide.FinOn
import KE.KIsAll
import KE.KDictSum
import KE.KLcPair
import KE.KDictOf
import PyProof.AttrMissHeap
import PySem.Challenge.RW_pq0600_01
open PySem PySem.W PyProof.Rows
set_option Elab.async false
set_option linter.unusedVariables false
set_option maxRecDepth 100000
set_option maxHeartbeats 8000000
open PySem.Calls
set_option tactic.hygienic false
set_option genSizeOf false
set_option bootstrap.genMatcherCode false
noncomputable section

namespace Mine

/-! ## Long conjunctions -/
inductive C4 (A1 A2 A3 A4 : Prop) : Prop
  | mk (h1 : A1) (h2 : A2) (h3 : A3) (h4 : A4)
inductive C5 (A1 A2 A3 A4 A5 : Prop) : Prop
  | mk (h1 : A1) (h2 : A2) (h3 : A3) (h4 : A4) (h5 : A5)
inductive C6 (A1 A2 A3 A4 A5 A6 : Prop) : Prop
  | mk (h1 : A1) (h2 : A2) (h3 : A3) (h4 : A4) (h5 : A5) (h6 : A6)
inductive C7 (A1 A2 A3 A4 A5 A6 A7 : Prop) : Prop
  | mk (h1 : A1) (h2 : A2) (h3 : A3) (h4 : A4) (h5 : A5) (h6 : A6) (h7 : A7)
inductive C8 (A1 A2 A3 A4 A5 A6 A7 A8 : Prop) : Prop
  | mk (h1 : A1) (h2 : A2) (h3 : A3) (h4 : A4) (h5 : A5) (h6 : A6) (h7 : A7) (h8 : A8)
inductive C9 (A1 A2 A3 A4 A5 A6 A7 A8 A9 : Prop) : Prop
  | mk (h1 : A1) (h2 : A2) (h3 : A3) (h4 : A4) (h5 : A5) (h6 : A6) (h7 : A7) (h8 : A8) (h9 : A9)
inductive C10 (A1 A2 A3 A4 A5 A6 A7 A8 A9 A10 : Prop) : Prop
  | mk (h1 : A1) (h2 : A2) (h3 : A3) (h4 : A4) (h5 : A5) (h6 : A6) (h7 : A7) (h8 : A8) (h9 : A9) (h10 : A10)
inductive C11 (A1 A2 A3 A4 A5 A6 A7 A8 A9 A10 A11 : Prop) : Prop
  | mk (h1 : A1) (h2 : A2) (h3 : A3) (h4 : A4) (h5 : A5) (h6 : A6) (h7 : A7) (h8 : A8) (h9 : A9) (h10 : A10) (h11 : A11)
inductive C12 (A1 A2 A3 A4 A5 A6 A7 A8 A9 A10 A11 A12 : Prop) : Prop
  | mk (h1 : A1) (h2 : A2) (h3 : A3) (h4 : A4) (h5 : A5) (h6 : A6) (h7 : A7) (h8 : A8) (h9 : A9) (h10 : A10) (h11 : A11) (h12 : A12)

inductive Ex1 {α1 : Type} (P : α1 → Prop) : Prop
  | mk (x1 : α1) (h : P x1)
inductive Ex2 {α1 α2 : Type} (P : α1 → α2 → Prop) : Prop
  | mk (x1 : α1) (x2 : α2) (h : P x1 x2)
inductive Ex3 {α1 α2 α3 : Type} (P : α1 → α2 → α3 → Prop) : Prop
  | mk (x1 : α1) (x2 : α2) (x3 : α3) (h : P x1 x2 x3)
inductive Ex4 {α1 α2 α3 α4 : Type} (P : α1 → α2 → α3 → α4 → Prop) : Prop
  | mk (x1 : α1) (x2 : α2) (x3 : α3) (x4 : α4) (h : P x1 x2 x3 x4)
inductive Ex5 {α1 α2 α3 α4 α5 : Type} (P : α1 → α2 → α3 → α4 → α5 → Prop) : Prop
  | mk (x1 : α1) (x2 : α2) (x3 : α3) (x4 : α4) (x5 : α5) (h : P x1 x2 x3 x4 x5)
inductive Ex6 {α1 α2 α3 α4 α5 α6 : Type} (P : α1 → α2 → α3 → α4 → α5 → α6 → Prop) : Prop
  | mk (x1 : α1) (x2 : α2) (x3 : α3) (x4 : α4) (x5 : α5) (x6 : α6) (h : P x1 x2 x3 x4 x5 x6)
inductive Ex7 {α1 α2 α3 α4 α5 α6 α7 : Type} (P : α1 → α2 → α3 → α4 → α5 → α6 → α7 → Prop) : Prop
  | mk (x1 : α1) (x2 : α2) (x3 : α3) (x4 : α4) (x5 : α5) (x6 : α6) (x7 : α7) (h : P x1 x2 x3 x4 x5 x6 x7)
inductive Ex8 {α1 α2 α3 α4 α5 α6 α7 α8 : Type} (P : α1 → α2 → α3 → α4 → α5 → α6 → α7 → α8 → Prop) : Prop
  | mk (x1 : α1) (x2 : α2) (x3 : α3) (x4 : α4) (x5 : α5) (x6 : α6) (x7 : α7) (x8 : α8) (h : P x1 x2 x3 x4 x5 x6 x7 x8)

/-! ## Plain values, plain objects, and how a heap bears them -/

inductive PV where
  | none
  | bool (b : Bool)
  | int (i : Int)
  | str (s : Str)
  | tup (vs : List PV)
  | ref (a : Addr)

mutual
noncomputable def VR (h : Heap) : Value → PV → Prop
  | v, .none => v = .none
  | v, .bool b => v = .bool b
  | v, .int i => ∃ t, v = .int i t
  | v, .str s => ∃ t, v = .str s t
  | v, .tup ps => ∃ a vs, v = .ref a ∧ IsTup h a (List.toArray vs) ∧ VRs h vs ps
  | v, .ref a => v = .ref a
noncomputable def VRs (h : Heap) : List Value → List PV → Prop
  | [], [] => True
  | v :: vs, p :: ps => VR h v p ∧ VRs h vs ps
  | _, _ => False
end

noncomputable def Pers (h h' : Heap) : Prop := ∀ a vs, IsTup h a vs → IsTup h' a vs
theorem Pers.refl (h : Heap) : Pers h h := fun _ _ x => x
theorem Pers.trans {h₁ h₂ h₃ : Heap} (x : Pers h₁ h₂) (y : Pers h₂ h₃) : Pers h₁ h₃ := fun a vs z => y a vs (x a vs z)

mutual
theorem VR.mono {h h' : Heap} (x : Pers h h') : ∀ {p : PV} {v : Value}, VR h v p → VR h' v p
  | .none, v, e => by simpa [VR] using e
  | .bool b, v, e => by simpa [VR] using e
  | .int i, v, e => by simpa [VR] using e
  | .str s, v, e => by simpa [VR] using e
  | .tup ps, v, e => by
    simp only [VR] at e ⊢
    obtain ⟨a, vs, e1, e2, e3⟩ := e
    exact ⟨a, vs, e1, x _ _ e2, VRs.mono x e3⟩
  | .ref a, v, e => by simpa [VR] using e
theorem VRs.mono {h h' : Heap} (x : Pers h h') : ∀ {ps : List PV} {vs : List Value}, VRs h vs ps → VRs h' vs ps
  | [], [], _ => by simp [VRs]
  | p :: ps, v :: vs, e => by
    simp only [VRs] at e ⊢
    exact ⟨VR.mono x e.1, VRs.mono x e.2⟩
  | [], _ :: _, e => by simp [VRs] at e
  | _ :: _, [], e => by simp [VRs] at e
end

theorem VRs.nil {h : Heap} : VRs h [] [] := by simp [VRs]
theorem VRs.cons {h : Heap} {v p vs ps} (a : VR h v p) (b : VRs h vs ps) : VRs h (v :: vs) (p :: ps) := by simp only [VRs]; exact ⟨a, b⟩
theorem VRs.head {h : Heap} {v p vs ps} (a : VRs h (v :: vs) (p :: ps)) : VR h v p := by simp only [VRs] at a; exact a.1
theorem VRs.tail {h : Heap} {v p vs ps} (a : VRs h (v :: vs) (p :: ps)) : VRs h vs ps := by simp only [VRs] at a; exact a.2
theorem VRs.length {h : Heap} : ∀ {vs : List Value} {ps : List PV}, VRs h vs ps → vs.length = ps.length
  | [], [], _ => rfl
  | v :: vs, p :: ps, e => by simp only [VRs] at e; rw [List.length_cons, List.length_cons, VRs.length e.2]
  | [], _ :: _, e => by simp [VRs] at e
  | _ :: _, [], e => by simp [VRs] at e
theorem VRs.append {h : Heap} : ∀ {vs : List Value} {ps : List PV} {ws : List Value} {qs : List PV}, VRs h vs ps → VRs h ws qs → VRs h (vs ++ ws) (ps ++ qs)
  | [], [], _, _, _, f => f
  | v :: vs, p :: ps, _, _, e, f => by
    simp only [VRs] at e; simp only [List.cons_append, VRs]; exact ⟨e.1, VRs.append e.2 f⟩
  | [], _ :: _, _, _, e, _ => by simp [VRs] at e
  | _ :: _, [], _, _, e, _ => by simp [VRs] at e
theorem VRs.get {h : Heap} : ∀ {vs : List Value} {ps : List PV}, VRs h vs ps → ∀ {i : Nat} {p : PV}, ps[i]? = some p → ∃ v, vs[i]? = some v ∧ VR h v p
  | [], [], _, i, p, e => by simp at e
  | v :: vs, q :: ps, e, 0, p, f => by
    simp only [VRs] at e; simp at f; subst f; exact ⟨v, rfl, e.1⟩
  | v :: vs, q :: ps, e, i + 1, p, f => by
    simp only [VRs] at e; simp only [List.getElem?_cons_succ] at f ⊢; exact VRs.get e.2 f
  | [], _ :: _, e, _, _, _ => by simp [VRs] at e
  | _ :: _, [], e, _, _, _ => by simp [VRs] at e
theorem VRs.get_none {h : Heap} {vs : List Value} {ps : List PV} (x : VRs h vs ps) {i : Nat} (e : ps[i]? = none) : vs[i]? = none := by
  rw [List.getElem?_eq_none_iff] at e ⊢; rw [x.length]; exact e
theorem VRs.split {h : Heap} : ∀ {ps qs : List PV} {vs : List Value}, VRs h vs (ps ++ qs) → ∃ v1 v2, vs = v1 ++ v2 ∧ VRs h v1 ps ∧ VRs h v2 qs
  | [], _, vs, e => ⟨[], vs, rfl, VRs.nil, e⟩
  | p :: ps, qs, v :: vs, e => by
    simp only [List.cons_append, VRs] at e
    obtain ⟨v1, v2, rfl, a, b⟩ := VRs.split e.2
    exact ⟨v :: v1, v2, rfl, VRs.cons e.1 a, b⟩
  | _ :: _, _, [], e => by simp [VRs] at e
theorem VRs.take {h : Heap} : ∀ (n : Nat) {ps : List PV} {vs : List Value}, VRs h vs ps → VRs h (vs.take n) (ps.take n)
  | 0, _, _, _ => by simp [VRs]
  | _ + 1, [], [], _ => by simp [VRs]
  | n + 1, p :: ps, v :: vs, e => by
    simp only [VRs] at e; simp only [List.take_succ_cons, VRs]; exact ⟨e.1, VRs.take n e.2⟩
  | _ + 1, [], _ :: _, e => by simp [VRs] at e
  | _ + 1, _ :: _, [], e => by simp [VRs] at e
theorem VRs.inv_nil {h : Heap} {vs : List Value} (x : VRs h vs []) : vs = [] := by cases vs with | nil => rfl | cons => simp [VRs] at x
theorem VRs.inv_cons {h : Heap} {vs : List Value} {p ps} (x : VRs h vs (p :: ps)) : ∃ v ws, vs = v :: ws ∧ VR h v p ∧ VRs h ws ps := by
  cases vs with
  | nil => simp [VRs] at x
  | cons v ws => simp only [VRs] at x; exact ⟨v, ws, rfl, x.1, x.2⟩

theorem VR.none {h : Heap} : VR h .none .none := by simp [VR]
theorem VR.bool {h : Heap} {b} : VR h (.bool b) (.bool b) := by simp [VR]
theorem VR.int {h : Heap} {i t} : VR h (.int i t) (.int i) := by simp only [VR]; exact ⟨t, rfl⟩
theorem VR.str {h : Heap} {s t} : VR h (.str s t) (.str s) := by simp only [VR]; exact ⟨t, rfl⟩
theorem VR.ref {h : Heap} {a} : VR h (.ref a) (.ref a) := by simp [VR]
theorem VR.tup {h : Heap} {a vs ps} (x : IsTup h a (List.toArray vs)) (y : VRs h vs ps) : VR h (.ref a) (.tup ps) := by simp only [VR]; exact ⟨a, vs, rfl, x, y⟩
theorem VR.inv_none {h : Heap} {v} (x : VR h v .none) : v = .none := by simpa [VR] using x
theorem VR.inv_bool {h : Heap} {v b} (x : VR h v (.bool b)) : v = .bool b := by simpa [VR] using x
theorem VR.inv_int {h : Heap} {v i} (x : VR h v (.int i)) : ∃ t, v = .int i t := by simpa [VR] using x
theorem VR.inv_str {h : Heap} {v s} (x : VR h v (.str s)) : ∃ t, v = .str s t := by simpa [VR] using x
theorem VR.inv_ref {h : Heap} {v a} (x : VR h v (.ref a)) : v = .ref a := by simpa [VR] using x
theorem VR.inv_tup {h : Heap} {v ps} (x : VR h v (.tup ps)) : ∃ a vs, v = .ref a ∧ IsTup h a (List.toArray vs) ∧ VRs h vs ps := by simpa [VR] using x

inductive AO where
  | list (vs : List PV)
  | dict (es : List (Int × PV)) (ep : Nat)
  | inst (C dx : Addr)
  | attrs (fs : List (Str × PV))
  | frame (u : Bool) (m : List (Str × PV))
  | cell (o : Option PV)
  | raw (o : Obj)

noncomputable def AO.fixed : AO → Bool
  | .inst .. | .frame .. | .raw _ => true
  | _ => false

noncomputable abbrev Loc := List (Str × PV)
noncomputable abbrev AH := Addr → Option AO
noncomputable def upd (H : AH) (a : Addr) (o : AO) : AH := fun b => if b = a then some o else H b
theorem upd_self {H : AH} {a o} : upd H a o a = some o := if_pos rfl
theorem upd_ne {H : AH} {a b o} (h : b ≠ a) : upd H a o b = H b := if_neg h

set_option genInjectivity false in
structure GS where
  prog : Program
  w : World
  base : Heap
  K : Frag
  err : Addr
  g : Array GenState
  d : Drawn
  os : OsState

noncomputable abbrev GS.M (G : GS) : Model := model G.prog G.w
noncomputable abbrev GS.S (G : GS) (h : Heap) (tk : Nat) : Shared := ⟨h, G.g, G.d, tk, G.os⟩

noncomputable def NsHas (h : Heap) (mm : Str → Option Value) (m : Loc) : Prop := ∀ x p, m.lookup x = some p → ∃ v, mm x = some v ∧ VR h v p
noncomputable def NsIs (h : Heap) (mm : Str → Option Value) (m : Loc) : Prop := ∀ x, match m.lookup x with | some p => ∃ v, mm x = some v ∧ VR h v p | none => mm x = none

noncomputable def Real (G : GS) (h : Heap) (a : Addr) : AO → Prop
  | .list ps => ∃ vs n, IsL h a (List.toArray vs) n ∧ VRs h vs ps
  | .dict es ep => ∃ xs : List (Int × Value), h.DictAt (intKind G.prog G.w) a xs ep ∧ xs.map (·.1) = es.map (·.1) ∧ VRs h (xs.map (·.2)) (es.map (·.2))
  | .inst C dx => ∃ o, h.get? a = some o ∧ o.cls = .ref C ∧ o.data = .plain ∧ o.dict = some dx ∧ dx ≠ a
  | .attrs fs => ∃ mm, h.Ns1 a mm ∧ NsIs h mm fs
  | .frame u m => ∃ mm, h.Ns a mm ∧ (u = true → h.Ns1 a mm) ∧ NsHas h mm m
  | .cell c => ∃ o ov, h.get? a = some o ∧ o.data = .cell ov ∧ (match c with | some p => ∃ v, ov = some v ∧ VR h v p | none => ov = none)
  | .raw o => h.get? a = some o ∧ o.cls ≠ .type "tuple"

theorem NsHas.mono {h h' mm m} (x : NsHas h mm m) (k : Pers h h') : NsHas h' mm m := fun y p e => let ⟨v, a, b⟩ := x y p e; ⟨v, a, b.mono k⟩
set_option tactic.hygienic true in
theorem NsIs.mono {h h' mm m} (x : NsIs h mm m) (k : Pers h h') : NsIs h' mm m := fun y => by
  have := x y
  split at this
  · rename_i p hp; obtain ⟨v, a, b⟩ := this; exact ⟨v, a, b.mono k⟩
  · simpa using this

theorem Real.mono {G : GS} {h h' : Heap} {a : Addr} {o : AO} (x : Real G h a o) (k : Pers h h') (e : ∀ ob, h.get? a = some ob → h'.get? a = some ob) : Real G h' a o := by
  cases o with
  | list ps => obtain ⟨vs, n, a1, a2⟩ := x; exact ⟨vs, n, e _ a1, a2.mono k⟩
  | dict es ep => obtain ⟨xs, ⟨o, es', r1, r2⟩, a2, a3⟩ := x; exact ⟨xs, ⟨o, es', e _ r1, r2⟩, a2, a3.mono k⟩
  | inst C dx => obtain ⟨o, a1, r⟩ := x; exact ⟨o, e _ a1, r⟩
  | attrs fs => obtain ⟨mm, a1, a2⟩ := x; exact ⟨mm, a1.at e, a2.mono k⟩
  | frame u m => obtain ⟨mm, ⟨o, es, ep, b1, b2⟩, a1, a2⟩ := x; exact ⟨mm, ⟨o, es, ep, e _ b1, b2⟩, fun q => (a1 q).at e, a2.mono k⟩
  | cell c =>
    obtain ⟨o, ov, a1, a2, a3⟩ := x
    refine ⟨o, ov, e _ a1, a2, ?_⟩
    cases c with
    | none => exact a3
    | some p => obtain ⟨v, b1, b2⟩ := a3; exact ⟨v, b1, b2.mono k⟩
  | raw o => exact ⟨e _ x.1, x.2⟩

theorem Real.lt {G : GS} {h : Heap} {a : Addr} {o : AO} (x : Real G h a o) : a < h.objs.size := by
  cases o with
  | list ps => obtain ⟨vs, n, a1, _⟩ := x; exact Heap.lt_size a1
  | dict es ep => obtain ⟨xs, ⟨o, es', r1, r2⟩, a2, a3⟩ := x; exact Heap.lt_size r1
  | inst C dx => obtain ⟨o, a1, r⟩ := x; exact Heap.lt_size a1
  | attrs fs => obtain ⟨mm, a1, a2⟩ := x; exact a1.ns.lt
  | frame u m => obtain ⟨mm, a1, a2⟩ := x; exact a1.lt
  | cell c => obtain ⟨o, ov, a1, a2, a3⟩ := x; exact Heap.lt_size a1
  | raw o => exact Heap.lt_size x.1

theorem Real.notTup {G : GS} {h : Heap} {a : Addr} {o : AO} (x : Real G h a o) (vs) : ¬ IsTup h a vs := by
  rintro ⟨ot, t1, t2, n, t3⟩
  cases o with
  | list ps => obtain ⟨vs, n, a1, _⟩ := x; unfold IsL at a1; rw [t1] at a1; cases a1; exact absurd (Value.type.inj t2) (by decide)
  | dict es ep => obtain ⟨xs, ⟨o, es', r1, r2, r3, _⟩, _⟩ := x; rw [t1] at r1; cases r1; rw [t3] at r3; cases r3
  | inst C dx => obtain ⟨o, a1, a2, r⟩ := x; rw [t1] at a1; cases a1; rw [t2] at a2; cases a2
  | attrs fs => obtain ⟨mm, ⟨o, es, ep, a1, a2, _⟩, _⟩ := x; rw [t1] at a1; cases a1; rw [t3] at a2; cases a2
  | frame u m => obtain ⟨mm, ⟨o, es, ep, a1, a2, _⟩, _⟩ := x; rw [t1] at a1; cases a1; rw [t3] at a2; cases a2
  | cell c => obtain ⟨o, ov, a1, a2, _⟩ := x; rw [t1] at a1; cases a1; rw [t3] at a2; cases a2
  | raw o => obtain ⟨a1, a2⟩ := x; rw [t1] at a1; cases a1; exact a2 t2

noncomputable def KeepH (H H' : AH) : Prop := ∀ a o, H a = some o → o.fixed = true → H' a = some o
theorem KeepH.refl (H : AH) : KeepH H H := fun _ _ e _ => e
theorem KeepH.trans {H₁ H₂ H₃ : AH} (x : KeepH H₁ H₂) (y : KeepH H₂ H₃) : KeepH H₁ H₃ := fun a o e f => y a o (x a o e f) f

structure RelH (G : GS) (H : AH) (h : Heap) : Prop where
  stays : G.base.StaysIn h
  real : ∀ a o, H a = some o → Real G h a o
  fresh : ∀ a o, H a = some o → G.base.get? a = none ∧ (a ≠ sysModules ∨ ∃ ob, o = .raw ob)
  glob : ∃ o, G.base.get? mainGlobals = some o

theorem RelH.none_at_size {G H h} (R : RelH G H h) : H h.objs.size = none := by
  cases q : H h.objs.size with
  | none => rfl
  | some o => exact absurd (R.real _ _ q).lt (Nat.lt_irrefl _)
theorem RelH.none_of_get {G H h a} (R : RelH G H h) (e : h.get? a = none) : H a = none := by
  cases q : H a with
  | none => rfl
  | some o =>
    exfalso
    have := R.real _ _ q
    cases o with
    | list ps => obtain ⟨vs, n, a1, _⟩ := this; unfold IsL at a1; rw [e] at a1; cases a1
    | dict es ep => obtain ⟨xs, ⟨o, es', r1, r2⟩, a2, a3⟩ := this; rw [e] at r1; cases r1
    | inst C dx => obtain ⟨o, a1, r⟩ := this; rw [e] at a1; cases a1
    | attrs fs => obtain ⟨mm, ⟨o, es, ep, a1, _⟩, a2⟩ := this; rw [e] at a1; cases a1
    | frame u m => obtain ⟨mm, ⟨o, es, ep, a1, _⟩, a2⟩ := this; rw [e] at a1; cases a1
    | cell c => obtain ⟨o, ov, a1, a2, a3⟩ := this; rw [e] at a1; cases a1
    | raw o => have h1 := this.1; rw [e] at h1; cases h1

theorem Pers.of_extBut {h h' : Heap} {a : Addr} (x : Heap.ExtBut a h h') (n : ∀ vs, ¬ IsTup h a vs) : Pers h h' := fun b vs t => by
  have hb : b ≠ a := fun e => n vs (e ▸ t)
  obtain ⟨o, h1, r⟩ := t
  exact ⟨o, x b o hb h1, r⟩
theorem Pers.of_keeps {h h' : Heap} (x : ∀ b o, h.get? b = some o → h'.get? b = some o) : Pers h h' := fun b vs ⟨o, h1, r⟩ => ⟨o, x b o h1, r⟩

theorem base_none {base h : Heap} (k : base.StaysIn h) {a : Addr} (e : h.get? a = none) : base.get? a = none := by
  cases q : base.get? a with
  | none => rfl
  | some o => have := k a o q; rw [e] at this; cases this

theorem RelH.step {G : GS} {H : AH} {h h' : Heap} {a : Addr} {o : AO} (R : RelH G H h) (x : Heap.ExtBut a h h') (p : Pers h h') (r : Real G h' a o) (hb : G.base.get? a = none ∧ (a ≠ sysModules ∨ ∃ ob, o = .raw ob)) : RelH G (upd H a o) h' where
  glob := R.glob
  stays b ob e := x b ob (fun q => by rw [q, hb.1] at e; cases e) (R.stays b ob e)
  real b ob e := by
    by_cases hba : b = a
    · subst hba; rw [upd_self] at e; cases e; exact r
    · rw [upd_ne hba] at e; exact (R.real b ob e).mono p fun oo q => x b oo hba q
  fresh b ob e := by
    by_cases hba : b = a
    · subst hba; rw [upd_self] at e; cases e; exact hb
    · rw [upd_ne hba] at e; exact R.fresh b ob e

theorem RelH.keeps {G : GS} {H : AH} {h h' : Heap} (R : RelH G H h) (x : ∀ b o, h.get? b = some o → h'.get? b = some o) : RelH G H h' where
  glob := R.glob
  stays b ob e := x b ob (R.stays b ob e)
  real b ob e := (R.real b ob e).mono (Pers.of_keeps x) fun oo q => x b oo q
  fresh := R.fresh

theorem get_none_of_ge {h : Heap} {a : Addr} (e : h.objs.size ≤ a) : h.get? a = none := by
  cases q : h.get? a with
  | none => rfl
  | some o => exact absurd (Heap.lt_size q) (Nat.not_lt.mpr e)
theorem RelH.low {G : GS} {H : AH} {h : Heap} (R : RelH G H h) : 3 < h.objs.size := let ⟨_, e⟩ := R.glob; Heap.lt_size (R.stays _ _ e)
/-- a new object -/
theorem RelH.new {G : GS} {H : AH} {h h' : Heap} {a : Addr} {o : AO} (R : RelH G H h) (x : ∀ b o, h.get? b = some o → h'.get? b = some o) (hn : h.objs.size ≤ a) (r : Real G h' a o) : RelH G (upd H a o) h' :=
  R.step (fun b ob _ e => x b ob e) (Pers.of_keeps x) r ⟨base_none R.stays (get_none_of_ge hn), .inl fun q => by have := R.low; rw [q] at hn; exact absurd hn (by unfold sysModules; lia)⟩
/-- an object that stands, changed -/
theorem RelH.set {G : GS} {H : AH} {h h' : Heap} {a : Addr} {o o' : AO} (R : RelH G H h) (x : Heap.ExtBut a h h') (hn : H a = some o') (r : Pers h h' → Real G h' a o) (hr : ∀ ob, o' = .raw ob → ∃ ob', o = .raw ob' := by first | (intro _ z; cases z; done) | (intro _ _; exact ⟨_, rfl⟩)) : RelH G (upd H a o) h' ∧ Pers h h' :=
  have p := Pers.of_extBut x ((R.real _ _ hn).notTup)
  ⟨R.step x p (r p) ⟨(R.fresh _ _ hn).1, (R.fresh _ _ hn).2.imp id fun ⟨ob, z⟩ => hr ob z⟩, p⟩
theorem RelH.notMods {G : GS} {H : AH} {h : Heap} {a es ep} (R : RelH G H h) (e : H a = some (.dict es ep)) : a ≠ sysModules := by
  rcases (R.fresh _ _ e).2 with q | ⟨ob, q⟩
  · exact q
  · cases q

noncomputable def FrOk (l : List Env) (H : AH) : Prop := ∀ e ∈ l, e.scope.kind ≠ .module ∧ ∃ L u m, e.frame = some L ∧ H L = some (.frame u m)
theorem FrOk.keep {l : List Env} {H H' : AH} (x : FrOk l H) (k : KeepH H H') : FrOk l H' := fun e he => let ⟨a, L, u, m, b, c⟩ := x e he; ⟨a, L, u, m, b, k _ _ c rfl⟩

noncomputable def HandOk (hd : Option Value) (H : AH) : Prop := hd = none ∨ ∃ e o vs, hd = some (.ref e) ∧ H e = some (.raw o) ∧ o.data = .fields vs ∧ vs[2]? = some .none
theorem HandOk.keep {hd : Option Value} {H H' : AH} (x : HandOk hd H) (k : KeepH H H') : HandOk hd H' :=
  x.imp id fun ⟨e, o, vs, a, b, c⟩ => ⟨e, o, vs, a, k _ _ b rfl, c⟩

set_option genInjectivity false in
structure FX where
  G : GS
  A : Around
  env : Env
  top : Env
  outer : List Env
  uniq : Bool
  n : Nat
  hn : Bool
  hid : List (Addr × AO)

noncomputable abbrev FX.M (X : FX) : Model := model X.G.prog X.G.w
/-- the whole plain heap: the frame's locals, what is hidden (iterators under way), and H -/
noncomputable def FX.full (X : FX) (m : Loc) (H : AH) : AH := fun a => if a = X.env.locals then some (.frame X.uniq m) else match X.hid.lookup a with | some o => some o | none => H a
noncomputable def FX.Own (X : FX) (a : Addr) : Prop := a = X.env.locals ∨ ∃ o, X.hid.lookup a = some o
noncomputable def FX.Free (X : FX) (H : AH) : Prop := ∀ a, X.Own a → H a = none
/-- a heap with hidden objects laid over it -/
noncomputable def over (B : List (Addr × AO)) (H : AH) : AH := fun a => match B.lookup a with | some o => some o | none => H a
noncomputable def FreeB (B : List (Addr × AO)) (H : AH) : Prop := ∀ a o, B.lookup a = some o → H a = none
theorem over_at {B : List (Addr × AO)} {H : AH} {a} (n : B.lookup a = none) : over B H a = H a := by unfold over; rw [n]
theorem FreeB.ne {B : List (Addr × AO)} {H : AH} {a o} (x : FreeB B H) (e : H a = some o) : B.lookup a = none := by
  cases q : B.lookup a with
  | none => rfl
  | some o' => rw [x a o' q] at e; cases e
theorem FX.full_over {X : FX} {m H} : X.full m H = over ((X.env.locals, .frame X.uniq m) :: X.hid) H := by
  funext a
  unfold FX.full over
  rw [List.lookup_cons]
  by_cases z : a = X.env.locals
  · subst z; simp
  · have z' : (a == X.env.locals) = false := by simpa using z
    rw [if_neg z, z']
theorem FX.full_upd_over {X : FX} {m H} : X.full m H = upd (over X.hid H) X.env.locals (.frame X.uniq m) := by
  funext a
  unfold FX.full upd over
  rfl
set_option tactic.hygienic true in
theorem FX.free_iff {X : FX} {m H} : X.Free H ↔ FreeB ((X.env.locals, .frame X.uniq m) :: X.hid) H := by
  constructor
  · intro l a o q
    rw [List.lookup_cons] at q
    split at q
    · rename_i z; exact l a (.inl (by simpa using z))
    · exact l a (.inr ⟨o, q⟩)
  · rintro l a (rfl | ⟨o, q⟩)
    · exact l _ (.frame X.uniq m) (by simp)
    · by_cases z : a = X.env.locals
      · exact l _ (.frame X.uniq m) (by subst z; simp)
      · have z' : (a == X.env.locals) = false := by simpa using z
        exact l a o (by rw [List.lookup_cons, z']; exact q)
theorem FX.full_self {X : FX} {m H} : X.full m H X.env.locals = some (.frame X.uniq m) := if_pos rfl
theorem FX.full_at {X : FX} {m H a} (n : ¬ X.Own a) : X.full m H a = H a := by
  unfold FX.full
  rw [if_neg fun q => n (.inl q)]
  cases q : X.hid.lookup a with
  | none => rfl
  | some o => exact absurd (.inr ⟨o, q⟩) n
set_option tactic.hygienic true in
theorem FX.full_some {X : FX} {m H a} (n : X.Own a) : ∃ o, X.full m H a = some o := by
  unfold FX.full
  split
  · exact ⟨_, rfl⟩
  · rename_i h
    rcases n with q | ⟨o, q⟩
    · exact absurd q h
    · rw [q]; exact ⟨_, rfl⟩
theorem FX.full_nil {X : FX} {m H} (e : X.hid = []) : X.full m H = upd H X.env.locals (.frame X.uniq m) := by
  funext a
  unfold FX.full upd
  rw [e]
  rfl
theorem FX.free_ne {X : FX} {H : AH} {a o} (l : X.Free H) (e : H a = some o) : ¬ X.Own a := fun n => by rw [l a n] at e; cases e

structure FX.Ok (X : FX) : Prop where
  kind : X.env.scope.kind = .function
  globals : X.env.globals = mainGlobals
  builtins : X.env.builtins = builtinsNs
  stack : X.A.frames = some (X.top :: X.outer)
  frame : X.env.frame = X.top.frame
  depth : X.A.depth + X.n ≤ 900
  units : X.A.units + 20 * X.n ≤ 9000
  hand : X.hn = true → X.A.handled = none
  hfix : ∀ a o, X.hid.lookup a = some o → o.fixed = true

structure Rel (X : FX) (m : Loc) (H : AH) (h : Heap) : Prop where
  r : RelH X.G (X.full m H) h
  l : X.Free H
  fr : FrOk (X.top :: X.outer) (X.full m H)
  hd : HandOk X.A.handled (X.full m H)

theorem KeepH.full {X : FX} {m m' : Loc} {H H' : AH} (k : KeepH H H') : ∀ a o, X.full m H a = some o → o.fixed = true → a ≠ X.env.locals → X.full m' H' a = some o := fun a o e f n => by
  unfold FX.full at e ⊢
  rw [if_neg n] at e ⊢
  cases q : X.hid.lookup a with
  | none => rw [q] at e; exact k a o e f
  | some o' => rw [q] at e; exact e
theorem FrOk.full {X : FX} {l : List Env} {m m' : Loc} {H H' : AH} (k : KeepH H H') (x : FrOk l (X.full m H)) : FrOk l (X.full m' H') := fun e he => by
  obtain ⟨a, L, u, mm, b, c⟩ := x e he
  by_cases q : L = X.env.locals
  · exact ⟨a, L, X.uniq, m', b, by rw [q]; exact FX.full_self⟩
  · exact ⟨a, L, u, mm, b, k.full _ _ c rfl q⟩
theorem HandOk.full {X : FX} {hd} {m m' : Loc} {H H' : AH} (k : KeepH H H') (x : HandOk hd (X.full m H)) : HandOk hd (X.full m' H') :=
  x.imp id fun ⟨e, o, vs, a, b, c⟩ => ⟨e, o, vs, a, k.full _ _ b rfl (fun q => by rw [q, FX.full_self] at b; cases b), c⟩

theorem full_upd {X : FX} {m H a o} (h : ¬ X.Own a) : X.full m (upd H a o) = upd (X.full m H) a o := by
  funext b
  by_cases q : b = a
  · subst q; rw [FX.full_at h, upd_self, upd_self]
  · rw [upd_ne q]
    unfold FX.full
    split
    · rfl
    · split
      · rfl
      · rw [upd_ne q]
theorem FX.Free.upd {X : FX} {H : AH} {a o} (l : X.Free H) (h : ¬ X.Own a) : X.Free (upd H a o) := fun b n => by
  rw [upd_ne fun q => h (by rw [← q]; exact n)]; exact l b n

/-- from a whole heap with the frame back to the pair -/
theorem Rel.mk' {X : FX} {m m' : Loc} {H H' : AH} {h h' : Heap} (R : Rel X m H h) (r : RelH X.G (X.full m' H') h') (k : KeepH H H') (l : X.Free H') : Rel X m' H' h' :=
  ⟨r, l, R.fr.full k, R.hd.full k⟩

theorem Rel.at {X : FX} {m H h} (R : Rel X m H h) {a o} (e : H a = some o) : Real X.G h a o ∧ ¬ X.Own a ∧ X.full m H a = some o := by
  have n := FX.free_ne R.l e
  have f : X.full m H a = some o := by rw [FX.full_at n]; exact e
  exact ⟨R.r.real _ _ f, n, f⟩

theorem Rel.none_of_get {X : FX} {m H h a} (R : Rel X m H h) (e : h.get? a = none) : H a = none ∧ ¬ X.Own a := by
  have f := R.r.none_of_get e
  have n : ¬ X.Own a := fun n => by obtain ⟨o, q⟩ := FX.full_some (m := m) (H := H) n; rw [q] at f; cases f
  rw [FX.full_at n] at f
  exact ⟨f, n⟩

theorem KeepH.upd_new {H : AH} {a o} (e : H a = none) : KeepH H (upd H a o) := fun b ob x _ => by
  rw [upd_ne (fun q => by rw [q, e] at x; cases x)]; exact x
theorem KeepH.upd_set {H : AH} {a o o'} (e : H a = some o') (f : o'.fixed = false) : KeepH H (upd H a o) := fun b ob x g => by
  rw [upd_ne (fun q => by rw [q, e] at x; cases x; rw [f] at g; cases g)]; exact x

theorem Rel.new {X : FX} {m : Loc} {H : AH} {h h' : Heap} {a : Addr} {o : AO} (R : Rel X m H h) (x : ∀ b o, h.get? b = some o → h'.get? b = some o) (hn : h.objs.size ≤ a) (r : Real X.G h' a o) :
    Rel X m (upd H a o) h' ∧ KeepH H (upd H a o) ∧ Pers h h' ∧ H a = none := by
  obtain ⟨e, n⟩ := R.none_of_get (get_none_of_ge hn)
  have k : KeepH H (upd H a o) := .upd_new e
  refine ⟨R.mk' (by rw [full_upd n]; exact R.r.new x hn r) k (R.l.upd n), k, Pers.of_keeps x, e⟩
theorem Rel.set {X : FX} {m : Loc} {H : AH} {h h' : Heap} {a : Addr} {o o' : AO} (R : Rel X m H h) (x : Heap.ExtBut a h h') (e : H a = some o') (f : o'.fixed = false) (r : Pers h h' → Real X.G h' a o) :
    Rel X m (upd H a o) h' ∧ KeepH H (upd H a o) ∧ Pers h h' := by
  obtain ⟨_, n, fe⟩ := R.at e
  have k : KeepH H (upd H a o) := .upd_set e f
  obtain ⟨r1, p⟩ := R.r.set x fe r (fun ob z => by rw [z] at f; cases f)
  exact ⟨R.mk' (by rw [full_upd n]; exact r1) k (R.l.upd n), k, p⟩
theorem Rel.keeps {X : FX} {m : Loc} {H : AH} {h h' : Heap} (R : Rel X m H h) (x : ∀ b o, h.get? b = some o → h'.get? b = some o) : Rel X m H h' := R.mk' (R.r.keeps x) (.refl _) R.l

/-! ## The exception under way -/

inductive TbAt (G : GS) (h : Heap) (H : AH) (e : Addr) (vs : Array Value) (P : Value → Prop) : Prop
  | mk (T : Addr) (oT : Obj) (ts : Array Value) (fl : Value) (e1 : vs[1]? = some (.ref T)) (e2 : T ≠ e) (e3 : G.base.get? T = none) (e4 : H T = none) (e5 : h.get? T = some oT) (e6 : oT.data = .fields ts) (e7 : ts[3]? = some fl) (e8 : P fl)
inductive FlyAt (G : GS) (h : Heap) (H : AH) (e : Addr) (ok : Value → Prop) (fr : Prop) : Prop
  | mk (oe : Obj) (vs : Array Value) (a0 : Value) (h1 : h.get? e = some oe) (h2 : oe.cls = .ref G.err) (h3 : oe.data = .fields vs) (h4 : vs[0]? = some a0) (h5 : vs[2]? = some .none) (h6 : (vs[1]? = some .none ∧ fr) ∨ TbAt G h H e vs (fun fl => fl = .none ∨ ok fl))
structure FlyG (G : GS) (h : Heap) (H : AH) (e : Addr) (ok : Value → Prop) (fr : Prop) : Prop where
  base : G.base.get? e = none
  out : H e = none
  there : FlyAt G h H e ok fr

/-- in a frame: fresh, or noted here, or come out of a call -/
noncomputable abbrev FlyX (X : FX) (h : Heap) (H : AH) (e : Addr) : Prop := FlyG X.G h H e (fun fl => ∃ L : Addr, fl = rawInt L) True
/-- come out of a call -/
noncomputable abbrev FlyO (G : GS) (h : Heap) (H : AH) (e : Addr) : Prop := FlyG G h H e (fun w9 => False) False
theorem FlyO.x {X : FX} {h H e} (x : FlyO X.G h H e) : FlyX X h H e := by
  obtain ⟨a, b, oe, vs, a0, h1, h2, h3, h4, h5, h6⟩ := x
  refine ⟨a, b, oe, vs, a0, h1, h2, h3, h4, h5, ?_⟩
  rcases h6 with ⟨_, q⟩ | ⟨T, oT, ts, fl, e1, e2, e3, e4, e5, e6, e7, e8⟩
  · exact q.elim
  · exact .inr ⟨T, oT, ts, fl, e1, e2, e3, e4, e5, e6, e7, e8.imp id fun q => q.elim⟩

inductive OKP {α : Type} (X : FX) (h : Heap) (H : AH) (Q : Heap → α → Loc → AH → Prop) (a : α) (s' : Shared) : Prop
  | mk (h' : Heap) (tk' : Nat) (m' : Loc) (H' : AH) (e : s' = X.G.S h' tk') (r : Rel X m' H' h') (p : Pers h h') (k : KeepH H H') (q : Q h' a m' H')
inductive ERP (X : FX) (h : Heap) (H : AH) (E : Loc → AH → Prop) (v : Value) (s' : Shared) : Prop
  | mk (h' : Heap) (tk' : Nat) (m' : Loc) (H' : AH) (e : Addr) (e1 : s' = X.G.S h' tk') (r : Rel X m' H' h') (p : Pers h h') (k : KeepH H H') (e2 : v = .ref e) (f : FlyX X h' (X.full m' H') e) (q : E m' H')

noncomputable def WAt {α : Type} (X : FX) (h : Heap) (tk : Nat) (H : AH) (t : Sem α) (Q : Heap → α → Loc → AH → Prop) (E : Loc → AH → Prop) : Prop :=
  wpAny X.M X.A t (OKP X h H Q) (ERP X h H E) (X.G.S h tk)

section
variable {α β : Type} {X : FX} {h : Heap} {tk : Nat} {m : Loc} {H : AH} {E : Loc → AH → Prop}

theorem OKP.mono {Q Q' : Heap → α → Loc → AH → Prop} {h₀ : Heap} {H₀ : AH} {a s'} (x : OKP X h H Q a s') (p : Pers h₀ h) (k : KeepH H₀ H) (f : ∀ h' m' H', Rel X m' H' h' → Pers h h' → KeepH H H' → Q h' a m' H' → Q' h' a m' H') : OKP X h₀ H₀ Q' a s' := by
  obtain ⟨h', tk', m', H', e, R, P, KK, q⟩ := x
  exact ⟨h', tk', m', H', e, R, p.trans P, k.trans KK, f _ _ _ R P KK q⟩
theorem ERP.mono {h₀ : Heap} {H₀ : AH} {E' : Loc → AH → Prop} {v s'} (x : ERP X h H E v s') (p : Pers h₀ h) (k : KeepH H₀ H) (f : ∀ m' H', E m' H' → E' m' H') : ERP X h₀ H₀ E' v s' := by
  obtain ⟨h', tk', m', H', e, q, R, P, KK, r1, r2, r3⟩ := x
  exact ⟨h', tk', m', H', e, q, R, p.trans P, k.trans KK, r1, r2, f _ _ r3⟩

theorem WAt.mono {t : Sem α} {Q Q' : Heap → α → Loc → AH → Prop} (x : WAt X h tk H t Q E)
    (f : ∀ h' a m' H', Rel X m' H' h' → Pers h h' → KeepH H H' → Q h' a m' H' → Q' h' a m' H') : WAt X h tk H t Q' E :=
  wpAny_mono x (fun a s' hs => hs.mono (.refl _) (.refl _) fun _ _ _ R P k q => f _ _ _ _ R P k q) fun _ _ e => e
theorem OKP.now {a : α} {Q : Heap → α → Loc → AH → Prop} {tk'} (R : Rel X m H h) (q : Q h a m H) : OKP X h H Q a (X.G.S h tk') := ⟨h, tk', m, H, rfl, R, .refl _, .refl _, q⟩
end

end Mine

namespace Mine

structure GS.Ok (G : GS) : Prop where
  kin : G.K.In G.base
  nolimit : G.base.NoLimit
  ex : ∃ mg mb, G.base.Ns mainGlobals mg ∧ G.base.Ns builtinsNs mb ∧ ∀ x : Str, x ≠ "__name__" → mb x = bootBuiltins x
  nodigits : ∃ mc, G.base.Ns cStatics mc ∧ mc "sys.int_max_str_digits" = none

theorem Rel.kin {X : FX} {m H h} (G : X.G.Ok) (R : Rel X m H h) : X.G.K.In h := G.kin.keeps R.r.stays

/-- an expression comes back with a value that bears p -/
noncomputable def EV (X : FX) (e : Expr) (m : Loc) (H : AH) (Q : PV → Loc → AH → Prop) (E : Loc → AH → Prop) : Prop :=
  ∀ h tk, Rel X m H h → WAt X h tk H (eval e X.env) (fun h' v m' H' => ∃ p, VR h' v p ∧ Q p m' H') E

/-- any tree that comes back with a value -/
noncomputable def TV (X : FX) (t : Sem Value) (m : Loc) (H : AH) (Q : PV → Loc → AH → Prop) (E : Loc → AH → Prop) : Prop :=
  ∀ h tk, Rel X m H h → WAt X h tk H t (fun h' v m' H' => ∃ p, VR h' v p ∧ Q p m' H') E

/-- arguments -/
noncomputable def EVs (X : FX) : List Expr → Loc → AH → (List PV → Loc → AH → Prop) → (Loc → AH → Prop) → Prop
  | [], m, H, Q, _ => Q [] m H
  | e :: r, m, H, Q, E => EV X e m H (fun p m1 H1 => EVs X r m1 H1 (fun ps m2 H2 => Q (p :: ps) m2 H2) E) E

noncomputable def ET (X : FX) (e : Expr) (m : Loc) (H : AH) (Q : Bool → Loc → AH → Prop) (E : Loc → AH → Prop) : Prop :=
  ∀ h tk, Rel X m H h → WAt X h tk H (isTrue e X.env (eval e X.env)) (fun _ b m' H' => Q b m' H') E

inductive PF where
  | next | brk | cont | ret (p : PV)

noncomputable def FR (h : Heap) : Flow → PF → Prop
  | .next, .next => True
  | .brk, .brk => True
  | .cont, .cont => True
  | .ret v, .ret p => VR h v p
  | _, _ => False

noncomputable def EX (X : FX) (ss : List Stmt) (m : Loc) (H : AH) (Q : PF → Loc → AH → Prop) (E : Loc → AH → Prop) : Prop :=
  ∀ h tk, Rel X m H h → WAt X h tk H (execs ss X.env) (fun h' f m' H' => ∃ p, FR h' f p ∧ Q p m' H') E
noncomputable def E1 (X : FX) (st : Stmt) (m : Loc) (H : AH) (Q : PF → Loc → AH → Prop) (E : Loc → AH → Prop) : Prop :=
  ∀ h tk, Rel X m H h → WAt X h tk H (exec st X.env) (fun h' f m' H' => ∃ p, FR h' f p ∧ Q p m' H') E

section
variable {X : FX} {e : Expr} {m : Loc} {H : AH} {Q : PV → Loc → AH → Prop} {E : Loc → AH → Prop} {h : Heap} {tk : Nat}

theorem TV.run {t : Sem Value} (x : TV X t m H Q E) (R : Rel X m H h) {Q' : Value → Shared → Prop} {h₀ : Heap} {H₀ : AH} (P : Pers h₀ h) (K : KeepH H₀ H)
    (f : ∀ h1 tk1 v p m1 H1, Rel X m1 H1 h1 → Pers h h1 → Pers h₀ h1 → KeepH H₀ H1 → VR h1 v p → Q p m1 H1 → Q' v (X.G.S h1 tk1)) : wpAny X.M X.A t Q' (ERP X h₀ H₀ E) (X.G.S h tk) := by
  refine wpAny_mono (x h tk R) (fun v s' hs => ?_) fun v s' hs => hs.mono P K fun _ _ z => z
  obtain ⟨h', tk', m', H', rfl, R', P', K', p, V, q⟩ := hs
  exact f _ _ _ _ _ _ R' P' (P.trans P') (K.trans K') V q
theorem EV.run (x : EV X e m H Q E) (R : Rel X m H h) {Q' : Value → Shared → Prop} {h₀ : Heap} {H₀ : AH} (P : Pers h₀ h) (K : KeepH H₀ H)
    (f : ∀ h1 tk1 v p m1 H1, Rel X m1 H1 h1 → Pers h h1 → Pers h₀ h1 → KeepH H₀ H1 → VR h1 v p → Q p m1 H1 → Q' v (X.G.S h1 tk1)) : wpAny X.M X.A (eval e X.env) Q' (ERP X h₀ H₀ E) (X.G.S h tk) :=
  TV.run (t := eval e X.env) x R P K f
theorem ET.run {Q : Bool → Loc → AH → Prop} (x : ET X e m H Q E) (R : Rel X m H h) {Q' : Bool → Shared → Prop} {h₀ : Heap} {H₀ : AH} (P : Pers h₀ h) (K : KeepH H₀ H)
    (f : ∀ h1 tk1 b m1 H1, Rel X m1 H1 h1 → Pers h h1 → Pers h₀ h1 → KeepH H₀ H1 → Q b m1 H1 → Q' b (X.G.S h1 tk1)) : wpAny X.M X.A (isTrue e X.env (eval e X.env)) Q' (ERP X h₀ H₀ E) (X.G.S h tk) := by
  refine wpAny_mono (x h tk R) (fun v s' hs => ?_) fun v s' hs => hs.mono P K fun _ _ z => z
  obtain ⟨h', tk', m', H', rfl, R', P', K', q⟩ := hs
  exact f _ _ _ _ _ R' P' (P.trans P') (K.trans K') q
theorem EX.run {ss : List Stmt} {Q : PF → Loc → AH → Prop} (x : EX X ss m H Q E) (R : Rel X m H h) {Q' : Flow → Shared → Prop} {h₀ : Heap} {H₀ : AH} (P : Pers h₀ h) (K : KeepH H₀ H)
    (f : ∀ h1 tk1 fl p m1 H1, Rel X m1 H1 h1 → Pers h h1 → Pers h₀ h1 → KeepH H₀ H1 → FR h1 fl p → Q p m1 H1 → Q' fl (X.G.S h1 tk1)) : wpAny X.M X.A (execs ss X.env) Q' (ERP X h₀ H₀ E) (X.G.S h tk) := by
  refine wpAny_mono (x h tk R) (fun v s' hs => ?_) fun v s' hs => hs.mono P K fun _ _ z => z
  obtain ⟨h', tk', m', H', rfl, R', P', K', p, V, q⟩ := hs
  exact f _ _ _ _ _ _ R' P' (P.trans P') (K.trans K') V q

theorem OKP.at {α : Type} {h₀ h : Heap} {H₀ H : AH} {a : α} {Q : Heap → α → Loc → AH → Prop} {tk'} (R : Rel X m H h) (P : Pers h₀ h) (K : KeepH H₀ H) (q : Q h a m H) : OKP X h₀ H₀ Q a (X.G.S h tk') := ⟨h, tk', m, H, rfl, R, P, K, q⟩

theorem EV.mono {Q' : PV → Loc → AH → Prop} (x : EV X e m H Q E) (f : ∀ p m' H', Q p m' H' → Q' p m' H') : EV X e m H Q' E :=
  fun h tk R => (x h tk R).mono fun h' a m' H' _ _ _ ⟨p, v, q⟩ => ⟨p, v, f _ _ _ q⟩

/-! names and constants -/
theorem EV.local_ {x : Str} {pos : Pos} {p : PV} (G : X.Ok) (hl : X.env.kindOf x = some .local) (hv : m.lookup x = some p) (q : Q p m H) (hd : (x == ("__debug__" : Str)) = false := by decide) :
    EV X (.Name x pos) m H Q E := fun h tk R => by
  obtain ⟨mm, a1, _, a2⟩ := R.r.real X.env.locals _ FX.full_self
  obtain ⟨v, e, r⟩ := a2 x p hv
  exact wpAny_Name (wpAny_loadName_local G.kind hl a1 e (OKP.now R ⟨p, r, q⟩)) hd
theorem EV.cell_ {x : Str} {pos : Pos} {p : PV} {c : Addr} (G : X.Ok) (hl : X.env.kindOf x = some .cell ∨ X.env.kindOf x = some .free) (hc : X.env.cells.lookup x = some c) (hv : H c = some (.cell (some p))) (q : Q p m H)
    (hd : (x == ("__debug__" : Str)) = false := by decide) (hn : (x == ("__classdict__" : Str)) = false := by decide) : EV X (.Name x pos) m H Q E := fun h tk R => by
  obtain ⟨⟨o, ov, a1, a2, v, a3, a4⟩, _⟩ := R.at hv
  subst a3
  rcases hl with hl | hl
  · exact wpAny_Name (wpAny_loadName_cell G.kind hl hc ⟨o, a1, a2⟩ (OKP.now R ⟨p, a4, q⟩)) hd
  · exact wpAny_Name (wpAny_loadName_free G.kind hl hc ⟨o, a1, a2⟩ (OKP.now R ⟨p, a4, q⟩) hn) hd
theorem name_global {x : Str} {pos : Pos} {v : Value} {Q : Value → Shared → Prop} {E' : Value → Shared → Prop} (G : X.Ok) (GG : X.G.Ok) (R : Rel X m H h) (hl : X.env.kindOf x = some .globalImplicit) (e : nsIn X.G.K mainGlobals x = some (some v)) (q : Q v (X.G.S h tk))
    (hd : (x == ("__debug__" : Str)) = false := by decide) : wpAny X.M X.A (eval (.Name x pos) X.env) Q E' (X.G.S h tk) := by
  obtain ⟨mg, mb, g, b, _⟩ := GG.ex
  have g' := g.keeps R.r.stays
  exact Name_function_global G.kind hl (loadGlobal_global (G.globals ▸ g') (mg_of (R.kin GG) g' e) q) hd
theorem name_builtin {x : Str} {pos : Pos} {v : Value} {Q : Value → Shared → Prop} {E' : Value → Shared → Prop} (G : X.Ok) (GG : X.G.Ok) (R : Rel X m H h) (hl : X.env.kindOf x = some .globalImplicit) (e : nsIn X.G.K mainGlobals x = some none) (hv : bootBuiltins x = some v) (hn : x ≠ "__name__") (q : Q v (X.G.S h tk))
    (hd : (x == ("__debug__" : Str)) = false := by decide) : wpAny X.M X.A (eval (.Name x pos) X.env) Q E' (X.G.S h tk) := by
  obtain ⟨mg, mb, g, b, B⟩ := GG.ex
  have g' := g.keeps R.r.stays
  exact Name_function_global G.kind hl (loadGlobal_builtin (G.globals ▸ g') (mg_none_of (R.kin GG) g' e) (G.builtins ▸ b.keeps R.r.stays) ((B x hn).trans hv) q) hd
theorem EV.global_ {x : Str} {pos : Pos} {a : Addr} (G : X.Ok) (GG : X.G.Ok) (hl : X.env.kindOf x = some .globalImplicit) (e : nsIn X.G.K mainGlobals x = some (some (.ref a))) (q : Q (.ref a) m H)
    (hd : (x == ("__debug__" : Str)) = false := by decide) : EV X (.Name x pos) m H Q E := fun h tk R => name_global G GG R hl e (OKP.now R ⟨_, VR.ref, q⟩) hd

theorem EV.int_ {i : Int} {k pos} (q : Q (.int i) m H) : EV X (.Constant (.int i) k pos) m H Q E := fun h tk R => wpAny_Constant_int (OKP.now (tk' := tk + 1) R ⟨_, VR.int, q⟩)
theorem EV.str_ {s : Str} {k pos} (q : Q (.str s) m H) : EV X (.Constant (.str s) k pos) m H Q E := fun h tk R => Constant_str (OKP.now (tk' := tk + 1) R ⟨_, VR.str, q⟩)
theorem EV.none_ {k pos} (q : Q .none m H) : EV X (.Constant .none k pos) m H Q E := fun h tk R => Constant_none (OKP.now R ⟨_, VR.none, q⟩)
theorem EV.bool_ {b : Bool} {k pos} (q : Q (.bool b) m H) : EV X (.Constant (.bool b) k pos) m H Q E := fun h tk R => Constant_bool (OKP.now R ⟨_, VR.bool, q⟩)

/-! argument lists -/
noncomputable def plainArg : Expr → Bool
  | .Starred .. => false
  | _ => true
theorem starEach_plain {env : Env} {pos : Pos} : ∀ {es : List Expr}, es.all plainArg = true → backTo pos (starEach es env) = es.map fun e => (false, eval e env)
  | [], _ => rfl
  | e :: r, q => by
    have q2 := (Bool.and_eq_true _ _).mp q
    have ih := starEach_plain (env := env) (pos := pos) (es := r) q2.2
    have h1 := q2.1
    clear q q2
    have : starEach (e :: r) env = (false, eval e env) :: starEach r env := by
      clear ih
      cases e <;> first | rfl | exact Bool.noConfusion h1
    rw [this]
    exact congrArg (List.cons _) ih

theorem EVs.run : ∀ {es : List Expr} {m : Loc} {H : AH} {Q : List PV → Loc → AH → Prop} {h : Heap} {tk : Nat}, EVs X es m H Q E → Rel X m H h → ∀ {Q' : List Value → Shared → Prop} {h₀ : Heap} {H₀ : AH}, Pers h₀ h → KeepH H₀ H →
    (∀ h1 tk1 vs ps m1 H1, Rel X m1 H1 h1 → Pers h h1 → Pers h₀ h1 → KeepH H₀ H1 → VRs h1 vs ps → Q ps m1 H1 → Q' vs (X.G.S h1 tk1)) →
    wpAny X.M X.A (spliced (es.map fun e => (false, eval e X.env))) Q' (ERP X h₀ H₀ E) (X.G.S h tk)
  | [], m, H, Q, h, tk, x, R, Q', h₀, H₀, P, K, f => spliced_nil (f _ _ _ _ _ _ R (.refl _) P K VRs.nil x)
  | e :: r, m, H, Q, h, tk, x, R, Q', h₀, H₀, P, K, f => by
    rw [List.map_cons]
    refine spliced_cons (EV.run x R P K fun h1 tk1 v p m1 H1 R1 P1 P1' K1 V1 q1 => ?_)
    refine EVs.run q1 R1 P1' K1 fun h2 tk2 vs ps m2 H2 R2 P2 P2' K2 V2 q2 => ?_
    exact f _ _ _ _ _ _ R2 (P1.trans P2) P2' K2 (VRs.cons (V1.mono P2) V2) q2

/-! displays -/
theorem EVs.mono : ∀ {es : List Expr} {m : Loc} {H : AH} {Q Q' : List PV → Loc → AH → Prop}, EVs X es m H Q E → (∀ ps m1 H1, Q ps m1 H1 → Q' ps m1 H1) → EVs X es m H Q' E
  | [], _, _, _, _, x, f => f _ _ _ x
  | _ :: _, _, _, _, _, x, f => EV.mono x fun p _ _ y => EVs.mono y fun ps => f (p :: ps)
theorem EVs.len : ∀ {es : List Expr} {m : Loc} {H : AH} {Q : List PV → Loc → AH → Prop}, EVs X es m H Q E → EVs X es m H (fun ps m1 H1 => ps.length = es.length ∧ Q ps m1 H1) E
  | [], _, _, _, x => ⟨rfl, x⟩
  | _ :: _, _, _, _, x => EV.mono x fun p _ _ y => EVs.mono (EVs.len y) fun ps m1 H1 z => ⟨congrArg Nat.succ z.1, z.2⟩
/-- written elements: plain, and not too many -/
noncomputable def plainEs (es : List Expr) : Bool := es.all plainArg && Nat.ble es.length sizeLine
theorem plainEs.a {es : List Expr} (h : plainEs es = true) : es.all plainArg = true := ((Bool.and_eq_true _ _).mp h).1
theorem plainEs.z {es : List Expr} (h : plainEs es = true) : es.length ≤ sizeLine := Nat.le_of_ble_eq_true ((Bool.and_eq_true _ _).mp h).2
theorem EV.tuple_ {es : List Expr} {k pos} (x : EVs X es m H (fun ps m1 H1 => Q (.tup ps) m1 H1) E) (hp : plainEs es = true := by rfl) : EV X (.Tuple es k pos) m H Q E := fun h tk R => by
  refine PyProof.Rows.Tuple_ ?_
  rw [starEach_plain (plainEs.a hp)]
  refine EVs.run x.len R (.refl _) (.refl _) fun h1 tk1 vs ps m1 H1 R1 P1 _ K1 V1 q1 => ?_
  refine wpAny_newObj_type ?_ (by show vs.toArray.size ≤ sizeLine; rw [List.size_toArray, V1.length, q1.1]; exact plainEs.z hp)
  have k : ∀ b o, h1.get? b = some o → (h1.push { cls := .type "tuple", data := .seq vs.toArray }).get? b = some o := fun b o e => Heap.get?_push_of_some _ e
  have P2 : Pers h1 _ := Pers.of_keeps k
  exact OKP.at (tk' := tk1) (R1.keeps k) (P1.trans P2) K1 ⟨_, VR.tup ⟨_, Heap.get?_push_size _ rfl, rfl, _, rfl⟩ (V1.mono P2), q1.2⟩
theorem EV.list_ {es : List Expr} {pos} (x : EVs X es m H (fun ps m1 H1 => ∀ a, H1 a = none → Q (.ref a) m1 (upd H1 a (.list ps))) E) (hp : plainEs es = true := by rfl) : EV X (.List es pos) m H Q E := fun h tk R => by
  refine PyProof.Rows.List_ ?_
  rw [starEach_plain (plainEs.a hp)]
  refine EVs.run x.len R (.refl _) (.refl _) fun h1 tk1 vs ps m1 H1 R1 P1 _ K1 V1 q1 => ?_
  refine wpAny_newObj_type ?_ (by show vs.toArray.size ≤ sizeLine; rw [List.size_toArray, V1.length, q1.1]; exact plainEs.z hp)
  have k : ∀ b o, h1.get? b = some o → (h1.push { cls := .type "list", data := .seq vs.toArray }).get? b = some o := fun b o e => Heap.get?_push_of_some _ e
  obtain ⟨R2, K2, P2, e⟩ := R1.new (a := h1.objs.size) (o := .list ps) k (Nat.le_refl _) ⟨vs, 0, Heap.get?_push_size _ rfl, V1.mono (Pers.of_keeps k)⟩
  exact OKP.at (tk' := tk1) R2 (P1.trans P2) (K1.trans K2) ⟨_, VR.ref, q1.2 _ e⟩
end
end Mine

namespace Mine

theorem Real.intsAre {h : Heap} : ∀ {ns : List Int} {vs : List Value}, VRs h vs (ns.map PV.int) → IntsAre vs ns
  | [], vs, x => by rw [VRs.inv_nil x]; exact .nil
  | n :: ns, vs, x => by
    obtain ⟨v, ws, rfl, a, b⟩ := VRs.inv_cons x
    obtain ⟨t, rfl⟩ := a.inv_int
    exact .cons n t (Real.intsAre b)
theorem Real.strsAre {h : Heap} : ∀ {ss : List Str} {vs : List Value}, VRs h vs (ss.map PV.str) → StrsAre vs ss
  | [], vs, x => by rw [VRs.inv_nil x]; exact .nil
  | n :: ns, vs, x => by
    obtain ⟨v, ws, rfl, a, b⟩ := VRs.inv_cons x
    obtain ⟨t, rfl⟩ := a.inv_str
    exact .cons n t (Real.strsAre b)

theorem valueAt_lookup {h : Heap} : ∀ {xs : List (Int × Value)} {es : List (Int × PV)}, xs.map (·.1) = es.map (·.1) → VRs h (xs.map (·.2)) (es.map (·.2)) → ∀ k, match es.lookup k with | some p => ∃ v, valueAt xs k = some v ∧ VR h v p | none => valueAt xs k = none
  | [], [], _, _, k => by simp [valueAt]
  | (a, v) :: xs, (b, p) :: es, e, r, k => by
    simp only [List.map_cons, List.cons.injEq] at e
    obtain ⟨rfl, e⟩ := e
    have ih := valueAt_lookup e (VRs.tail r) k
    by_cases q : k = a
    · subst q
      simp only [List.lookup_cons, beq_self_eq_true]
      exact ⟨v, by simp [valueAt], VRs.head r⟩
    · have q1 : (k == a) = false := by simpa using q
      have q2 : ¬ a = k := fun z => q z.symm
      simp only [List.lookup_cons, q1]
      have : valueAt ((a, v) :: xs) k = valueAt xs k := by simp [valueAt, q2]
      rw [this]; exact ih
  | [], _ :: _, e, _, _ => by simp at e
  | _ :: _, [], e, _, _ => by simp at e

section
variable {X : FX} {e l r : Expr} {m : Loc} {H : AH} {Q : PV → Loc → AH → Prop} {E : Loc → AH → Prop} {h : Heap} {tk : Nat}

/-! ## Arithmetic -/
noncomputable def binR (op : Operator) (p q : PV) (H : AH) (Q : PV → AH → Prop) : Prop :=
  match op with
  | .Add => (match p, q with
    | .int i, .int j => Q (.int (i + j)) H
    | .str s, .str t => s.length + t.length ≤ sizeLine ∧ Q (.str (s ++ t)) H
    | .ref a, .ref b => ∃ xs ys, H a = some (.list xs) ∧ H b = some (.list ys) ∧ xs.length + ys.length ≤ sizeLine ∧ ∀ c, H c = none → Q (.ref c) (upd H c (.list (xs ++ ys)))
    | _, _ => False)
  | op => (match p, q with
    | .int i, .int j => (match op with
      | .Sub => Q (.int (i - j)) H
      | .Mult => ((-(2 ^ 63) ≤ i ∧ i < 2 ^ 63) ∨ (-(2 ^ 63) ≤ j ∧ j < 2 ^ 63)) ∧ Q (.int (i * j)) H
      | .FloorDiv => (0 < j ∧ j < 1000000) ∧ Q (.int (i / j)) H
      | .Mod => 0 < j ∧ Q (.int (i % j)) H
      | .Pow => (0 ≤ i ∧ i < 1000 ∧ 0 ≤ j ∧ j < 1000) ∧ Q (.int (i ^ j.toNat)) H
      | _ => False)
    | _, _ => False)

theorem binR.run {op : Operator} {p q : PV} {a b : Value} {Q : PV → AH → Prop} {h₀ : Heap} {H₀ : AH} {E' : Value → Shared → Prop} (R : Rel X m H h) (P : Pers h₀ h) (K : KeepH H₀ H) (va : VR h a p) (vb : VR h b q) (x : binR op p q H Q) :
    wpAny X.M X.A (binaryOp op a b) (OKP X h₀ H₀ (fun h' v m' H' => m' = m ∧ ∃ p, VR h' v p ∧ Q p H')) E' (X.G.S h tk) := by
  have fin : ∀ {v : Value} {p : PV} {tk'}, VR h v p → Q p H → OKP X h₀ H₀ (fun h' v m' H' => m' = m ∧ ∃ p, VR h' v p ∧ Q p H') v (X.G.S h tk') := fun v q => OKP.at R P K ⟨rfl, _, v, q⟩
  cases op
  case Add =>
    cases p <;> cases q <;> first | exact x.elim | skip
    · obtain ⟨t, rfl⟩ := va.inv_int; obtain ⟨u, rfl⟩ := vb.inv_int
      exact wpAny_add_int (fin (tk' := tk + 1) VR.int x)
    · obtain ⟨t, rfl⟩ := va.inv_str; obtain ⟨u, rfl⟩ := vb.inv_str
      exact PyProof.Rows.add_str (fun t' tk' => fin (tk' := tk') VR.str x.2) x.1
    · obtain rfl := va.inv_ref; obtain rfl := vb.inv_ref
      obtain ⟨xs, ys, ha, hb, hs, q⟩ := x
      obtain ⟨⟨vs, n, l1, v1⟩, _⟩ := R.at ha
      obtain ⟨⟨ws, n', l2, v2⟩, _⟩ := R.at hb
      refine PySem.P.add_list l1 l2 ?_ (by rw [List.size_toArray, List.size_toArray, v1.length, v2.length]; exact hs)
      have k : ∀ b o, h.get? b = some o → (h.push { cls := .type "list", data := .seq (vs.toArray ++ ws.toArray) }).get? b = some o := fun b o e => Heap.get?_push_of_some _ e
      have V := (VRs.append v1 v2).mono (Pers.of_keeps k)
      obtain ⟨R2, K2, P2, e⟩ := R.new (a := h.objs.size) (o := .list (xs ++ ys)) k (Nat.le_refl _) ⟨vs ++ ws, 0, by rw [← List.append_toArray]; exact Heap.get?_push_size _ rfl, V⟩
      exact OKP.at (tk' := tk) R2 (P.trans P2) (K.trans K2) ⟨rfl, _, VR.ref, q _ e⟩
  all_goals (cases p <;> first | exact x.elim | skip)
  all_goals (cases q <;> first | exact x.elim | skip)
  all_goals (obtain ⟨t, rfl⟩ := va.inv_int; obtain ⟨u, rfl⟩ := vb.inv_int)
  · exact PyProof.Rows.sub_int' (fin (tk' := tk + 1) VR.int x)
  · refine PyProof.Rows.mul_int (fin (tk' := tk + 1) VR.int x.2) ?_
    rcases x.1 with ⟨h1, h2⟩ | ⟨h1, h2⟩
    · exact IntMulOk.of_left (intBits_le_64 (by lia) (by lia))
    · exact IntMulOk.of_right (intBits_le_64 (by lia) (by lia))
  · have h0 : _ < _ := x.1
    refine PyProof.Rows.mod_int' (by lia) (fin (tk' := tk + 1) VR.int ?_)
    rw [Int.fmod_eq_emod_of_nonneg _ (by lia)]; exact x.2
  · obtain ⟨⟨h1, h2, h3, h4⟩, x⟩ := x
    exact PyProof.Rows.pow_int_small (by lia) (by lia) (by lia) (fin (tk' := tk + 1) VR.int x)
  · obtain ⟨⟨h1, h2⟩, x⟩ := x
    refine PyProof.Rows.floordiv_int (by lia) (fin (tk' := tk + 1) VR.int ?_) (.inl (PyProof.noPylong_small (by lia)))
    rw [Int.fdiv_eq_ediv_of_nonneg _ (by lia)]; exact x

theorem EV.bin {op : Operator} {pos} (x : EV X l m H (fun p m1 H1 => EV X r m1 H1 (fun q m2 H2 => binR op p q H2 (fun v H3 => Q v m2 H3)) E) E) : EV X (.BinOp l op r pos) m H Q E := fun h tk R => by
  refine wpAny_BinOp (x.run R (.refl _) (.refl _) fun h1 tk1 a p m1 H1 R1 P1 P1' K1 V1 q1 => ?_)
  refine q1.run R1 P1' K1 fun h2 tk2 b q m2 H2 R2 P2 P2' K2 V2 q2 => ?_
  exact wpAny_mono (binR.run R2 P2' K2 (V1.mono P2) V2 q2) (fun v s' hs => hs.mono (.refl _) (.refl _) fun _ _ _ _ _ _ ⟨e, z⟩ => by subst e; exact z) fun _ _ e => e

/-! ## Comparisons -/
noncomputable def inR (p q : PV) (H : AH) (Q : Bool → Prop) : Prop :=
  match p, q with
  | .int i, .ref a => (∃ ns : List Int, H a = some (.list (ns.map PV.int)) ∧ Q (ns.any (· == i))) ∨ (∃ es ep, H a = some (.dict es ep) ∧ Q (es.lookup i).isSome)
  | .str s, .tup ps => ∃ ss : List Str, ps = ss.map PV.str ∧ Q (ss.any (· == s))
  | _, _ => False
noncomputable def isR (p q : PV) (Q : Bool → Prop) : Prop :=
  match q with
  | .none => (match p with
    | .none => Q true
    | .bool _ => False
    | _ => Q false)
  | _ => False
noncomputable def ordR (op : CmpOp) (i j : Int) (Q : Bool → Prop) : Prop :=
  match op with
  | .Eq => Q (i == j)
  | .NotEq => Q (i != j)
  | .Lt => Q (decide (i < j))
  | .LtE => Q (decide (i ≤ j))
  | .Gt => Q (decide (i > j))
  | .GtE => Q (decide (i ≥ j))
  | _ => False
noncomputable def cmpR (op : CmpOp) (p q : PV) (H : AH) (Q : Bool → Prop) : Prop :=
  match op with
  | .In => inR p q H Q
  | .NotIn => inR p q H fun b => Q (!b)
  | .Is => isR p q Q
  | .IsNot => isR p q fun b => Q (!b)
  | op => (match p with
    | .int i => (match q with | .int j => ordR op i j Q | _ => False)
    | .str s => (match q with
      | .str t => (match op with | .Eq => Q (s == t) | .NotEq => Q (s != t) | _ => False)
      | _ => False)
    | _ => False)

set_option tactic.hygienic true in
theorem cmpR.run {op : CmpOp} {p q : PV} {a b : Value} {Q : Bool → Prop} {Q' : Value → Shared → Prop} {E' : Value → Shared → Prop} (R : Rel X m H h) (va : VR h a p) (vb : VR h b q) (x : cmpR op p q H Q)
    (f : ∀ b tk', Q b → Q' (.bool b) (X.G.S h tk')) : wpAny X.M X.A (compareOp op a b) Q' E' (X.G.S h tk) := by
  cases op
  case In =>
    cases p <;> first | exact x.elim | skip
    all_goals (cases q <;> first | exact x.elim | skip)
    · obtain ⟨t, rfl⟩ := va.inv_int; obtain rfl := vb.inv_ref
      rename_i i _
      rcases x with ⟨ns, ha, x⟩ | ⟨es, ep, ha, x⟩
      · obtain ⟨⟨vs, n, l1, v1⟩, _⟩ := R.at ha
        exact in_list_ints l1.isList (Real.intsAre v1) (f _ _ x)
      · obtain ⟨⟨xs, d1, d2, d3⟩, n, fe⟩ := R.at ha
        refine wpAny_in_of (knd := intKind X.G.prog X.G.w) (intKind_is _ _ _ t) (by simpa using (R.r.notMods fe)) d1.dictOf.mapOf ?_
        have := valueAt_lookup d2 d3 i
        split at this
        · rename_i p hp; obtain ⟨v, hv, _⟩ := this; rw [hv]; rw [hp] at x; exact f _ _ x
        · rename_i hp; rw [this]; rw [hp] at x; exact f _ _ x
    · obtain ⟨t, rfl⟩ := va.inv_str
      obtain ⟨ss, rfl, x⟩ := x
      obtain ⟨a, vs, rfl, t1, v1⟩ := vb.inv_tup
      exact in_tuple_strs t1 (Real.strsAre v1) (f _ _ x)
  case NotIn =>
    cases p <;> first | exact x.elim | skip
    all_goals (cases q <;> first | exact x.elim | skip)
    · obtain ⟨t, rfl⟩ := va.inv_int; obtain rfl := vb.inv_ref
      rename_i i _
      rcases x with ⟨ns, ha, x⟩ | ⟨es, ep, ha, x⟩
      · obtain ⟨⟨vs, n, l1, v1⟩, _⟩ := R.at ha
        exact notin_list_ints l1.isList (Real.intsAre v1) (f _ _ x)
      · obtain ⟨⟨xs, d1, d2, d3⟩, n, fe⟩ := R.at ha
        refine wpAny_notIn_of (knd := intKind X.G.prog X.G.w) (intKind_is _ _ _ t) (by simpa using (R.r.notMods fe)) d1.dictOf.mapOf ?_
        have := valueAt_lookup d2 d3 i
        split at this
        · rename_i p hp; obtain ⟨v, hv, _⟩ := this; rw [hv]; rw [hp] at x; exact f _ _ x
        · rename_i hp; rw [this]; rw [hp] at x; exact f _ _ x
    · obtain ⟨t, rfl⟩ := va.inv_str
      obtain ⟨ss, rfl, x⟩ := x
      obtain ⟨a, vs, rfl, t1, v1⟩ := vb.inv_tup
      exact notin_tuple_strs t1 (Real.strsAre v1) (f _ _ x)
  case Is =>
    cases q <;> first | exact x.elim | skip
    obtain rfl := vb.inv_none
    cases p <;> first | exact x.elim | skip
    · obtain rfl := va.inv_none; exact is_none_none (f _ _ x)
    · obtain ⟨t, rfl⟩ := va.inv_int; exact is_none_ne (fun z => by cases z) (f _ _ x)
    · obtain ⟨t, rfl⟩ := va.inv_str; exact is_none_ne (fun z => by cases z) (f _ _ x)
    · obtain ⟨_, _, rfl, _⟩ := va.inv_tup; exact is_none_ne (fun z => by cases z) (f _ _ x)
    · obtain rfl := va.inv_ref; exact is_none_ne (fun z => by cases z) (f _ _ x)
  case IsNot =>
    cases q <;> first | exact x.elim | skip
    obtain rfl := vb.inv_none
    cases p <;> first | exact x.elim | skip
    · obtain rfl := va.inv_none; exact isnot_none_none (f _ _ x)
    · obtain ⟨t, rfl⟩ := va.inv_int; exact isnot_none_ne (fun z => by cases z) (f _ _ x)
    · obtain ⟨t, rfl⟩ := va.inv_str; exact isnot_none_ne (fun z => by cases z) (f _ _ x)
    · obtain ⟨_, _, rfl, _⟩ := va.inv_tup; exact isnot_none_ne (fun z => by cases z) (f _ _ x)
    · obtain rfl := va.inv_ref; exact isnot_none_ne (fun z => by cases z) (f _ _ x)
  all_goals (cases p <;> first | exact x.elim | skip)
  all_goals (cases q <;> first | exact x.elim | skip)
  · obtain ⟨t, rfl⟩ := va.inv_int; obtain ⟨u, rfl⟩ := vb.inv_int; exact PySem.P.eq_int (f _ _ x)
  · obtain ⟨t, rfl⟩ := va.inv_str; obtain ⟨u, rfl⟩ := vb.inv_str; exact PyProof.Rows.eq_str (f _ _ x)
  · obtain ⟨t, rfl⟩ := va.inv_int; obtain ⟨u, rfl⟩ := vb.inv_int; exact PySem.P.ne_int (f _ _ x)
  · obtain ⟨t, rfl⟩ := va.inv_str; obtain ⟨u, rfl⟩ := vb.inv_str; exact PyProof.Rows.ne_str (f _ _ x)
  all_goals (obtain ⟨t, rfl⟩ := va.inv_int; obtain ⟨u, rfl⟩ := vb.inv_int)
  · exact PySem.P.lt_int (f _ _ x)
  · exact PySem.P.le_int (f _ _ x)
  · exact PySem.P.gt_int (f _ _ x)
  · exact PySem.P.ge_int (f _ _ x)

theorem EV.cmp {op : CmpOp} {pos} (x : EV X l m H (fun p m1 H1 => EV X r m1 H1 (fun q m2 H2 => cmpR op p q H2 (fun b => Q (.bool b) m2 H2)) E) E) (hm : behindInMarks op r = false := by with_unfolding_all rfl) :
    EV X (.Compare l [op] [r] pos) m H Q E := fun h tk R => by
  refine wpAny_Compare1 (x.run R (.refl _) (.refl _) fun h1 tk1 a p m1 H1 R1 P1 P1' K1 V1 q1 => ?_) hm
  refine q1.run R1 P1' K1 fun h2 tk2 b q m2 H2 R2 P2 P2' K2 V2 q2 => ?_
  exact cmpR.run R2 (V1.mono P2) V2 q2 fun b tk' z => OKP.at R2 P2' K2 ⟨_, VR.bool, z⟩
theorem ET.cmp {op : CmpOp} {pos} {Q : Bool → Loc → AH → Prop} (x : EV X l m H (fun p m1 H1 => EV X r m1 H1 (fun q m2 H2 => cmpR op p q H2 (fun b => Q b m2 H2)) E) E) (hm : behindInMarks op r = false := by with_unfolding_all rfl) :
    ET X (.Compare l [op] [r] pos) m H Q E := fun h tk R => by
  refine wpAny_isTrue_Compare1 (x.run R (.refl _) (.refl _) fun h1 tk1 a p m1 H1 R1 P1 P1' K1 V1 q1 => ?_) hm
  refine q1.run R1 P1' K1 fun h2 tk2 b q m2 H2 R2 P2 P2' K2 V2 q2 => ?_
  exact cmpR.run R2 (V1.mono P2) V2 q2 fun b tk' z => wpAny_truthy_bool (OKP.at R2 P2' K2 z)

/-! ## Truth -/
theorem ET.not_ {x : Expr} {pos} {Q : Bool → Loc → AH → Prop} (hx : ET X x m H (fun b m1 H1 => Q (!b) m1 H1) E) : ET X (.UnaryOp .Not x pos) m H Q E := fun h tk R =>
  isTrue_not (hx.run R (.refl _) (.refl _) fun h1 tk1 b m1 H1 R1 P1 P1' K1 q1 => OKP.at R1 P1' K1 q1)
theorem ET.and_nil {pos} {Q : Bool → Loc → AH → Prop} (q : Q true m H) : ET X (.BoolOp .And [] pos) m H Q E := fun h tk R => isTrue_and_nil (OKP.now R q)
theorem ET.or_nil {pos} {Q : Bool → Loc → AH → Prop} (q : Q false m H) : ET X (.BoolOp .Or [] pos) m H Q E := fun h tk R => isTrue_or_nil (OKP.now R q)
theorem ET.and_ {x : Expr} {rest : List Expr} {pos} {Q : Bool → Loc → AH → Prop} (hx : ET X x m H (fun b m1 H1 => (b = true → ET X (.BoolOp .And rest pos) m1 H1 Q E) ∧ (b = false → Q false m1 H1)) E) :
    ET X (.BoolOp .And (x :: rest) pos) m H Q E := fun h tk R => by
  refine isTrue_and (hx.run R (.refl _) (.refl _) fun h1 tk1 b m1 H1 R1 P1 P1' K1 q1 => ?_)
  cases b with
  | false => exact OKP.at R1 P1' K1 (q1.2 rfl)
  | true => exact (q1.1 rfl).run R1 P1' K1 fun h1 tk1 b m1 H1 R1 P1 P1' K1 q1 => OKP.at R1 P1' K1 q1
theorem ET.or_ {x : Expr} {rest : List Expr} {pos} {Q : Bool → Loc → AH → Prop} (hx : ET X x m H (fun b m1 H1 => (b = false → ET X (.BoolOp .Or rest pos) m1 H1 Q E) ∧ (b = true → Q true m1 H1)) E) :
    ET X (.BoolOp .Or (x :: rest) pos) m H Q E := fun h tk R => by
  refine isTrue_or (hx.run R (.refl _) (.refl _) fun h1 tk1 b m1 H1 R1 P1 P1' K1 q1 => ?_)
  cases b with
  | true => exact OKP.at R1 P1' K1 (q1.2 rfl)
  | false => exact (q1.1 rfl).run R1 P1' K1 fun h1 tk1 b m1 H1 R1 P1 P1' K1 q1 => OKP.at R1 P1' K1 q1

noncomputable def truR (p : PV) (H : AH) (Q : Bool → Prop) : Prop :=
  match p with
  | .bool b => Q b
  | .none => Q false
  | _ => False
/-- a test that is any other expression -/
theorem ET.plain {e : Expr} {Q : Bool → Loc → AH → Prop} (x : EV X e m H (fun p m1 H1 => truR p H1 (fun b => Q b m1 H1)) E)
    (he : isTrue e X.env (eval e X.env) = (do let v ← eval e X.env; standAt e.pos; holding [v] (truthy v)) := by rfl) : ET X e m H Q E := fun h tk R => by
  refine isTrue_plain (x.run R (.refl _) (.refl _) fun h1 tk1 a p m1 H1 R1 P1 P1' K1 V1 q1 => ?_) he
  unfold truR at q1
  split at q1
  · obtain rfl := V1.inv_bool; exact wpAny_truthy_bool (OKP.at R1 P1' K1 q1)
  · obtain rfl := V1.inv_none; exact truthy_none (OKP.at R1 P1' K1 q1)
  · exact q1.elim
theorem EV.not_ {x : Expr} {pos} (hx : EV X x m H (fun p m1 H1 => truR p H1 (fun b => Q (.bool (!b)) m1 H1)) E) : EV X (.UnaryOp .Not x pos) m H Q E := fun h tk R => by
  refine UnaryOp_ (hx.run R (.refl _) (.refl _) fun h1 tk1 a p m1 H1 R1 P1 P1' K1 V1 q1 => ?_)
  refine not_of ?_
  unfold truR at q1
  split at q1
  · obtain rfl := V1.inv_bool; exact wpAny_truthy_bool (OKP.at (Q := fun h' v m' H' => ∃ p, VR h' v p ∧ Q p m' H') R1 P1' K1 ⟨_, VR.bool, q1⟩)
  · obtain rfl := V1.inv_none; exact truthy_none (OKP.at (Q := fun h' v m' H' => ∃ p, VR h' v p ∧ Q p m' H') R1 P1' K1 ⟨_, VR.bool, q1⟩)
  · exact q1.elim
theorem EV.ifexp {t a b : Expr} {pos} (x : ET X t m H (fun c m1 H1 => (c = true → EV X a m1 H1 Q E) ∧ (c = false → EV X b m1 H1 Q E)) E) : EV X (.IfExp t a b pos) m H Q E := fun h tk R => by
  refine IfExp_ (x.run R (.refl _) (.refl _) fun h1 tk1 c m1 H1 R1 P1 P1' K1 q1 => ?_)
  cases c with
  | true => exact (q1.1 rfl).run R1 P1' K1 fun h1 tk1 v p m1 H1 R1 P1 P1' K1 V q1 => OKP.at R1 P1' K1 ⟨_, V, q1⟩
  | false => exact (q1.2 rfl).run R1 P1' K1 fun h1 tk1 v p m1 H1 R1 P1 P1' K1 V q1 => OKP.at R1 P1' K1 ⟨_, V, q1⟩
theorem EV.and_ {x y : Expr} {rest : List Expr} {pos} (hx : EV X x m H (fun p m1 H1 => ∃ b, p = .bool b ∧ (b = true → EV X (.BoolOp .And (y :: rest) pos) m1 H1 Q E) ∧ (b = false → Q (.bool false) m1 H1)) E) :
    EV X (.BoolOp .And (x :: y :: rest) pos) m H Q E := fun h tk R => by
  refine BoolOp_and (hx.run R (.refl _) (.refl _) fun h1 tk1 v p m1 H1 R1 P1 P1' K1 V1 q1 => ?_)
  obtain ⟨b, rfl, q1⟩ := q1
  obtain rfl := V1.inv_bool
  refine wpAny_truthy_bool ?_
  cases b with
  | false => exact OKP.at (Q := fun h' v m' H' => ∃ p, VR h' v p ∧ Q p m' H') R1 P1' K1 ⟨_, VR.bool, q1.2 rfl⟩
  | true => exact (q1.1 rfl).run R1 P1' K1 fun h1 tk1 v p m1 H1 R1 P1 P1' K1 V q1 => OKP.at R1 P1' K1 ⟨_, V, q1⟩
theorem EV.and_one {x : Expr} {pos} {op : BoolOp} (hx : EV X x m H Q E) : EV X (.BoolOp op [x] pos) m H Q E := fun h tk R => BoolOp_one (hx h tk R)
end
end Mine

open Builtin Builtin.ObjectAttr
namespace Mine

/-! ## Fields of own objects -/

noncomputable def clsOk (K : Frag) (C : Addr) : Bool := (clsIn K C).any (fun cd => cd.hasDict && onlyObject cd.mro) && findIn K (.ref C) "__getattribute__" == some (some (.builtin "object.__getattribute__")) &&
  findIn K (.ref C) "__setattr__" == some (some (.builtin "object.__setattr__")) && findIn K (.ref C) "__getattr__" == some none
noncomputable def fieldOk (K : Frag) (C : Addr) (name : Str) : Bool := findIn K (.ref C) name == some none

theorem lookIn_of_ns {h : Heap} {a : Addr} {mm : Str → Option Value} (x : h.Ns1 a mm) : ∃ o, h.get? a = some o ∧ ∀ n, lookIn n o = some (mm n) := by
  obtain ⟨o, es, ep, e, d, k, u, f⟩ := x
  refine ⟨o, e, fun n => ?_⟩
  unfold lookIn
  rw [d]
  dsimp only
  have fn := f n
  unfold nsFind findBy at fn
  rw [← Array.find?_toList] at fn
  cases q : es.toList.find? (fun en => en.key.isStr n) with
  | some en =>
    rw [q] at fn
    simp only [Option.map_some] at fn
    rw [← fn]
  | none =>
    rw [q] at fn
    simp only [Option.map_none] at fn
    dsimp only
    rw [← fn]
    have : ¬ (es.toList.any (·.refKey)) = true := by
      rw [List.any_eq_true]; rintro ⟨en, h1, h2⟩
      obtain ⟨nn, t, hk⟩ := k en (Array.mem_toList_iff.mp h1)
      simp [DictEntry.refKey, hk] at h2
    rw [if_neg this]

theorem VR.handed {h : Heap} {v : Value} {p : PV} (x : VR h v p) : handedIn v = true := by
  cases p with
  | none => rw [x.inv_none]; rfl
  | bool b => rw [x.inv_bool]; rfl
  | int i => obtain ⟨t, rfl⟩ := x.inv_int; rfl
  | str s => obtain ⟨t, rfl⟩ := x.inv_str; rfl
  | tup ps => obtain ⟨a, vs, rfl, _⟩ := x.inv_tup; rfl
  | ref a => rw [x.inv_ref]; rfl

section
variable {X : FX} {e l r : Expr} {m : Loc} {H : AH} {Q : PV → Loc → AH → Prop} {E : Loc → AH → Prop} {h : Heap} {tk : Nat} {a C dx : Addr} {fs : List (Str × PV)}

/-- what a heap bears of an own object -/
theorem Rel.inst (R : Rel X m H h) (ha : H a = some (.inst C dx)) (hd : H dx = some (.attrs fs)) : ∃ ox od mm, InstAt h a ox C (some od) ∧ ox.dict = some dx ∧ ox.data = .plain ∧ h.get? dx = some od ∧ (∀ n, lookIn n od = some (mm n)) ∧ h.Ns1 dx mm ∧ NsIs h mm fs := by
  obtain ⟨⟨ox, a1, a2, a3, a4, a5⟩, _⟩ := R.at ha
  obtain ⟨⟨mm, n1, n2⟩, _⟩ := R.at hd
  obtain ⟨od, e1, e2⟩ := lookIn_of_ns n1
  refine ⟨ox, od, mm, ⟨a1, a2, ?_, ?_⟩, a4, a3, e1, e2, n1, n2⟩
  · unfold notCls; rw [a3]
  · rw [a4]; exact e1

theorem getAttr_field {name : Str} {p : PV} {Q' : Value → Shared → Prop} {E' : Value → Shared → Prop} {expr : Bool} (GG : X.G.Ok) (R : Rel X m H h) (ha : H a = some (.inst C dx)) (hd : H dx = some (.attrs fs))
    (hc : clsOk X.G.K C = true) (hn : fieldOk X.G.K C name = true) (hp : fs.lookup name = some p) (q : ∀ v tk', VR h v p → Q' v (X.G.S h tk')) :
    wpAny X.M X.A (getAttr (.ref a) name expr) Q' E' (X.G.S h tk) := by
  obtain ⟨ox, od, mm, I, -, -, e1, e2, n1, n2⟩ := R.inst ha hd
  have nm := n2 name
  rw [hp] at nm
  obtain ⟨v, hv, V⟩ := nm
  unfold clsOk at hc
  simp only [Bool.and_eq_true, beq_iff_eq] at hc
  obtain ⟨⟨⟨c1, c2⟩, c3⟩, c4⟩ := hc
  obtain ⟨cd, hcd, hdict⟩ := any_some c1
  rw [Bool.and_eq_true] at hdict
  unfold fieldOk at hn
  rw [beq_iff_eq] at hn
  refine get_value (v := v) (R.kin GG) I c2 ?_ V.handed (q v (tk + 1) V)
  unfold findObj
  rw [hcd, Option.bind_some, hn, Option.bind_some]
  show (Option.bind (some none) _) = _
  rw [Option.bind_some]
  show (Option.bind (some false) _) = _
  rw [Option.bind_some]
  show (Option.bind (PySem.W.ownOf cd (some od) name) _) = _
  unfold PySem.W.ownOf
  rw [hdict.1, if_pos rfl]
  show (Option.bind (lookIn name od) _) = _
  rw [e2, Option.bind_some, hv]

inductive AttrR (X : FX) (name : Str) (p : PV) (H : AH) (Q : PV → Prop) : Prop
  | mk (a C dx : Addr) (fs : List (Str × PV)) (v : PV) (h1 : p = .ref a) (h2 : H a = some (.inst C dx)) (h3 : H dx = some (.attrs fs)) (h4 : clsOk X.G.K C = true) (h5 : fieldOk X.G.K C name = true) (h6 : fs.lookup name = some v) (q : Q v)
theorem EV.attr {name : Str} {pos} (GG : X.G.Ok) (x : EV X e m H (fun p m1 H1 => AttrR X name p H1 fun v => Q v m1 H1) E)
    (he : eval (.Attribute e name pos) X.env = (do
      let o ← eval e X.env
      standAt pos.atName
      let r ← holding [o] (getAttr o name true)
      letTemporaryGo e o r
      pure r) := by with_unfolding_all rfl) : EV X (.Attribute e name pos) m H Q E := fun h tk R => by
  refine Attribute_any_ (x.run R (.refl _) (.refl _) fun h1 tk1 w p m1 H1 R1 P1 P1' K1 V1 q1 => ?_) he
  obtain ⟨a, C, dx, fs, v, rfl, ha, hd, hc, hn, hp, q⟩ := q1
  obtain rfl := V1.inv_ref
  exact getAttr_field GG R1 ha hd hc hn hp fun v tk' V => OKP.at R1 P1' K1 ⟨_, V, q⟩

noncomputable def putF : List (Str × PV) → Str → PV → List (Str × PV)
  | [], x, p => [(x, p)]
  | (y, q) :: r, x, p => if x == y then (y, p) :: r else (y, q) :: putF r x p
theorem lookup_putF {x : Str} {p : PV} : ∀ (fs : List (Str × PV)) (y : Str), (putF fs x p).lookup y = if y = x then some p else fs.lookup y
  | [], y => by
    unfold putF
    by_cases q : y = x
    · subst q; simp
    · have : (y == x) = false := by simpa using q
      simp [List.lookup_cons, this, q]
  | (z, w) :: r, y => by
    have ih := lookup_putF (x := x) (p := p) r y
    unfold putF
    by_cases q : x = z
    · subst q
      simp only [beq_self_eq_true, if_true, List.lookup_cons]
      by_cases q2 : y = x
      · subst q2; simp
      · have : (y == x) = false := by simpa using q2
        simp [this, q2]
    · have q' : (x == z) = false := by simpa using q
      simp only [q', Bool.false_eq_true, if_false, List.lookup_cons]
      by_cases q2 : y = z
      · subst q2
        have : ¬ y = x := fun e => q e.symm
        simp [this]
      · have q3 : (y == z) = false := by simpa using q2
        simp only [q3]; exact ih
theorem NsIs.put {h : Heap} {mm : Str → Option Value} {fs : List (Str × PV)} (x : NsIs h mm fs) {n : Str} {v : Value} {p : PV} (V : VR h v p) : NsIs h (fun y => if y = n then some v else mm y) (putF fs n p) := fun y => by
  rw [lookup_putF]
  by_cases q : y = n
  · subst q; simp only [if_true]; exact ⟨v, rfl, V⟩
  · simp only [q, if_false]; exact x y
theorem NsIs.within {h : Heap} {mm : Str → Option Value} {fs : List (Str × PV)} (x : NsIs h mm fs) : Within mm (fs.map (·.1)) := fun y hy => by
  have := x y
  cases q : fs.lookup y with
  | none => rw [q] at this; exact absurd this hy
  | some p => exact List.mem_map.mpr ⟨(y, p), mem_of_lookup q, rfl⟩

theorem setAttr_field {name : Str} {v : Value} {p : PV} {Q' : Unit → Shared → Prop} {E' : Value → Shared → Prop} (GG : X.G.Ok) (R : Rel X m H h) (ha : H a = some (.inst C dx)) (hd : H dx = some (.attrs fs))
    (hc : clsOk X.G.K C = true) (hn : fieldOk X.G.K C name = true) (V : VR h v p) (hz : fs.length ≤ 100)
    (q : ∀ h' tk', Rel X m (upd H dx (.attrs (putF fs name p))) h' → KeepH H (upd H dx (.attrs (putF fs name p))) → Pers h h' → Q' () (X.G.S h' tk')) :
    wpAny X.M X.A (setAttr (.ref a) name v) Q' E' (X.G.S h tk) := by
  obtain ⟨ox, od, mm, I, hdict, hdata, e1, e2, n1, n2⟩ := R.inst ha hd
  unfold clsOk at hc
  simp only [Bool.and_eq_true, beq_iff_eq] at hc
  obtain ⟨⟨⟨c1, c2⟩, c3⟩, c4⟩ := hc
  obtain ⟨cd, hcd, hdc⟩ := any_some c1
  rw [Bool.and_eq_true] at hdc
  unfold fieldOk at hn
  rw [beq_iff_eq] at hn
  have X0 := R.kin GG
  refine set_plain X0 I c3 ?_
  refine osa_open (s := X.G.S h (tk + 1)) X0 I (by unfold plainOver; rw [hcd]; exact hdc.2) (r := none) (by unfold takerIn; rw [hn]; rfl) fun b => ?_
  obtain ⟨hx, hcl, hno, -⟩ := I
  obtain ⟨oc, odi, oda, osl⟩ := ox
  dsimp only at hcl hdict hdata
  subst hcl hdict hdata
  refine wpAny_bind (wpAny_pure (wpAny_bind (wpAny_bind (wpAny_loadPart hx (wpAny_bind ((looks_clsIn X0 hcd).here ?_))))))
  rw [hdc.1]
  refine wpAny_pure (a := some dx) (wpAny_bind (wpAny_pure (wpAny_bind ?_)))
  refine wpAny_nsSet1 n1 fun h' hn' hs => ?_
  obtain ⟨oD, esD, epD, hoD, hdD, hcD⟩ := hn'.count (Within.cons name v n2.within)
  refine wpAny_bind (wpAny_lookBehind hoD (by rw [hdD]; exact pastItsLine_dict (Nat.le_trans hcD (by rw [List.length_cons, List.length_map, sizeLine_eq]; omega))) ?_)
  obtain ⟨R2, K2, P2⟩ := R.set (a := dx) (o := .attrs (putF fs name p)) hs.extBut hd rfl fun P => ⟨_, hn', (n2.put V).mono P⟩
  exact wpAny_pure (q _ _ R2 K2 P2)
end
end Mine

namespace Mine

/-! ## Calls -/

inductive CallOk (G : GS) (h : Heap) (H : AH) (Q : PV → AH → Prop) (v : Value) (s' : Shared) : Prop
  | mk (h' : Heap) (tk' : Nat) (p : PV) (H' : AH) (e : s' = G.S h' tk') (r : RelH G H' h') (b1 : Pers h h') (b2 : KeepH H H') (b3 : VR h' v p) (q : Q p H')
inductive CallErr (G : GS) (h : Heap) (H : AH) (E : AH → Prop) (v : Value) (s' : Shared) : Prop
  | mk (h' : Heap) (tk' : Nat) (H' : AH) (e : Addr) (e1 : s' = G.S h' tk') (r : RelH G H' h') (b1 : Pers h h') (b2 : KeepH H H') (e2 : v = .ref e) (f : FlyO G h' H' e) (q : E H')
/-- what a call of f (a def, or a class) does -/
noncomputable def CallW (G : GS) (n : Nat) (nn : Bool) (f : Addr) (args : List PV) (H : AH) (Q : PV → AH → Prop) (E : AH → Prop) : Prop :=
  ∀ A outer h tk vs, A.frames = some outer → A.depth + n ≤ 900 → A.units + 20 * n ≤ 9000 → (nn = true → A.handled = none) → HandOk A.handled H → RelH G H h → FrOk outer H → VRs h vs args →
    codeAny (model G.prog G.w) A (.call (.ref f) ⟨vs, []⟩) (fun r s' => match r with
      | .ok (.ret v) => CallOk G h H Q v s'
      | .ok _ => False
      | .error v => CallErr G h H E v s') (G.S h tk)

theorem CallW.mono {G n nn f args H Q E} {Q' : PV → AH → Prop} {E' : AH → Prop} (x : CallW G n nn f args H Q E) (q : ∀ p H', Q p H' → Q' p H') (e : ∀ H', E H' → E' H') : CallW G n nn f args H Q' E' :=
  fun A outer h tk vs a1 a2 a3 a4 a5 a6 a7 a8 => codeAny_mono (x A outer h tk vs a1 a2 a3 a4 a5 a6 a7 a8) fun r s' z => by
    rcases r with v | (v | _ | _ | _)
    · obtain ⟨h', tk', H', e1, b1, b2, b3, b4, b5, b6, b7⟩ := z; exact ⟨h', tk', H', e1, b1, b2, b3, b4, b5, b6, e _ b7⟩
    all_goals first | exact z | skip
    obtain ⟨h', tk', p, H', b1, b2, b3, b4, b5, b6⟩ := z; exact ⟨h', tk', p, H', b1, b2, b3, b4, b5, q _ _ b6⟩

theorem full_none {X : FX} {m H a} (e : X.full m H a = none) : H a = none ∧ ¬ X.Own a := by
  have n : ¬ X.Own a := fun n => by obtain ⟨o, q⟩ := FX.full_some (m := m) (H := H) n; rw [q] at e; cases e
  rw [FX.full_at n] at e
  exact ⟨e, n⟩
inductive OverR (B : List (Addr × AO)) (Q : AH → Prop) (H' : AH) : Prop
  | mk (H1 : AH) (e : H' = over B H1) (f : FreeB B H1) (q : Q H1)
/-- the same, whatever else is hidden around it -/
noncomputable def CallL (G : GS) (n : Nat) (nn : Bool) (f : Addr) (args : List PV) (H : AH) (Q : PV → AH → Prop) (E : AH → Prop) : Prop :=
  ∀ B : List (Addr × AO), (∀ a o, B.lookup a = some o → o.fixed = true) → FreeB B H →
    CallW G n nn f args (over B H) (fun p H' => OverR B (Q p) H') (OverR B E)

section
variable {X : FX} {e l r : Expr} {m : Loc} {H : AH} {Q : PV → Loc → AH → Prop} {E : Loc → AH → Prop} {h : Heap} {tk : Nat} {a C dx : Addr} {fs : List (Str × PV)}

theorem evalArgs_es {f : Value} {es : List Expr} {Q : Args → Shared → Prop} {E' : Value → Shared → Prop} {s : Shared}
    (x : wpAny X.M X.A (spliced (es.map fun e => (false, eval e X.env))) (fun vs s' => Q ⟨vs, []⟩ s') E' s) : wpAny X.M X.A (evalArgs f true (es.map fun e => (false, eval e X.env)) []) Q E' s := by
  cases es with
  | nil =>
    unfold evalArgs
    show wpAny X.M X.A (spliced [] >>= _) Q E' s
    refine wpAny_bind (wpAny_mono x (fun vs s' h => wpAny_bind (wpAny_pure ?_)) fun _ _ z => z)
    refine wpAny_holding ?_
    exact wpAny_bind (wpAny_pure (wpAny_bind (wpAny_pure (wpAny_pure h))))
  | cons e r => exact evalArgs_plain x

theorem plain_any {es : List Expr} {env : Env} : (es.map fun e => (false, eval e env)).any (·.1) = false := by
  rw [List.any_map, List.any_eq_false]; intro x _; simp

/-- a def or a class of the text -/
noncomputable def calleeOk (K : Frag) (f : Addr) : Bool := match K.lookup f with
  | some ⟨_, _, .func _, _⟩ => true
  | some ⟨_, _, .cls _, _⟩ => specialIn K (.ref f) "__call__" == some (some (.builtin "type.__call__"))
  | _ => false

set_option tactic.hygienic true in
theorem callWith_ok {f : Addr} {pos : Pos} {first : List Value} {es : List Expr} {Q : Value → Shared → Prop} {E' : Value → Shared → Prop} {s : Shared} (hf : calleeOk X.G.K f = true)
    (x : wpAny X.M X.A (spliced (es.map fun e => (false, eval e X.env))) (fun vs s' => X.G.K.In s'.heap ∧ wpAny X.M X.A (call (.ref f) (first ++ vs)) Q E' s') E' s) :
    wpAny X.M X.A (callWith pos (.ref f) first (es.map fun e => (false, eval e X.env)) []) Q E' s := by
  unfold calleeOk at hf
  split at hf
  · rename_i hl
    exact callWith_function (evalArgs_es (wpAny_mono x (fun vs s' z => ⟨⟨z.1 _ _ hl, rfl⟩, z.2⟩) fun _ _ z => z))
  · rename_i hl
    rw [beq_iff_eq] at hf
    unfold callWith
    refine wpAny_bind (wpAny_holding (evalArgs_es (wpAny_mono x (fun vs s₁ h₁ => wpAny_bind (wpAny_standAt ?_)) fun _ _ z => z)))
    simp only [plain_any, List.any_nil, Bool.or_false]
    have tail : wpAny X.M X.A (call (.ref f) (first ++ vs) [] >>= fun r => holding [r] point >>= fun w9 => pure r) Q E' s₁ :=
      wpAny_bind (wpAny_mono h₁.2 (fun r s₂ hr => wpAny_bind (wpAny_holding (wpAny_point (wpAny_pure hr)))) fun _ _ x => x)
    refine wpAny_bind (m := keeperOf (.ref f)) ?_
    unfold keeperOf
    refine wpAny_bind (wpAny_load (h₁.1 _ _ hl) ?_)
    dsimp only
    refine wpAny_bind ((looks_specialIn h₁.1 hf).here ?_)
    rw [if_pos (by simp)]
    exact wpAny_pure tail
  · cases hf

theorem drop_call {f : Addr} {ps : List PV} {vs : List Value} {h₀ : Heap} {H₀ : AH} (O : X.Ok) (R : Rel X m H h) (P : Pers h₀ h) (K : KeepH H₀ H) (V : VRs h vs ps)
    (x : CallL X.G X.n X.hn f ps H (fun p H3 => Q p m H3) (fun H3 => E m H3)) :
    wpAny X.M X.A (call (.ref f) vs) (OKP X h₀ H₀ (fun h' v m' H' => ∃ p, VR h' v p ∧ Q p m' H')) (ERP X h₀ H₀ E) (X.G.S h tk) := by
  have hfix : ∀ a o, List.lookup a ((X.env.locals, AO.frame X.uniq m) :: X.hid) = some o → o.fixed = true := fun a o q => by
    rw [List.lookup_cons] at q
    split at q
    · cases q; rfl
    · exact O.hfix _ _ q
  have hfree := (FX.free_iff (m := m)).mp R.l
  have ef : X.full m H = over ((X.env.locals, AO.frame X.uniq m) :: X.hid) H := FX.full_over
  refine wpAny_call (codeAny_mono (x _ hfix hfree X.A _ h tk vs O.stack O.depth O.units O.hand (ef ▸ R.hd) (ef ▸ R.r) (ef ▸ R.fr) V) fun r s' z => ?_)
  have back : ∀ {h' H1}, RelH X.G (over ((X.env.locals, AO.frame X.uniq m) :: X.hid) H1) h' → FreeB ((X.env.locals, AO.frame X.uniq m) :: X.hid) H1 → KeepH (over ((X.env.locals, AO.frame X.uniq m) :: X.hid) H) (over ((X.env.locals, AO.frame X.uniq m) :: X.hid) H1) →
      Rel X m H1 h' ∧ KeepH H H1 := fun {h' H1} r l k => by
    have kk : KeepH H H1 := fun a o e f => by
      have n := hfree.ne e
      have := k a o (by rw [over_at n]; exact e) f
      rw [over_at n] at this; exact this
    exact ⟨R.mk' (by rw [FX.full_over]; exact r) kk (FX.free_iff.mpr l), kk⟩
  rcases r with v | (v | _ | _ | _)
  · obtain ⟨h', tk', H', e1, b1, b2, b3, b4, b5, b6, H1, rfl, b7, b8⟩ := z
    obtain ⟨R', K'⟩ := back b2 b7 b4
    exact ⟨h', tk', m, _, e1, b1, R', P.trans b3, K.trans K', b5, (by rw [FX.full_over]; exact b6.x), b8⟩
  all_goals first | exact z | skip
  obtain ⟨h', tk', p, H', b1, b2, b3, b4, b5, H1, rfl, b7, b8⟩ := z
  obtain ⟨R', K'⟩ := back b2 b7 b4
  exact ⟨h', tk', m, _, b1, R', P.trans b3, K.trans K', p, b5, b8⟩

inductive CallR (X : FX) (args : List Expr) (p : PV) (m1 : Loc) (H1 : AH) (Q : PV → Loc → AH → Prop) (E : Loc → AH → Prop) : Prop
  | mk (f : Addr) (h : p = .ref f) (h2 : calleeOk X.G.K f = true) (q : EVs X args m1 H1 (fun ps m2 H2 => CallL X.G X.n X.hn f ps H2 (fun p H3 => Q p m2 H3) (fun H3 => E m2 H3)) E)
theorem EV.call {func : Expr} {args : List Expr} {pos : Pos} (O : X.Ok) (GG : X.G.Ok)
    (x : EV X func m H (fun p m1 H1 => CallR X args p m1 H1 Q E) E)
    (hp : args.all plainArg = true := by rfl)
    (he : eval (.Call func args [] pos) X.env = (do callWith pos (← eval func X.env) [] (backTo pos (starEach args X.env)) (backToKw pos (keywordEach [] X.env))) := by with_unfolding_all rfl) :
    EV X (.Call func args [] pos) m H Q E := fun h tk R => by
  show wpAny _ _ _ _ _ _
  rw [he, starEach_plain hp]
  refine wpAny_bind (x.run R (.refl _) (.refl _) fun h1 tk1 v p m1 H1 R1 P1 P1' K1 V1 q1 => ?_)
  obtain ⟨f, rfl, hf, q⟩ := q1
  obtain rfl := V1.inv_ref
  refine callWith_ok hf (q.run R1 P1' K1 fun h2 tk2 vs ps m2 H2 R2 P2 P2' K2 V2 q2 => ⟨R2.kin GG, ?_⟩)
  exact drop_call O R2 P2' K2 V2 q2

/-! methods of own objects -/
noncomputable def methOk (K : Frag) (C : Addr) (name : Str) (f : Addr) : Bool := clsOk K C && findIn K (.ref C) name == some (some (.ref f)) && typeIn K (.ref f) == some (.type "function") && calleeOk K f

theorem getMethod_own {name : Str} {f : Addr} {pl : Sem Bool} {Q' : Value × List Value → Shared → Prop} {E' : Value → Shared → Prop} (GG : X.G.Ok) (R : Rel X m H h) (ha : H a = some (.inst C dx)) (hd : H dx = some (.attrs fs))
    (hm : methOk X.G.K C name f = true) (hn : fs.lookup name = none) (q : Q' (.ref f, [.ref a]) (X.G.S h tk)) : wpAny X.M X.A (getMethod (.ref a) name pl) Q' E' (X.G.S h tk) := by
  obtain ⟨ox, od, mm, I, -, -, e1, e2, n1, n2⟩ := R.inst ha hd
  unfold methOk clsOk at hm
  simp only [Bool.and_eq_true, beq_iff_eq] at hm
  obtain ⟨⟨⟨⟨⟨⟨c1, c2⟩, c3⟩, c4⟩, m1⟩, m2⟩, m3⟩ := hm
  refine method_fn (R.kin GG) I c2 c4 m1 m2 ?_ q
  have := n2 name
  rw [hn] at this
  show (lookIn name od).map _ = _
  rw [e2, this]; rfl

theorem methodCall_plain {o : Expr} {name : Str} {apos pos : Pos} {ov : Value} {es : List Expr} {Q : Value → Shared → Prop} {E' : Value → Shared → Prop} {s : Shared} (hl : (apos.endLine == pos.line) = true) (hp : es.all plainArg = true) (hle : es.length < 20)
    (x : ∀ pl, wpAny X.M X.A (getMethod ov name pl) (fun fv s' => wpAny X.M X.A (callWith pos fv.1 fv.2 (es.map fun e => (false, eval e X.env)) []) Q E' s') E' s) :
    wpAny X.M X.A (methodCall o name apos pos X.env ov (es.length + ([] : List Keyword).length) (backTo pos (starEach es X.env)) (backToKw pos (keywordEach [] X.env))) Q E' s := by
  rw [starEach_plain hp]
  have hform : methodCallForm (es.length + ([] : List Keyword).length) (es.map fun e => (false, eval e X.env)) (backToKw pos (keywordEach [] X.env)) = true := by
    unfold methodCallForm
    simp only [Bool.and_eq_true, decide_eq_true_eq]
    refine ⟨⟨?_, rfl⟩, ?_⟩
    · rw [List.all_map, List.all_eq_true]; intro y _; rfl
    · show es.length + 0 + 0 < 30; lia
  have hpos : methodCallPos true o X.env apos pos = pure pos := by unfold methodCallPos; simp [hl]
  unfold methodCall
  rw [hform]
  refine wpAny_bind (wpAny_holding ?_)
  show wpAny X.M X.A (getMethod ov name _) _ _ _
  exact wpAny_mono (x _) (fun fv s' z => wpAny_bind (wpAny_of_eq hpos z)) fun _ _ z => z

inductive MethR (X : FX) (name : Str) (args : List Expr) (p : PV) (m1 : Loc) (H1 : AH) (Q : PV → Loc → AH → Prop) (E : Loc → AH → Prop) : Prop
  | mk (a C dx : Addr) (fs : List (Str × PV)) (f : Addr) (h1 : p = .ref a) (h2 : H1 a = some (.inst C dx)) (h3 : H1 dx = some (.attrs fs)) (h4 : methOk X.G.K C name f = true) (h5 : fs.lookup name = none)
    (q : EVs X args m1 H1 (fun ps m2 H2 => CallL X.G X.n X.hn f (.ref a :: ps) H2 (fun p H3 => Q p m2 H3) (fun H3 => E m2 H3)) E)
theorem EV.meth {o : Expr} {name : Str} {args : List Expr} {apos pos : Pos} (O : X.Ok) (GG : X.G.Ok)
    (x : EV X o m H (fun p m1 H1 => MethR X name args p m1 H1 Q E) E)
    (hb : attributeBase o name X.env (eval o X.env) = eval o X.env := by with_unfolding_all rfl)
    (hl : (apos.endLine == pos.line) = true := by rfl) (hp : args.all plainArg = true := by rfl) (hle : args.length < 20 := by decide) :
    EV X (.Call (.Attribute o name apos) args [] pos) m H Q E := fun h tk R => by
  show wpAny _ _ _ _ _ _
  rw [arm_eval_Call, hb]
  refine wpAny_bind (x.run R (.refl _) (.refl _) fun h1 tk1 v p m1 H1 R1 P1 P1' K1 V1 q1 => ?_)
  obtain ⟨a, C, dx, fs, f, rfl, ha, hd, hm, hn, q⟩ := q1
  obtain rfl := V1.inv_ref
  refine wpAny_bind (wpAny_standAt (methodCall_plain hl hp hle fun pl => getMethod_own GG R1 ha hd hm hn ?_))
  have hc : calleeOk X.G.K f = true := by unfold methOk at hm; simp only [Bool.and_eq_true] at hm; exact hm.2
  refine callWith_ok hc (q.run R1 P1' K1 fun h2 tk2 vs ps m2 H2 R2 P2 P2' K2 V2 q2 => ⟨R2.kin GG, ?_⟩)
  exact drop_call O R2 P2' K2 (VRs.cons VR.ref V2) q2
end
end Mine

namespace Mine

/-! ## Exceptions on their way -/

theorem Pers.slots {S : List Addr} {h h' : Heap} (x : Heap.SlotsOnly S h h') : Pers h h' := fun a vs ⟨o, h1, h2, n, h3⟩ => by
  obtain ⟨sl, e⟩ := x.2.2 a o h1
  exact ⟨_, e, h2, n, h3⟩
theorem Ns.slots {S : List Addr} {h h' : Heap} (x : Heap.SlotsOnly S h h') {a : Addr} {mm : Str → Option Value} (n : h.Ns a mm) : h'.Ns a mm := by
  obtain ⟨o, es, ep, h1, r⟩ := n
  obtain ⟨sl, e⟩ := x.2.2 a o h1
  exact ⟨_, es, ep, e, r⟩
theorem Ns1.slots {S : List Addr} {h h' : Heap} (x : Heap.SlotsOnly S h h') {a : Addr} {mm : Str → Option Value} (n : h.Ns1 a mm) : h'.Ns1 a mm := by
  obtain ⟨o, es, ep, h1, r⟩ := n
  obtain ⟨sl, e⟩ := x.2.2 a o h1
  exact ⟨_, es, ep, e, r⟩
theorem RelH.slots {G : GS} {H : AH} {h h' : Heap} {S : List Addr} (R : RelH G H h) (x : Heap.SlotsOnly S h h') (hS : ∀ a ∈ S, ∃ u m, H a = some (.frame u m)) : RelH G H h' where
  glob := R.glob
  fresh := R.fresh
  stays b ob e := by
    have : b ∉ S := fun q => by
      obtain ⟨u, m, hm⟩ := hS b q
      rw [(R.fresh _ _ hm).1] at e; cases e
    exact (x.2.1 b this).trans (R.stays b ob e)
  real b ob e := by
    by_cases q : b ∈ S
    · obtain ⟨u, m, hm⟩ := hS b q
      rw [hm] at e; cases e
      obtain ⟨mm, a1, a2, a3⟩ := R.real _ _ hm
      exact ⟨mm, Ns.slots x a1, fun z => Ns1.slots x (a2 z), a3.mono (Pers.slots x)⟩
    · exact (R.real b ob e).mono (Pers.slots x) fun o ho => (x.2.1 b q).trans ho

/-- a traced exception -/
inductive TrAt (G : GS) (h : Heap) (H : AH) (e : Addr) (fl : Value) : Prop
  | mk (oe : Obj) (vs : Array Value) (a0 : Value) (h1 : h.get? e = some oe) (h2 : oe.cls = .ref G.err) (h3 : oe.data = .fields vs) (h4 : vs[0]? = some a0) (h5 : vs[2]? = some .none)
    (T : Addr) (oT : Obj) (ts : Array Value) (e1 : vs[1]? = some (.ref T)) (e2 : T ≠ e) (e3 : G.base.get? T = none) (e4 : H T = none) (e5 : h.get? T = some oT) (e6 : oT.data = .fields ts) (e7 : ts[3]? = some fl)
structure TrG (G : GS) (h : Heap) (H : AH) (e : Addr) (fl : Value) : Prop where
  base : G.base.get? e = none
  out : H e = none
  there : TrAt G h H e fl
theorem TrG.o {G h H e} (x : TrG G h H e .none) : FlyO G h H e := by
  obtain ⟨a, b, oe, vs, a0, h1, h2, h3, h4, h5, T, oT, ts, e1, e2, e3, e4, e5, e6, e7⟩ := x
  exact ⟨a, b, oe, vs, a0, h1, h2, h3, h4, h5, .inr ⟨T, oT, ts, _, e1, e2, e3, e4, e5, e6, e7, .inl rfl⟩⟩
theorem TrG.x {X : FX} {h H e} {L : Addr} (x : TrG X.G h H e (rawInt L)) : FlyX X h H e := by
  obtain ⟨a, b, oe, vs, a0, h1, h2, h3, h4, h5, T, oT, ts, e1, e2, e3, e4, e5, e6, e7⟩ := x
  exact ⟨a, b, oe, vs, a0, h1, h2, h3, h4, h5, .inr ⟨T, oT, ts, _, e1, e2, e3, e4, e5, e6, e7, .inr ⟨L, rfl⟩⟩⟩

theorem get?_upd_ne {h : Heap} {a b : Addr} {f : Obj → Obj} (n : b ≠ a) : (h.update a f).get? b = h.get? b := Heap.get?_update_other _ _ (Ne.symm n)

/-- an object that the plain heap does not bear is changed -/
theorem RelH.outside {G : GS} {H : AH} {h : Heap} {a : Addr} {f : Obj → Obj} {o : Obj} {vs : Array Value} (R : RelH G H h) (ho : h.get? a = some o) (hd : o.data = .fields vs) (ht : o.cls ≠ .type "tuple" ∨ True) (hH : H a = none) (hb : G.base.get? a = none) : RelH G H (h.update a f) ∧ Pers h (h.update a f) := by
  have p : Pers h (h.update a f) := fun b ws ⟨ob, h1, h2, n, h3⟩ => by
    have hb : b ≠ a := fun q => by rw [q, ho] at h1; cases h1; rw [hd] at h3; cases h3
    exact ⟨ob, (get?_upd_ne hb).trans h1, h2, n, h3⟩
  refine ⟨⟨fun b ob e => (get?_upd_ne fun q => by rw [q, hb] at e; cases e).trans (R.stays b ob e), fun b ob e => ?_, R.fresh, R.glob⟩, p⟩
  have hba : b ≠ a := fun q => by rw [q, hH] at e; cases e
  exact (R.real b ob e).mono p fun oo ho => (get?_upd_ne hba).trans ho

section
variable {X : FX} {m : Loc} {H : AH} {Q : PV → Loc → AH → Prop} {E : Loc → AH → Prop} {h : Heap} {tk : Nat} {e : Addr}

theorem fun_frames {l : List Env} {H : AH} (R : RelH X.G H h) (x : FrOk l H) : h.FunFrames {} l := by
  induction l with
  | nil => trivial
  | cons en r ih =>
    obtain ⟨a, L, u, mm, b, c⟩ := x en (.head _)
    obtain ⟨m', ⟨o, es, ep, h1, h2, _⟩, _⟩ := R.real _ _ c
    exact ⟨a, ⟨L, o, b, rfl, h1, fun vs q => by rw [h2] at q; cases q⟩, ih fun e he => x e (.tail _ he)⟩
theorem frames_are {l : List Env} {H : AH} (x : FrOk l H) : ∀ a ∈ l.filterMap (·.frame), ∃ u m, H a = some (.frame u m) := fun a ha => by
  obtain ⟨en, he, hf⟩ := List.mem_filterMap.mp ha
  obtain ⟨_, L, u, mm, b, c⟩ := x en he
  rw [b] at hf; cases hf
  exact ⟨u, mm, c⟩

theorem frameOf_X {Q' : Value → Shared → Prop} {E' : Value → Shared → Prop} {L : Addr} (O : X.Ok) (R : Rel X m H h) (hf : X.env.frame = some L)
    (q : ∀ h', Heap.SlotsOnly ((X.top :: X.outer).filterMap (·.frame)) h h' → Rel X m H h' → Pers h h' → Q' (.ref L) (X.G.S h' tk)) : wpAny X.M X.A (PySem.frameOf X.env) Q' E' (X.G.S h tk) := by
  have e : PySem.frameOf X.env = PySem.frameOf X.top := by unfold PySem.frameOf; rw [O.frame]
  rw [e]
  refine wpAny_frameOf_fun O.stack (fun_frames R.r R.fr) (O.frame ▸ hf) fun h' x => ?_
  have r' := R.r.slots x (frames_are R.fr)
  exact q h' x (R.mk' r' (.refl _) R.l) (Pers.slots x)

theorem entry_X {Q' : Unit → Shared → Prop} {E' : Value → Shared → Prop} {L : Addr} {oe : Obj} {vs : Array Value} {a0 head : Value} {hadNext : Bool} (O : X.Ok) (R : Rel X m H h) (hf : X.env.frame = some L) (hb : X.G.base.get? e = none) (hH : X.full m H e = none)
    (he : h.get? e = some oe) (hc : oe.cls = .ref X.G.err) (hd : oe.data = .fields vs) (h0 : vs[0]? = some a0) (h2 : vs[2]? = some .none)
    (q : ∀ h', Rel X m H h' → Pers h h' → TrG X.G h' (X.full m H) e (rawInt L) → Q' () (X.G.S h' tk)) :
    wpAny X.M X.A (do let a ← PySem.frameOf X.env; let pl ← entryPlaceOf L hadNext; let b ← EntryCells.newEntry head a .none (rawInt L) .none pl; setField (.ref e) 1 b) Q' E' (X.G.S h tk) := by
  have hsz : 2 < vs.size := (Array.getElem?_eq_some_iff.mp h2).1
  refine wpAny_bind (frameOf_X O R hf fun h₁ hs₁ R₁ P₁ => ?_)
  have hen : e ∉ (X.top :: X.outer).filterMap (·.frame) := fun hm => by
    obtain ⟨u, mm, c⟩ := frames_are R.fr e hm
    rw [hH] at c; cases c
  have he₁ : h₁.get? e = some oe := (hs₁.2.1 e hen).trans he
  refine wpAny_bind (wpAny_entryPlaceOf fun pl hpl => ?_)
  unfold EntryCells.newEntry newFields
  refine wpAny_bind (wpAny_newObj_type ?_ (hpl.sizeOk5 _ _ _ _ _))
  generalize hT : ({ cls := .type "traceback", dict := none, data := .fields ([head, .ref L, .none, rawInt L, .none] ++ (if pl.isEmpty then List.replicate 6 Value.none else pl)).toArray } : Obj) = oT
  have k : ∀ b o, h₁.get? b = some o → (h₁.push oT).get? b = some o := fun b o z => Heap.get?_push_of_some _ z
  have R₂ : Rel X m H (h₁.push oT) := R₁.keeps k
  have he₂ : (h₁.push oT).get? e = some oe := k _ _ he₁
  have hTn : h₁.objs.size ≠ e := Nat.ne_of_gt (Heap.lt_size he₁)
  have hTh := R₁.none_of_get (get_none_of_ge (Nat.le_refl _))
  have hTf : X.full m H h₁.objs.size = none := by rw [FX.full_at hTh.2]; exact hTh.1
  have hTb : X.G.base.get? h₁.objs.size = none := base_none R₁.r.stays (get_none_of_ge (Nat.le_refl _))
  refine wpAny_setField he₂ hd (by omega) ?_
  obtain ⟨r3, p3⟩ := R₂.r.outside (f := Obj.mapFields (·.setIfInBounds 1 (Value.ref h₁.objs.size))) he₂ hd (.inr trivial) hH hb
  have hd₃ := Obj.data_mapFields hd (·.setIfInBounds 1 (Value.ref h₁.objs.size))
  refine q _ (R₂.mk' r3 (.refl _) R.l) (P₁.trans ((Pers.of_keeps k).trans p3)) ⟨hb, hH, _, _, a0, Heap.get?_update_self _ he₂ (Obj.isFreed_of_fields hd₃), (Obj.cls_mapFields _ _).trans hc, hd₃, ?_, ?_, h₁.objs.size, oT, ([head, .ref L, .none, rawInt L, .none] ++ (if pl.isEmpty then List.replicate 6 Value.none else pl)).toArray, ?_, hTn, hTb, hTf, ?_, ?_, ?_⟩
  · rw [Array.getElem?_setIfInBounds_ne (by decide)]; exact h0
  · rw [Array.getElem?_setIfInBounds_ne (by decide)]; exact h2
  · simp [show 1 < vs.size by omega]
  · rw [get?_upd_ne hTn]; exact Heap.get?_push_size _ (by subst hT; rfl)
  · subst hT; rfl
  · simp

theorem note_X {Q' : Unit → Shared → Prop} {E' : Value → Shared → Prop} {L : Addr} (O : X.Ok) (R : Rel X m H h) (hf : X.env.frame = some L) (F : FlyX X h (X.full m H) e)
    (q : ∀ h', Rel X m H h' → Pers h h' → TrG X.G h' (X.full m H) e (rawInt L) → Q' () (X.G.S h' tk)) : wpAny X.M X.A (noteFrame (.ref e) X.env) Q' E' (X.G.S h tk) := by
  obtain ⟨hb, hH, oe, vs, a0, he, hc, hd, h0, h2, h1⟩ := F
  unfold noteFrame
  simp only [hf]
  rcases h1 with ⟨h1, _⟩ | ⟨T, oT, ts, fl, h1, hTe, hTb, hTH, hT, hTd, h3, hfl⟩
  · refine wpAny_bind (wpAny_field he hd h1 ?_)
    rw [if_neg (by decide)]
    exact entry_X O R hf hb hH he hc hd h0 h2 q
  · refine wpAny_bind (wpAny_field he hd h1 ?_)
    rw [if_pos (show (Value.ref T != Value.none) = true from by simp)]
    refine wpAny_bind (wpAny_field hT hTd h3 ?_)
    by_cases hb2 : (fl == rawInt L) = true
    · rw [if_pos hb2]
      have : fl = rawInt L := by simpa using hb2
      subst this
      exact wpAny_pure (q h R (.refl _) ⟨hb, hH, oe, vs, a0, he, hc, hd, h0, h2, T, oT, ts, h1, hTe, hTb, hTH, hT, hTd, h3⟩)
    · rw [if_neg hb2]
      refine wpAny_bind (wpAny_setField hT hTd (Array.getElem?_eq_some_iff.mp h3).1 ?_)
      obtain ⟨r2, p2⟩ := R.r.outside (f := Obj.mapFields (·.setIfInBounds 3 Value.none)) hT hTd (.inr trivial) hTH hTb
      have R2 := R.mk' r2 (.refl _) R.l
      exact entry_X O R2 hf hb hH ((get?_upd_ne (Ne.symm hTe)).trans he) hc hd h0 h2 fun h' R' P' t => q h' R' (p2.trans P') t

theorem flight_X {Q' : Unit → Shared → Prop} {E' : Value → Shared → Prop} {fl : Value} {fr : Option Addr} (R : Rel X m H h) (F : TrG X.G h (X.full m H) e fl)
    (q : ∀ h', Rel X m H h' → Pers h h' → TrG X.G h' (X.full m H) e (fr.elim .none fun f => rawInt f) → Q' () (X.G.S h' tk)) : wpAny X.M X.A (setFlight (.ref e) fr) Q' E' (X.G.S h tk) := by
  obtain ⟨hb, hH, oe, vs, a0, he, hc, hd, h0, h2, T, oT, ts, h1, hTe, hTb, hTH, hT, hTd, h3⟩ := F
  unfold setFlight
  refine wpAny_bind (wpAny_field he hd h1 ?_)
  rw [if_pos (show (Value.ref T != Value.none) = true from by simp)]
  have hs3 : 3 < ts.size := (Array.getElem?_eq_some_iff.mp h3).1
  refine wpAny_setField hT hTd hs3 ?_
  obtain ⟨r2, p2⟩ := R.r.outside (f := Obj.mapFields (·.setIfInBounds 3 (fr.elim Value.none fun f => rawInt f))) hT hTd (.inr trivial) hTH hTb
  have hd₃ := Obj.data_mapFields hTd (·.setIfInBounds 3 (fr.elim Value.none fun f => rawInt f))
  exact q _ (R.mk' r2 (.refl _) R.l) p2 ⟨hb, hH, oe, vs, a0, (get?_upd_ne (Ne.symm hTe)).trans he, hc, hd, h0, h2, T, _, _, h1, hTe, hTb, hTH, Heap.get?_update_self _ hT (Obj.isFreed_of_fields hd₃), hd₃, by simp [hs3]⟩

theorem leave_X {Q' : Unit → Shared → Prop} {E' : Value → Shared → Prop} (O : X.Ok) (R : Rel X m H h) (F : FlyX X h (X.full m H) e)
    (q : ∀ h', Rel X m H h' → Pers h h' → FlyO X.G h' (X.full m H) e → Q' () (X.G.S h' tk)) : wpAny X.M X.A (leaving X.env (.ref e)) Q' E' (X.G.S h tk) := by
  obtain ⟨_, L, u, mm, hL, _⟩ := R.fr X.top (.head _)
  have hf : X.env.frame = some L := O.frame.trans hL
  unfold leaving
  refine wpAny_bind (note_X O R hf F fun h1 R1 P1 t1 => flight_X (fr := none) R1 t1 fun h2 R2 P2 t2 => q h2 R2 (P1.trans P2) t2.o)
end
end Mine

namespace Mine

theorem RelH.sub {G : GS} {H H' : AH} {h : Heap} (R : RelH G H h) (s : ∀ a o, H' a = some o → H a = some o) : RelH G H' h := ⟨R.stays, fun a o e => R.real a o (s a o e), fun a o e => R.fresh a o (s a o e), R.glob⟩
theorem full_sub {X : FX} {m H} (l : X.Free H) : ∀ a o, H a = some o → X.full m H a = some o := fun a o e => by
  rw [FX.full_at (FX.free_ne l e)]; exact e
theorem FlyG.sub {G h H H' e ok fr} (x : FlyG G h H e ok fr) (s : ∀ a, H a = none → H' a = none) : FlyG G h H' e ok fr := by
  obtain ⟨a, b, oe, vs, a0, h1, h2, h3, h4, h5, h6⟩ := x
  refine ⟨a, s _ b, oe, vs, a0, h1, h2, h3, h4, h5, ?_⟩
  rcases h6 with q | ⟨T, oT, ts, fl, e1, e2, e3, e4, e5, e6, e7, e8⟩
  · exact .inl q
  · exact .inr ⟨T, oT, ts, fl, e1, e2, e3, s _ e4, e5, e6, e7, e8⟩

theorem zip_lookup {h : Heap} : ∀ {names : List Str} {vs : List Value} {ps : List PV}, VRs h vs ps → ∀ x p, (names.zip ps).lookup x = some p → ∃ v, (names.zip vs).lookup x = some v ∧ VR h v p
  | [], _, _, _, x, p, e => by simp at e
  | n :: ns, [], ps, r, x, p, e => by
    cases ps with
    | nil => simp at e
    | cons => simp [VRs] at r
  | n :: ns, v :: vs, [], r, x, p, e => by simp at e
  | n :: ns, v :: vs, q :: ps, r, x, p, e => by
    rw [List.zip_cons_cons, List.lookup_cons] at e ⊢
    by_cases z : x = n
    · subst z; simp only [beq_self_eq_true] at e ⊢; cases e; exact ⟨v, rfl, r.head⟩
    · have z' : (x == n) = false := by simpa using z
      simp only [z'] at e ⊢; exact zip_lookup r.tail x p e
theorem lookup_mem_fst {α : Type} : ∀ {l : List (Str × α)} {x : Str} {v : α}, l.lookup x = some v → x ∈ l.map (·.1) := fun e => List.mem_map.mpr ⟨_, mem_of_lookup e, rfl⟩
theorem lookup_append {α : Type} {x : Str} : ∀ {l l' : List (Str × α)}, (l ++ l').lookup x = (l.lookup x).or (l'.lookup x)
  | [], l' => by simp
  | (y, v) :: r, l' => by
    rw [List.cons_append, List.lookup_cons, List.lookup_cons]
    cases x == y with
    | true => simp
    | false => exact lookup_append
theorem lookup_reverse {α : Type} {x : Str} {v : α} : ∀ {l : List (Str × α)}, (l.map (·.1)).Nodup → l.lookup x = some v → l.reverse.lookup x = some v
  | (y, w) :: r, n, e => by
    rw [List.map_cons, List.nodup_cons] at n
    rw [List.reverse_cons, lookup_append]
    rw [List.lookup_cons] at e
    by_cases z : x = y
    · subst z
      simp only [beq_self_eq_true] at e; cases e
      have : r.reverse.lookup x = none := by
        cases q : r.reverse.lookup x with
        | none => rfl
        | some u =>
          have := lookup_mem_fst q
          rw [List.map_reverse, List.mem_reverse] at this
          exact absurd this n.1
      rw [this]; simp
    · have z' : (x == y) = false := by simpa using z
      simp only [z'] at e
      rw [lookup_reverse n.2 e]; rfl

noncomputable def retOf : PF → PV
  | .ret p => p
  | _ => .none
noncomputable abbrev fxOf (G : GS) (A : Around) (env : Env) (outer : List Env) (n : Nat) (nn : Bool) (B : List (Addr × AO)) : FX := FX.mk G (A.deeper env) env env outer false n nn B
set_option genInjectivity false in
/-- what a call finds around it -/
structure Vs where
  A : Around
  outer : List Env
  L : Addr
  B : List (Addr × AO)
noncomputable abbrev fxV (qual : Str) (scope : Scope) (f : Addr) (cdv : Value) (nn : Bool) (G : GS) (V : Vs) (n : Nat) : FX := fxOf G V.A (envOf qual scope V.L f cdv) V.outer n nn V.B
noncomputable abbrev fxW (qual : Str) (scope : Scope) (f : Addr) (cdv : Value) (nn : Bool) (G : GS) (V : Vs) (n : Nat) : FX := fxOf G V.A (envOfC qual scope V.L f cdv) V.outer n nn V.B

theorem enter {G : GS} {n : Nat} {nn : Bool} {f : Addr} {H : AH} {name qual : Str} {params : Arguments} {body : List Stmt} {scope : Scope} {dV kV doc pm cdv ct oc : Value} {an od : Option Addr} {osl : Array (Option Value)} {A : Around} {outer : List Env} {hp : Heap} {tk : Nat} {vs : List Value}
    {binds : List (Str × Value)} {m : Loc} {R : Result → Shared → Prop} {B : List (Addr × AO)} (hfix : ∀ a o, B.lookup a = some o → o.fixed = true) (hfree : FreeB B H)
    (GG : G.Ok) (ho : G.K.lookup f = some ⟨oc, od, .func (fnOf name qual params body scope dV kV doc pm an cdv ct), osl⟩) (hcd : codeIn G.K cdv qual = true)
    (hbind : BindsTo (G.S hp tk) (fnOf name qual params body scope dV kV doc pm an cdv ct) ⟨vs, []⟩ binds) (hloc : ∀ x ∈ binds, scope.names.lookup x.1 = some .local) (hcell : ∀ x ∈ scope.names, x.2 ≠ .cell)
    (hm : ∀ x p, m.lookup x = some p → ∃ v, binds.reverse.lookup x = some v ∧ VR hp v p)
    (hco : scope.isCoroutine = false) (hgen : scope.isGenerator = false) (hk : scope.kind = .function)
    (a1 : A.frames = some outer) (a2 : A.depth + (n + 1) ≤ 900) (a3 : A.units + 20 * (n + 1) ≤ 9000) (a4 : nn = true → A.handled = none) (a5 : HandOk A.handled (over B H)) (a6 : RelH G (over B H) hp) (a7 : FrOk outer (over B H))
    (h : ∀ L h₁, B.lookup L = none → (fxOf G A (envOf qual scope L f cdv) outer n nn B).Ok → Rel (fxOf G A (envOf qual scope L f cdv) outer n nn B) m H h₁ → (∀ b o, hp.get? b = some o → h₁.get? b = some o) → Pers hp h₁ →
      wpAny (model G.prog G.w) (A.deeper (envOf qual scope L f cdv)) (execs body (envOf qual scope L f cdv)) (fun fl s' => R (.ok (.ret (match fl with | .ret v => v | _ => .none))) s')
        (fun e s' => wpAny (model G.prog G.w) (A.deeper (envOf qual scope L f cdv)) (leaving (envOf qual scope L f cdv) e) (fun _ s'' => R (.error e) s'') (fun e' s'' => R (.error e') s'') s') (G.S h₁ (tk + binds.length))) :
    codeAny (model G.prog G.w) A (.call (.ref f) ⟨vs, []⟩) R (G.S hp tk) := by
  have hd : A.depth < recursionLimit := by unfold recursionLimit; lia
  have X0 := GG.kin.keeps a6.stays
  refine codeAny_call_def (s := G.S hp tk) (fd := fnOf name qual params body scope dV kV doc pm an cdv ct) (body := body) (binds := binds) hd (X0 _ _ ho) rfl (GG.nolimit.keeps a6.stays) (codeRec_of X0 hcd) rfl
    hbind hcell hloc (fun h₁ hns hk₁ => ?_) hco hgen hk
  have hLn : over B H hp.objs.size = none := a6.none_at_size
  have O : (fxOf G A (envOf qual scope hp.objs.size f cdv) outer n nn B).Ok :=
    ⟨hk, rfl, rfl, Around.frames_deeper a1, rfl, by show A.depth + 1 + n ≤ 900; lia, by show A.units + 3 + 20 * n ≤ 9000; lia, a4, hfix⟩
  have p1 : Pers hp h₁ := Pers.of_keeps hk₁
  have r1 : RelH G (upd (over B H) hp.objs.size (.frame false m)) h₁ := by
    refine a6.new hk₁ (Nat.le_refl _) ⟨_, hns, (fun q => Bool.noConfusion q), fun x p e => ?_⟩
    obtain ⟨v, e1, e2⟩ := hm x p e
    exact ⟨v, e1, e2.mono p1⟩
  have k1 : KeepH (over B H) (upd (over B H) hp.objs.size (.frame false m)) := .upd_new hLn
  have ef : (fxOf G A (envOf qual scope hp.objs.size f cdv) outer n nn B).full m H = upd (over B H) hp.objs.size (.frame false m) := FX.full_upd_over
  have hBL : B.lookup hp.objs.size = none := by
    unfold over at hLn
    split at hLn
    · cases hLn
    · assumption
  refine h hp.objs.size h₁ hBL O ⟨by rw [ef]; exact r1, fun a na => ?_, fun e he => ?_, by rw [ef]; exact a5.keep k1⟩ hk₁ p1
  · rcases na with rfl | ⟨o, q⟩
    · unfold over at hLn
      split at hLn
      · cases hLn
      · exact hLn
    · exact hfree _ _ q
  rw [ef]
  rcases List.mem_cons.mp he with rfl | he
  · exact ⟨by show scope.kind ≠ .module; rw [hk]; decide, hp.objs.size, false, m, rfl, upd_self⟩
  · exact a7.keep k1 e he

theorem len0 {P : List Value → Prop} (h : P []) (vs : List Value) (e : vs.length = 0) : P vs := List.eq_nil_of_length_eq_zero e ▸ h
theorem lenS {P : List Value → Prop} {n : Nat} (h : ∀ a vs, vs.length = n → P (a :: vs)) (vs : List Value) (e : vs.length = n + 1) : P vs := by
  cases vs with
  | nil => exact nomatch e
  | cons a vs => exact h a vs (Nat.succ.inj e)
theorem len1 {P : List Value → Prop} (h : ∀ a, P [a]) : ∀ vs : List Value, vs.length = 1 → P vs := lenS fun a => len0 (h a)
theorem len2 {P : List Value → Prop} (h : ∀ a b, P [a, b]) : ∀ vs : List Value, vs.length = 2 → P vs := lenS fun a => len1 (h a)
theorem len3 {P : List Value → Prop} (h : ∀ a b c, P [a, b, c]) : ∀ vs : List Value, vs.length = 3 → P vs := lenS fun a => len2 (h a)
theorem len4 {P : List Value → Prop} (h : ∀ a b c d, P [a, b, c, d]) : ∀ vs : List Value, vs.length = 4 → P vs := lenS fun a => len3 (h a)

theorem CallL.intro {G : GS} {n : Nat} {nn : Bool} {f : Addr} {ps : List PV} {H : AH} {Q : PV → AH → Prop} {E : AH → Prop} {name qual : Str} {params : Arguments} {body : List Stmt} {scope : Scope} {dV kV doc pm cdv ct oc : Value} {an od : Option Addr} {osl : Array (Option Value)}
    (GG : G.Ok) (ho : G.K.lookup f = some ⟨oc, od, .func (fnOf name qual params body scope dV kV doc pm an cdv ct), osl⟩) (hcd : codeIn G.K cdv qual = true) (names : List Str)
    (hbind : ∀ vs : List Value, vs.length = names.length → bindArgs (fnOf name qual params body scope dV kV doc pm an cdv ct) ⟨vs, []⟩ = pure (names.zip vs))
    (hloc : (names.all fun x => decide (scope.names.lookup x = some .local)) = true) (hnd : names.Nodup) (hcell : ∀ x ∈ scope.names, x.2 ≠ .cell) (hlen : ps.length = names.length)
    (hco : scope.isCoroutine = false) (hgen : scope.isGenerator = false) (hk : scope.kind = .function)
    (h : ∀ V : Vs, (fxV qual scope f cdv nn G V n).Ok →
      EX (fxV qual scope f cdv nn G V n) body (names.zip ps) H (fun fl _ H' => Q (retOf fl) H') (fun _ H' => E H')) :
    CallL G (n + 1) nn f ps H Q E := by
  intro B hfix hfree A outer hp tk vs a1 a2 a3 a4 a5 a6 a7 a8
  have hvl : vs.length = names.length := a8.length.trans hlen
  refine enter (m := names.zip ps) (B := B) hfix hfree GG ho hcd (BindsTo.of_eq (hbind vs hvl)) (fun x hx => ?_) hcell (fun x p e => ?_) hco hgen hk a1 a2 a3 a4 a5 a6 a7 fun L h₁ hBL O R hk₁ p1 => ?_
  · have : x.1 ∈ names := (List.of_mem_zip hx).1
    exact of_decide_eq_true (List.all_eq_true.mp hloc _ this)
  · obtain ⟨v, e1, e2⟩ := zip_lookup (names := names) a8 x p e
    refine ⟨v, lookup_reverse ?_ e1, e2⟩
    rw [List.map_fst_zip (by lia)]; exact hnd
  · have hL : ∀ {H' : AH}, (fxOf G A (envOf qual scope L f cdv) outer n nn B).Free H' → over B H' L = none := fun l => by rw [over_at hBL]; exact l L (.inl rfl)
    have fr : ∀ {m' : Loc} {H' : AH}, (fxOf G A (envOf qual scope L f cdv) outer n nn B).Free H' → ∀ a o, over B H' a = some o → (fxOf G A (envOf qual scope L f cdv) outer n nn B).full m' H' a = some o := fun {m' H'} l a o q => by
      rw [FX.full_upd_over, upd_ne fun z => by (have z2 : a = L := z); rw [z2, hL l] at q; cases q]; exact q
    have fb : ∀ {H' : AH}, (fxOf G A (envOf qual scope L f cdv) outer n nn B).Free H' → FreeB B H' := fun l a o q => l a (.inr ⟨o, q⟩)
    have kb : ∀ {H' : AH}, FreeB B H' → KeepH H H' → KeepH (over B H) (over B H') := fun {H'} fb' k a o e f => by
      cases q : B.lookup a with
      | some o' => unfold over at e ⊢; rw [q] at e ⊢; exact e
      | none => rw [over_at q] at e ⊢; exact k a o e f
    refine wpAny_mono (h ⟨A, outer, L, B⟩ O h₁ (tk + (names.zip vs).length) R) (fun fl s' hs => ?_) fun v s' hs => ?_
    · obtain ⟨h', tk', m', H', rfl, R', P', K', p, hf, q⟩ := hs
      exact ⟨h', tk', retOf p, over B H', rfl, R'.r.sub (fr R'.l), p1.trans P', kb (fb R'.l) K', (by cases fl <;> cases p <;> first | exact hf | exact hf.elim | exact VR.none), H', rfl, fb R'.l, q⟩
    · obtain ⟨h', tk', m', H', e, rfl, R', P', K', rfl, fl, q⟩ := hs
      refine leave_X O R' fl fun h2 R2 P2 F2 => ?_
      refine ⟨h2, tk', over B H', e, rfl, R2.r.sub (fr R2.l), (p1.trans P').trans P2, kb (fb R2.l) K', rfl, F2.sub fun a z => ?_, H', rfl, fb R2.l, q⟩
      cases z2 : over B H' a with
      | none => rfl
      | some o => rw [fr (m' := m') R2.l a o z2] at z; cases z

/-! ## Making an own object -/
theorem CallW.make {G : GS} {n : Nat} {nn : Bool} {C fI : Addr} {ps : List PV} {H : AH} {Q : PV → AH → Prop} {E : AH → Prop} (GG : G.Ok) (hm : makesIn G.K C = true) (hi : findIn G.K (.ref C) "__init__" = some (some (.ref fI))) (hf : typeIn G.K (.ref fI) = some (.type "function"))
    (x : ∀ a dx, H a = none → H dx = none → a ≠ dx → CallW G n nn fI (.ref a :: ps) (upd (upd H dx (.attrs [])) a (.inst C dx)) (fun p H' => p = .none ∧ Q (.ref a) H') E) : CallW G (n + 1) nn C ps H Q E := by
  intro A outer h tk vs a1 a2 a3 a4 a5 a6 a7 a8
  have X0 := GG.kin.keeps a6.stays
  refine make_core (makes_of X0 hm) (looks_findIn X0 hi) (fun self => bind_fn X0 self hf) (.inl rfl) ?_
  have k1 : ∀ b o, h.get? b = some o → (h.push emptyDict).get? b = some o := fun b o e => Heap.get?_push_of_some _ e
  have k2 : ∀ b o, (h.push emptyDict).get? b = some o → ((h.push emptyDict).push (instObj C h.objs.size)).get? b = some o := fun b o e => Heap.get?_push_of_some _ e
  have hdx : H h.objs.size = none := a6.none_at_size
  have r1 : RelH G (upd H h.objs.size (.attrs [])) (h.push emptyDict) := by
    refine a6.new k1 (Nat.le_refl _) ⟨fun w9 => none, ⟨_, #[], 0, Heap.get?_push_size _ rfl, rfl, fun e he => absurd he (by simp), List.Pairwise.nil, fun w9 => rfl⟩, fun n => rfl⟩
  have hs : (h.push emptyDict).objs.size = h.objs.size + 1 := Heap.size_push ..
  have hx0 : upd H h.objs.size (.attrs []) (h.objs.size + 1) = none := hs ▸ r1.none_at_size
  have hx : H (h.objs.size + 1) = none := by rw [upd_ne (Nat.succ_ne_self _)] at hx0; exact hx0
  have gx : ((h.push emptyDict).push (instObj C h.objs.size)).get? (h.objs.size + 1) = some (instObj C h.objs.size) := hs ▸ Heap.get?_push_size _ rfl
  have r2 : RelH G (upd (upd H h.objs.size (.attrs [])) (h.objs.size + 1) (.inst C h.objs.size)) ((h.push emptyDict).push (instObj C h.objs.size)) :=
    r1.new k2 (by rw [hs]; exact Nat.le_refl _) ⟨_, gx, rfl, rfl, rfl, (Nat.succ_ne_self _).symm⟩
  have kk : KeepH H (upd (upd H h.objs.size (.attrs [])) (h.objs.size + 1) (.inst C h.objs.size)) := (KeepH.upd_new hdx).trans (.upd_new hx0)
  have p2 : Pers h ((h.push emptyDict).push (instObj C h.objs.size)) := (Pers.of_keeps k1).trans (Pers.of_keeps k2)
  refine codeAny_mono (x (h.objs.size + 1) h.objs.size hx hdx (Nat.succ_ne_self _) (A.under (.builtin "type.__call__" ⟨.ref C :: vs, []⟩)) outer _ tk (.ref (h.objs.size + 1) :: vs) ?_ ?_ ?_ ?_ ?_ r2 (a7.keep kk) (VRs.cons VR.ref (a8.mono p2))) fun r s' z => ?_
  · exact a1
  · show A.depth + 1 + n ≤ 900; lia
  · show A.units + 1 + 20 * n ≤ 9000; lia
  · exact a4
  · exact a5.keep kk
  · rcases r with v | (v | _ | _ | _)
    · obtain ⟨h', tk', H', e, rfl, b2, b3, b4, rfl, b6, b7⟩ := z
      exact ⟨h', tk', H', e, rfl, b2, p2.trans b3, kk.trans b4, rfl, b6, b7⟩
    all_goals first | exact z.elim | skip
    obtain ⟨h', tk', p, H', rfl, b2, b3, b4, b5, rfl, b6⟩ := z
    exact ⟨b5.inv_none, h', tk', _, H', rfl, b2, p2.trans b3, kk.trans b4, VR.ref, b6⟩

theorem CallW.make0 {G : GS} {n : Nat} {nn : Bool} {C : Addr} {H : AH} {Q : PV → AH → Prop} {E : AH → Prop} (GG : G.Ok) (hm : makesIn G.K C = true) (hi : findIn G.K (.ref C) "__init__" = some (some (.builtin "object.__init__")))
    (x : ∀ a dx, H a = none → H dx = none → a ≠ dx → Q (.ref a) (upd (upd H dx (.attrs [])) a (.inst C dx))) : CallW G n nn C [] H Q E := by
  intro A outer h tk vs a1 a2 a3 a4 a5 a6 a7 a8
  obtain rfl := a8.inv_nil
  have X0 := GG.kin.keeps a6.stays
  have Y := makes_of (M := G.M) X0 hm
  refine make_core Y (looks_findIn X0 hi) (fun self => Looks.of_pure (oi_bind self)) (.inr ⟨rfl, rfl⟩) ?_
  have k1 : ∀ b o, h.get? b = some o → (h.push emptyDict).get? b = some o := fun b o e => Heap.get?_push_of_some _ e
  have k2 : ∀ b o, (h.push emptyDict).get? b = some o → ((h.push emptyDict).push (instObj C h.objs.size)).get? b = some o := fun b o e => Heap.get?_push_of_some _ e
  have hdx : H h.objs.size = none := a6.none_at_size
  have r1 : RelH G (upd H h.objs.size (.attrs [])) (h.push emptyDict) := by
    refine a6.new k1 (Nat.le_refl _) ⟨fun w9 => none, ⟨_, #[], 0, Heap.get?_push_size _ rfl, rfl, fun e he => absurd he (by simp), List.Pairwise.nil, fun w9 => rfl⟩, fun n => rfl⟩
  have hs : (h.push emptyDict).objs.size = h.objs.size + 1 := Heap.size_push ..
  have hx0 : upd H h.objs.size (.attrs []) (h.objs.size + 1) = none := hs ▸ r1.none_at_size
  have hx : H (h.objs.size + 1) = none := by rw [upd_ne (Nat.succ_ne_self _)] at hx0; exact hx0
  have gx : ((h.push emptyDict).push (instObj C h.objs.size)).get? (h.objs.size + 1) = some (instObj C h.objs.size) := hs ▸ Heap.get?_push_size _ rfl
  have r2 : RelH G (upd (upd H h.objs.size (.attrs [])) (h.objs.size + 1) (.inst C h.objs.size)) ((h.push emptyDict).push (instObj C h.objs.size)) :=
    r1.new k2 (by rw [hs]; exact Nat.le_refl _) ⟨_, gx, rfl, rfl, rfl, (Nat.succ_ne_self _).symm⟩
  have kk : KeepH H (upd (upd H h.objs.size (.attrs [])) (h.objs.size + 1) (.inst C h.objs.size)) := (KeepH.upd_new hdx).trans (.upd_new hx0)
  have p2 : Pers h ((h.push emptyDict).push (instObj C h.objs.size)) := (Pers.of_keeps k1).trans (Pers.of_keeps k2)
  have t1 : Looks G.M ((h.push emptyDict).push (instObj C h.objs.size)) (typeOf (.ref (h.objs.size + 1))) (.ref C) := (Looks.ld gx).andThen .now
  have t2 : Looks G.M ((h.push emptyDict).push (instObj C h.objs.size)) (isInstance (.ref (h.objs.size + 1)) (.type "object")) true := t1.andThen (Y.top.keeps fun b o e => k2 _ _ (k1 _ _ e))
  refine codeAny_call_builtin oi_plain entry_oi (@check_slot G.M _ _ _ "object.__init__" "object" "__init__" (.ref (h.objs.size + 1)) [] [] _ oi_kind oi_split t2 (oi_args (.ref (h.objs.size + 1))) ?_)
  rw [oi_run]
  exact wpAny_pure (And.intro rfl ⟨_, tk, _, _, rfl, r2, p2, kk, VR.ref, x _ _ hx hdx (Nat.succ_ne_self _)⟩)
theorem over_upd {B : List (Addr × AO)} {H : AH} {a o} (n : B.lookup a = none) : over B (upd H a o) = upd (over B H) a o := by
  funext b
  by_cases z : b = a
  · subst z; rw [over_at n, upd_self, upd_self]
  · rw [upd_ne z]; unfold over; split
    · rfl
    · rw [upd_ne z]
theorem over_none {B : List (Addr × AO)} {H : AH} {a} (n : over B H a = none) : B.lookup a = none ∧ H a = none := by
  unfold over at n
  split at n
  · cases n
  · exact ⟨by assumption, n⟩
theorem FreeB.upd {B : List (Addr × AO)} {H : AH} {a o} (x : FreeB B H) (n : B.lookup a = none) : FreeB B (upd H a o) := fun b ob q => by
  rw [upd_ne fun z => by rw [z, n] at q; cases q]; exact x b ob q
theorem CallL.make {G : GS} {n : Nat} {nn : Bool} {C fI : Addr} {ps : List PV} {H : AH} {Q : PV → AH → Prop} {E : AH → Prop} (GG : G.Ok) (hm : makesIn G.K C = true) (hi : findIn G.K (.ref C) "__init__" = some (some (.ref fI))) (hf : typeIn G.K (.ref fI) = some (.type "function"))
    (x : ∀ a dx, H a = none → H dx = none → a ≠ dx → CallL G n nn fI (.ref a :: ps) (upd (upd H dx (.attrs [])) a (.inst C dx)) (fun p H' => p = .none ∧ Q (.ref a) H') E) : CallL G (n + 1) nn C ps H Q E := fun B hfix hfree => by
  refine CallW.make GG hm hi hf fun a dx ha hdx hne => ?_
  obtain ⟨na, ha⟩ := over_none ha
  obtain ⟨ndx, hdx⟩ := over_none hdx
  rw [← over_upd ndx, ← over_upd na]
  refine (x a dx ha hdx hne B hfix ((hfree.upd ndx).upd na)).mono (fun p H' ⟨H1, e, f, e2, q⟩ => ⟨e2, H1, e, f, q⟩) fun H' z => z
theorem CallL.make0 {G : GS} {n : Nat} {nn : Bool} {C : Addr} {H : AH} {Q : PV → AH → Prop} {E : AH → Prop} (GG : G.Ok) (hm : makesIn G.K C = true) (hi : findIn G.K (.ref C) "__init__" = some (some (.builtin "object.__init__")))
    (x : ∀ a dx, H a = none → H dx = none → a ≠ dx → Q (.ref a) (upd (upd H dx (.attrs [])) a (.inst C dx))) : CallL G n nn C [] H Q E := fun B hfix hfree => by
  refine CallW.make0 GG hm hi fun a dx ha hdx hne => ?_
  obtain ⟨na, ha⟩ := over_none ha
  obtain ⟨ndx, hdx⟩ := over_none hdx
  exact ⟨_, by rw [← over_upd ndx, ← over_upd na], (hfree.upd ndx).upd na, x a dx ha hdx hne⟩
end Mine

namespace Mine

/-! ## The one own exception: made, raised -/

noncomputable abbrev errMro (C2 : Addr) : List Value := [.ref C2, .type "Exception", .type "BaseException", .type "object"]

section
variable {prog : Program} {w : World} {A : Around} {R : Result → Shared → Prop} {h : Heap} {g : Array GenState} {d : Drawn} {t : Nat} {os : OsState}
variable {nm q : Str} {C N C2 fI : Addr} {bs : List Value} {sn : List Str} {sub : List Value} {ab : Bool} {col : Option Bool} {dd : Option Addr} {k0 k1 k2 k3 k5 : Option Value}

theorem err_has (T : String) (ht : T = "Exception" ∨ T = "BaseException" ∨ T = "object") : (Value.ref C :: errMro C2).contains (.type T) = true := by
  rcases ht with rfl | rfl | rfl <;> simp [errMro]
theorem err_not (T : String) (h1 : T ≠ "Exception") (h2 : T ≠ "BaseException") (h3 : T ≠ "object") : (Value.ref C :: errMro C2).contains (.type T) = false := by
  simp [errMro, h1, h2, h3]

theorem err_new {rest : List Value} (hC : h.get? C = some (excClassObj nm q C N bs (errMro C2) true sn sub ab col dd k0 k1 k2 k3 k5 "Exception.__new__"))
    (hq : R (.ok (.ret (.ref (h.objs.size + 1)))) ⟨(h.push { cls := .type "tuple", data := .seq rest.toArray }).push
      { cls := .ref C, data := .fields #[.ref h.objs.size, .none, .none, .none, .bool false, .none] }, g, d, t, os⟩) (hrest : rest.length ≤ sizeLine) :
    codeAny (model prog w) A (.builtin "Exception.__new__" ⟨.ref C :: rest, []⟩) R ⟨h, g, d, t, os⟩ := by
  have F := PySem.F.excBase_Exception
  have hends := F.ends
  have hcB : (Value.ref C :: errMro C2).contains (.type "Exception") = true := err_has _ (.inl rfl)
  have hcA : (Value.ref C :: errMro C2).contains (.type "AttributeError") = false := err_not _ (by decide) (by decide) (by decide)
  have hcN : (Value.ref C :: errMro C2).contains (.type "NameError") = false := err_not _ (by decide) (by decide) (by decide)
  refine codeAny_builtinAt F.entry ?_
  unfold Builtin.«BaseException.__new__»
  refine PySem.wpAt_bind ?_
  show PySem.wpAt _ _ _ (stack >>= _) _ _ _
  refine PySem.wpAt_bind (PySem.wpAt_stack fun p below => PySem.wpAt_of_wpAny ?_)
  wp_walk
  refine PySem.wpAt_of_wpAny ?_
  rw [F.owner]
  repeat (first | with_reducible refine wpAny_madeHere_exc F.canon hC ?_ | with_reducible refine wpAny_loadPart_at hC ?_ | (with_reducible refine wpAny_isSubtype_exc hC ?_; first | rw [hcB] | rw [hcA] | rw [hcN]) | wp_step)
  show R _ _
  rw [Heap.size_push]
  exact hq

theorem err_check_new {M : Model} {E : Value → Shared → Prop} {rest : List Value} {Q : Unit → Shared → Prop} (hC : h.get? C = some (excClassObj nm q C N bs (errMro C2) true sn sub ab col dd k0 k1 k2 k3 k5 "Exception.__new__"))
    (hq : Q () ⟨h, g, d, t, os⟩) : wpAny M A (checkBuiltinCall "Exception.__new__" ⟨.ref C :: rest, []⟩) Q E ⟨h, g, d, t, os⟩ := by
  have F := PySem.F.excBase_Exception
  have hcont : (Value.ref C :: errMro C2).contains (.type "Exception") = true := err_has _ (.inl rfl)
  have hstar := F.noStar
  simp only [checkBuiltinCall, F.newKind, F.newSplit, F.newRow]
  repeat (first | refine wpAny_loadPart_at hC ?_ | (refine wpAny_isSubtype_exc hC ?_; rw [hcont]) | refine wpAny_staticBase_exc hC ?_ | refine wpAny_madeBy_exc hC ?_ | simp only [bne_self_eq_false, Bool.false_eq_true, if_false] | wp_step)
  exact hq

theorem err_type_call {E : Value → Shared → Prop} {K : Frag} {rest : List Value} {Q : Fin → Shared → Prop} (X : K.In h)
    (hC : h.get? C = some (excClassObj nm q C N bs (errMro C2) true sn sub ab col dd k0 k1 k2 k3 k5 "Exception.__new__")) (hi : findIn K (.ref C) "__init__" = some (some (.ref fI))) (hf : typeIn K (.ref fI) = some (.type "function"))
    (hq : ∀ h' e, Heap.MadeExcOf h h' e (.ref C) rest →
      wpAny (model prog w) A (PySem.call (.ref fI) (.ref e :: rest)) (fun r s' => r = .none ∧ Q (.done (.ret (.ref e))) s') E ⟨h', g, d, t, os⟩) (hrest : rest.length ≤ sizeLine) :
    wpAny (model prog w) A (Builtin.«type.__call__» ⟨.ref C :: rest, []⟩) Q E ⟨h, g, d, t, os⟩ := by
  have F := PySem.F.excBase_Exception
  repeat (first | with_reducible refine wpAny_loadPart_at hC ?_ | with_reducible refine wpAny_madeBy_exc hC ?_ | wp_step)
  refine codeAny_call_builtin_code (Code.quiet_builtin _ F.quiet) (err_check_new hC ?_)
  refine err_new hC ?_ hrest
  show wpAny _ _ _ _ _ _
  have kk : ∀ b o, h.get? b = some o → ((h.push { cls := .type "tuple", data := .seq rest.toArray }).push { cls := .ref C, data := .fields #[.ref h.objs.size, .none, .none, .none, .bool false, .none] }).get? b = some o :=
    fun b o e => Heap.get?_push_of_some _ (Heap.get?_push_of_some _ e)
  have hC₁ := kk _ _ hC
  have X₁ := X.keeps kk
  have hget : ((h.push { cls := .type "tuple", data := .seq rest.toArray }).push
      { cls := .ref C, data := .fields #[.ref h.objs.size, .none, .none, .none, .bool false, .none] }).get? (h.objs.size + 1) = some
      { cls := .ref C, data := .fields #[.ref h.objs.size, .none, .none, .none, .bool false, .none] } := by heap_get
  have hcC : (Value.ref C :: errMro C2).contains (.ref C) = true := by simp
  unfold isInstance
  repeat (first | with_reducible refine wpAny_loadPart_at hget ?_ | (with_reducible refine wpAny_isSubtype_exc hC₁ ?_; rw [hcC]) | wp_step)
  show wpAny _ _ (typeLookup (.ref C) _) _ _ _
  refine (looks_findIn X₁ hi).here ?_
  refine wpAny_holding (wpAny_bind ((bind_fn X₁ _ hf).here ?_))
  refine (wpAny_bind (wpAny_mono (hq _ (h.objs.size + 1) ⟨kk, Heap.get?_none_of_le (Nat.le_succ _), h.objs.size, hget, Heap.get?_none_of_le (Nat.le_refl _), ?_⟩) (fun r s' hr => ?_) fun _ _ x => x))
  · exact Heap.get?_push_of_some _ (Heap.get?_push_at rfl rfl)
  · obtain ⟨rfl, hQ⟩ := hr
    wp_walk
    exact hQ

theorem err_call {E : Value → Shared → Prop} {K : Frag} {rest : List Value} {Q : Value → Shared → Prop} (X : K.In h)
    (hC : h.get? C = some (excClassObj nm q C N bs (errMro C2) true sn sub ab col dd k0 k1 k2 k3 k5 "Exception.__new__")) (hi : findIn K (.ref C) "__init__" = some (some (.ref fI))) (hf : typeIn K (.ref fI) = some (.type "function"))
    (hq : ∀ h' e, Heap.MadeExcOf h h' e (.ref C) rest →
      wpAny (model prog w) (A.under (.builtin "type.__call__" ⟨.ref C :: rest, []⟩)) (PySem.call (.ref fI) (.ref e :: rest)) (fun r s' => r = .none ∧ Q (.ref e) s') E ⟨h', g, d, t, os⟩) (hrest : rest.length ≤ sizeLine) :
    wpAny (model prog w) A (PySem.call (.ref C) rest) Q E ⟨h, g, d, t, os⟩ := by
  have f1 := tc_lookup
  have f2 := tc_bind (.ref C)
  have hT : (⟨h, g, d, t, os⟩ : Shared).TypeIs (.ref C) "type" := ⟨_, hC, rfl⟩
  refine wpAny_call (codeAny_of_tree ?_)
  show wpAny _ _ (callAny (.ref C) _) _ _ _
  repeat (any_goals (first | assumption | with_reducible refine wpAny_loadPart_at hC ?_ | wp_step))
  refine ⟨rfl, ?_⟩
  refine codeAny_call_builtin_at (Code.quiet_builtin _ (by decide +kernel)) entry_typeCall (wpAny_check_type_call_sub hC (err_type_call (hrest := hrest) X hC hi hf fun h' e hm => ?_))
  exact hq h' e hm

/-! `Exception.__init__(self, message)` on it -/
theorem err_check_init {M : Model} {E : Value → Shared → Prop} {e : Addr} {oe : Obj} {rest : List Value} {Q : Unit → Shared → Prop}
    (hC : h.get? C = some (excClassObj nm q C N bs (errMro C2) true sn sub ab col dd k0 k1 k2 k3 k5 "Exception.__new__")) (he : h.get? e = some oe) (hcls : oe.cls = .ref C) (hq : Q () ⟨h, g, d, t, os⟩) :
    wpAny M A (checkBuiltinCall "Exception.__init__" ⟨.ref e :: rest, []⟩) Q E ⟨h, g, d, t, os⟩ := by
  have F := PySem.F.excBase_Exception
  have hcB : (Value.ref C :: errMro C2).contains (.type "Exception") = true := err_has _ (.inl rfl)
  have hshort := F.noStar
  simp only [checkBuiltinCall, F.initKind, F.initSplit, F.initRow]
  repeat (first | (with_reducible refine wpAny_loadPart_at he ?_; rw [hcls]) | with_reducible refine wpAny_loadPart_at hC ?_ | (with_reducible refine wpAny_isSubtype_exc hC ?_; rw [hcB]) | wp_step)
  refine wpAny_onRaise ?_
  rw [show ∀ (a b : String) (n : Nat), Bind.check ⟨.positional, "*", "Exception", .self, [⟨"args", .varPos, false⟩]⟩ a b n (List.map (fun x => x.fst) ({ pos := Value.ref e :: rest } : Args).kw) = pure () from
    fun a b n => check_star_args _ _ _ _ _ _]
  exact wpAny_pure hq

theorem err_init {E : Value → Shared → Prop} {e : Addr} {oe : Obj} {vs : Array Value} {t0 : Addr} {rest : List Value} {Q : Value → Shared → Prop}
    (hC : h.get? C = some (excClassObj nm q C N bs (errMro C2) true sn sub ab col dd k0 k1 k2 k3 k5 "Exception.__new__")) (he : h.get? e = some oe) (hcls : oe.cls = .ref C) (hd : oe.data = .fields vs) (h0 : vs[0]? = some (.ref t0))
    (hq : Q .none ⟨(h.push { cls := .type "tuple", data := .seq rest.toArray }).update e (Obj.mapFields (·.setIfInBounds 0 (.ref h.objs.size))), g, d, t, os⟩) (hrest : rest.length ≤ sizeLine) :
    wpAny (model prog w) A (PySem.call (.builtin "Exception.__init__") (.ref e :: rest)) Q E ⟨h, g, d, t, os⟩ := by
  have F := PySem.F.excBase_Exception
  refine wpAny_call (codeAny_call_builtin F.init.plain F.initEntry (err_check_init hC he hcls ?_))
  unfold Builtin.«BaseException.__init__»
  dsimp only
  rw [if_neg (by simp)]
  unfold newTuple Builtin.BaseException.bexcPut
  have hsz : 0 < vs.size := (Array.getElem?_eq_some_iff.mp h0).1
  have he₁ := Heap.get?_push_of_some (h := h) { cls := .type "tuple", data := .seq rest.toArray } he
  refine wpAny_bind (wpAny_newObj_type (wpAny_bind (wpAny_bind (wpAny_field he₁ hd h0 (wpAny_bind (wpAny_setField he₁ hd hsz ?_))))) (by show rest.toArray.size ≤ sizeLine; rw [List.size_toArray]; exact hrest))
  exact wpAny_letGo (wpAny_pure hq)

end
end Mine

namespace Mine
section
variable {prog : Program} {w : World} {A : Around} {R : Result → Shared → Prop} {h : Heap} {g : Array GenState} {d : Drawn} {t : Nat} {os : OsState}
variable {nm q : Str} {C N C2 fI : Addr} {bs : List Value} {sn : List Str} {sub : List Value} {ab : Bool} {col : Option Bool} {dd : Option Addr} {k0 k1 k2 k3 k5 : Option Value}

theorem dict_same {o : Obj} {dx : Addr} (h : o.dict = some dx) : o = { o with dict := some dx } := by
  obtain ⟨oc, od, oda, osl⟩ := o
  cases h; rfl
theorem wp_data {α : Type} {M : Model} {x : Data} {b c : Sem α} {Q : α → Shared → Prop} {E : Value → Shared → Prop} {s : Shared} (h : ∀ c, x ≠ .cls c) (z : wpAny M A b Q E s) :
    wpAny M A (match (generalizing := false) x with | .cls w9 => c | w9 => b) Q E s := by
  cases x <;> first | exact z | exact absurd rfl (h _)
theorem freed_dict {o : Obj} {dx : Addr} (h : o.isFreed = false) : ({ o with dict := some dx } : Obj).isFreed = false := by
  obtain ⟨oc, od, oda, osl⟩ := o
  cases oda <;> first | rfl | exact h
/-- its own dict: the one it has, or a new one -/
theorem own_dict {E : Value → Shared → Prop} {Q : Option Addr → Shared → Prop} {e : Addr} {oe : Obj}
    (hC : h.get? C = some (excClassObj nm q C N bs (errMro C2) true sn sub ab col dd k0 k1 k2 k3 k5 "Exception.__new__")) (he : h.get? e = some oe) (hcls : oe.cls = .ref C) (hno : ∀ c, oe.data ≠ .cls c) (hnf : oe.isFreed = false)
    (q1 : ∀ dx, oe.dict = some dx → Q (some dx) ⟨h, g, d, t, os⟩)
    (q2 : oe.dict = none → ∀ h' dx, dx ≠ e → h.get? dx = none → h'.get? e = some { oe with dict := some dx } → (∀ b o, b ≠ e → h.get? b = some o → h'.get? b = some o) → h'.Ns1 dx (fun _ => none) → Q (some dx) ⟨h', g, d, t, os⟩) :
    wpAny (model prog w) A (instanceDict e true) Q E ⟨h, g, d, t, os⟩ := by
  have hcld : Looks (model prog w) h (classData C) _ := (Looks.ld (part := none) hC).andThen .now
  refine wpAny_bind (wpAny_loadPart he ?_)
  rw [hcls]
  refine wpAny_bind (hcld.here ?_)
  change wpAny _ _ (match oe.dict with | some d => pure (some d) | none => if (!true || !typeHasDict (Value.ref C)) = true then pure none else match oe.data with | .cls _ => pure none | _ => _) _ _ _
  cases hdc : oe.dict with
  | some dx => exact wpAny_pure (q1 dx hdc)
  | none =>
    have hk : (h.push { cls := .type "dict", data := .dict #[] }).get? e = some oe := Heap.get?_push_of_some _ he
    have hes : e ≠ h.objs.size := Nat.ne_of_lt (Heap.lt_size he)
    have hgd : ((h.push { cls := .type "dict", data := .dict #[] }).update e fun o => { o with dict := some h.objs.size }).get? h.objs.size = some { cls := .type "dict", data := .dict #[] } :=
      (Heap.get?_update_other _ _ hes).trans (Heap.get?_push_size _ rfl)
    refine wp_data (c := pure none) hno ?_
    refine wpAny_bind (wpAny_alloc (wpAny_bind (wpAny_update hk ?_)))
    exact wpAny_pure (q2 hdc _ h.objs.size hes.symm (get_none_of_ge (Nat.le_refl _)) (Heap.get?_update_self _ hk (freed_dict hnf)) (fun b o h1 h3 => (Heap.get?_update_other _ _ (Ne.symm h1)).trans (Heap.get?_push_of_some _ h3))
      ⟨_, #[], 0, hgd, rfl, fun e he => absurd he (by simp), List.Pairwise.nil, fun w9 => rfl⟩)

/-! `self.name = v` on it -/
theorem err_store {E : Value → Shared → Prop} {K : Frag} {e : Addr} {oe : Obj} {name : Str} {v : Value} {Q : Unit → Shared → Prop} (X : K.In h)
    (hC : h.get? C = some (excClassObj nm q C N bs (errMro C2) true sn sub ab col dd k0 k1 k2 k3 k5 "Exception.__new__")) (hs : findIn K (.ref C) "__setattr__" = some (some (.builtin "object.__setattr__")))
    (ht : findIn K (.ref C) name = some none) (he : h.get? e = some oe) (hcls : oe.cls = .ref C) (hno : ∀ c, oe.data ≠ .cls c) (hnf : oe.isFreed = false)
    (hdict : match oe.dict with | none => True | some dx => dx ≠ e ∧ ∃ mm ns, h.Ns1 dx mm ∧ Within mm ns ∧ ns.length ≤ 50)
    (hq : ∀ h' tk' dx mm' ns', h'.get? e = some { oe with dict := some dx } → (∀ b o, b ≠ e → b ≠ dx → h.get? b = some o → h'.get? b = some o) → dx ≠ e → (oe.dict = some dx ∨ oe.dict = none ∧ h.get? dx = none) → h'.Ns1 dx mm' → Within mm' ns' →
      ns'.length ≤ (match oe.dict with | none => 1 | some _ => 51) → Q () ⟨h', g, d, tk', os⟩) :
    wpAny (model prog w) A (setAttr (.ref e) name v) Q E ⟨h, g, d, t, os⟩ := by
  have SF := PySem.F.store_Exception
  have L0 : Looks (model prog w) h (typeOf (.ref e)) (.ref C) := hcls ▸ (Looks.ld he).andThen .now
  have hmro : Looks (model prog w) h (mroOf (.ref C)) (Value.ref C :: errMro C2) := ((Looks.ld (part := none) hC).andThen .now).andThen .now
  have hco : (Value.ref C :: errMro C2).contains (.type "object") = true := err_has _ (.inr (.inr rfl))
  have sub : Looks (model prog w) h (isInstance (.ref e) (.type "object")) true := L0.andThen (by
    intro A Q E s k z
    obtain ⟨h', g', d', t', os'⟩ := s
    refine wpAny_isSubtype_exc (k _ _ hC) ?_
    rw [hco]; exact z)
  refine wpAny_bind (wpAny_mkText (wpAny_bind (wpAny_bind (wpAny_bind (L0 _ _ _ _ (fun _ _ e => e) (looks_findIn X hs _ _ _ _ (fun _ _ e => e) (wpAny_holding ?_)))))))
  rw [PySem.F.store_object.slot.bind]
  refine wpAny_bind (wpAny_pure (wpAny_bind (wpAny_call ?_)))
  refine codeAny_call_builtin PySem.F.store_object.slot.plain PySem.F.store_object.entry (@check_slot (model prog w) _ _ _ "object.__setattr__" "object" "__setattr__" (.ref e) [.str name t, v] [] _ PySem.F.store_object.kind PySem.F.store_object.split sub (PySem.F.store_object.args (.ref e) (.str name t) v) ?_)
  have hpass := SF.passes (.ref e)
  show wpAny _ _ (Builtin.«object.__setattr__» ⟨[.ref e, .str name t, v], []⟩) _ _ ⟨h, g, d, t + 1, os⟩
  rw [osa_eq, refuse_eq]
  refine wpAny_bind (wpAny_bind (L0.here (wpAny_bind (hmro.here ?_))))
  rw [refuseLoop_ref, refuseLoop_ref, hpass]
  refine wpAny_pure (wpAny_bind (L0.here (wpAny_bind ((looks_findIn X ht).here (wpAny_bind (wpAny_pure ?_))))))
  show wpAny _ _ (storeInOwnDict (.ref e) (.ref C) (.str name t) name v false) _ _ _
  refine wpAny_bind (wpAny_pure (wpAny_bind ?_))
  have fin : ∀ (h1 : Heap) (dx : Addr) (mm : Str → Option Value) (ns : List Str) (A' : Around) (QF : _ → Shared → Prop) (EF : Value → Shared → Prop), h1.Ns1 dx mm → Within mm ns → ns.length ≤ 50 → (∀ h' tk', h'.Ns1 dx (fun x => if x = name then some v else mm x) → Heap.SameBut dx h1 h' → QF (.done (.ret .none)) ⟨h', g, d, tk', os⟩) →
      wpAny (model prog w) A' (storeInDict dx (.str name t) name v) QF EF ⟨h1, g, d, t + 1, os⟩ := by
    intro h1 dx mm ns A' QF EF hn hw hl hQ
    unfold storeInDict newKeyGuard
    refine wpAny_bind (wpAny_pure (wpAny_bind (wpAny_nsSet1 hn fun h' hn' hs => ?_)))
    obtain ⟨oD, esD, epD, hoD, hdD, hcD⟩ := hn'.count (Within.cons name v hw)
    refine wpAny_bind (wpAny_lookBehind hoD (by rw [hdD]; exact pastItsLine_dict (Nat.le_trans hcD (by rw [List.length_cons, sizeLine_eq]; omega))) ?_)
    exact wpAny_pure (hQ _ _ hn' hs)
  refine own_dict hC he hcls hno hnf (fun dx hdc => ?_) (fun hdc h1 dx n1 n2 g1 g2 n3 => ?_)
  · rw [hdc] at hdict
    obtain ⟨hne, mm, ns, h1, h2, h3⟩ := hdict
    exact fin h dx mm ns _ _ _ h1 h2 h3 fun h' tk' hn' hs => wpAny_pure (wpAny_pure (hq h' tk' dx _ (name :: ns) ((hs.2 e hne.symm).trans (he.trans (congrArg some (dict_same hdc)))) (fun b o h1 h2 h3 => (hs.2 b h2).trans h3) hne (.inl hdc) hn' (Within.cons name v h2) (by rw [hdc]; exact Nat.succ_le_succ h3)))
  · exact fin h1 dx _ [] _ _ _ n3 Within.nil (Nat.zero_le _) fun h' tk' hn' hs => wpAny_pure (wpAny_pure (hq h' tk' dx _ [name] ((hs.2 e n1.symm).trans g1) (fun b o h1 h2 h3 => (hs.2 b h2).trans (g2 b o h1 h3)) n1 (.inr ⟨hdc, n2⟩) hn' (Within.cons name v Within.nil) (by rw [hdc]; exact Nat.le_refl _)))
end
end Mine

namespace Mine

section
variable {M : Model} {A : Around} {s : Shared} {E : Value → Shared → Prop} {env : Env}
theorem exec_Assign1 {t value : Expr} {pos : Pos} {Q : Flow → Shared → Prop} (h1 : swapsWithSole [t] value pos.line env = pure false) (h2 : swappedStores [t] value env = pure none)
    (x : wpAny M A (eval value env) (fun v s1 => wpAny M A (assign t env v) (fun _ s2 => Q .next s2) E s1) E s) (hs : (assignEach [t] env).map (·.2) = [assign t env] := by rfl) : wpAny M A (exec (.Assign [t] value pos) env) Q E s := by
  show wpAny M A (do
    standAt pos
    if ← swapsWithSole [t] value pos.line env then do
      evalThenUse value env fun v => assignAll v ((assignEach [t] env).map (·.2))
      pure .next
    else do
      let v ← eval value env
      assignStores env v (← swappedStores [t] value env) ((assignEach [t] env).map (·.2))) Q E s
  rw [h1, h2, hs]
  refine wpAny_bind (wpAny_standAt (wpAny_bind (wpAny_pure ?_)))
  rw [if_neg (by decide)]
  refine wpAny_bind (wpAny_mono x (fun v s1 h => wpAny_bind (wpAny_pure ?_)) fun _ _ z => z)
  exact wpAny_bind (wpAny_mono h (fun _ s2 h2 => wpAny_pure h2) fun _ _ z => z)
theorem assign_Attribute {o : Expr} {attr : Str} {pos : Pos} {v : Value} {Q : Unit → Shared → Prop}
    (x : wpAny M A (eval o env) (fun ov s1 => wpAny M A (setAttr ov attr v) Q E s1) E s) : wpAny M A (assign (.Attribute o attr pos) env v) Q E s := by
  show wpAny M A (do
    let ov ← holding [v] (eval o env)
    standAt pos.atName
    holding [v, ov] (setAttr ov attr v)
    release [v, ov] []) Q E s
  refine wpAny_bind (wpAny_holding (wpAny_mono x (fun ov s1 h => wpAny_bind (wpAny_standAt (wpAny_bind (wpAny_holding (wpAny_mono h (fun _ s2 h2 => ?_) fun _ _ z => z))))) fun _ _ z => z))
  exact fun Γ p hΓ => by rw [Sem.wp_release]; exact h2
end

section
variable {prog : Program} {w : World} {A : Around} {E : Value → Shared → Prop} {s : Shared} {K : Frag} {name : Str} {v : Value}
theorem method_typeH {T : String} {pl : Sem Bool} {Q : Value × List Value → Shared → Prop} (X : K.In s.heap) (ht : typeOf (.type T) = pure (.type "type")) (hs : Manifest.isStub T = false)
    (e : findCls K (.type T) (.type "type") name = some (.val v)) (hh : handedIn v = true) (h : Q (v, []) { s with toks := s.toks + 1 }) : wpAny (model prog w) A (getMethod (.type T) name pl) Q E s := by
  have hstub : opaqueClassAbove (.type T) = pure none := by unfold opaqueClassAbove; dsimp only; rw [hs]; rfl
  have L0 : Looks (model prog w) s.heap (typeOf (.type T)) (.type "type") := Looks.of_pure ht
  have hg : findIn K (.type "type") "__getattribute__" = some (some (.builtin "type.__getattribute__")) := type_tga
  unfold getMethod specialOf
  refine wpAny_bind (wpAny_bind (L0.here ((looks_findIn X hg).here ?_)))
  dsimp only
  rw [if_pos canon_tga]
  refine wpAny_bind (wpAny_mono (Q := fun v => Q (v, [])) (E := E) ?_ (fun _ _ z => wpAny_pure z) fun _ _ z => z)
  have LO : Looks (model prog w) s.heap (opaqueClassAbove (.type T)) none := Looks.of_pure hstub
  refine cls_open X LO L0 hg (looks_hook X (r := none) (by rfl)) (by show subIn K _ _ = _; rfl) e
    (wpAny_pure (by show wpAny _ _ (handedOut v) _ _ _; rw [handedOut_of hh]; exact wpAny_pure h))
end

inductive ErrCls (G : GS) : Prop
  | mk (nm q N C2 bs sn sub ab col dd k0 k1 k2 k3 k5) (h : G.K.lookup G.err = some (excClassObj nm q G.err N bs (errMro C2) true sn sub ab col dd k0 k1 k2 k3 k5 "Exception.__new__"))
inductive ErrInit (G : GS) : Prop
  | mk (fI : Addr) (i1 : findIn G.K (.ref G.err) "__init__" = some (some (.ref fI))) (i2 : typeIn G.K (.ref fI) = some (.type "function"))
    (qual params body scope dV kV doc pm cdv ct oc an od osl) (i3 : G.K.lookup fI = some ⟨oc, od, .func (fnOf "__init__" qual params body scope dV kV doc pm an cdv ct), osl⟩) (i4 : codeIn G.K cdv qual = true)
    (i5 : ∀ (s : Shared) (a b : Value), G.K.In s.heap → BindsTo s (fnOf "__init__" qual params body scope dV kV doc pm an cdv ct) ⟨[a, b], []⟩ [("self", a), ("message", b), ("place", .none)])
    (i6 : scope.isCoroutine = false) (i7 : scope.isGenerator = false) (i8 : scope.kind = .function) (i9 : ∀ x ∈ scope.names, x.2 ≠ .cell)
    (j1 : scope.names.lookup ("self" : Str) = some .local) (j2 : scope.names.lookup ("message" : Str) = some .local) (j3 : scope.names.lookup ("place" : Str) = some .local) (j4 : scope.names.lookup ("Exception" : Str) = some .globalImplicit)
    (p1 p2 p3 p4 p5 p6 p7 p8 p9 q1 q2 q3 q4 q5 : Pos) (hl : (p2.endLine == p5.line) = true) (hb : body = [.Expr (.Call (.Attribute (.Name "Exception" p1) "__init__" p2) [.Name "self" p3, .Name "message" p4] [] p5) p6,
      .Assign [.Attribute (.Name "self" p7) "message" p8] (.Name "message" p9) q1, .Assign [.Attribute (.Name "self" q2) "place" q3] (.Name "place" q4) q5])
/-- the class of the one own exception, as the text's top has made it -/
structure ErrOk (G : GS) : Prop where
  cls : ErrCls G
  setattr : findIn G.K (.ref G.err) "__setattr__" = some (some (.builtin "object.__setattr__"))
  f1 : findIn G.K (.ref G.err) "message" = some none
  f2 : findIn G.K (.ref G.err) "place" = some none
  exc : findCls G.K (.type "Exception") (.type "type") "__init__" = some (.val (.builtin "Exception.__init__"))
  name : nsIn G.K mainGlobals "Exception" = some none
  callee : calleeOk G.K G.err = true
  init : ErrInit G

theorem RelH.drift {G : GS} {H : AH} {h h' : Heap} {e dx : Addr} {oe : Obj} {vs : Array Value} (R : RelH G H h) (x : ∀ b o, b ≠ e → b ≠ dx → h.get? b = some o → h'.get? b = some o) (he : h.get? e = some oe) (hd : oe.data = .fields vs) (hH : H e = none) (hb : G.base.get? e = none)
    (hdx : (∃ mm, h.Ns1 dx mm) ∨ h.get? dx = none) (hHd : H dx = none) (hbd : G.base.get? dx = none) : RelH G H h' ∧ Pers h h' := by
  have p : Pers h h' := fun b ws ⟨ob, h1, h2, n, h3⟩ => by
    have hb : b ≠ e := fun q => by rw [q, he] at h1; cases h1; rw [hd] at h3; cases h3
    have hb2 : b ≠ dx := fun q => by
      rcases hdx with ⟨mm, o2, es, ep, g1, g2, _⟩ | g1
      · rw [q, g1] at h1; cases h1; rw [g2] at h3; cases h3
      · rw [q, g1] at h1; cases h1
    exact ⟨ob, x b ob hb hb2 h1, h2, n, h3⟩
  refine ⟨⟨fun b ob z => x b ob (fun q => by rw [q, hb] at z; cases z) (fun q => by rw [q, hbd] at z; cases z) (R.stays b ob z), fun b ob z => ?_, R.fresh, R.glob⟩, p⟩
  exact (R.real b ob z).mono p fun oo ho => x b oo (fun q => by rw [q, hH] at z; cases z) (fun q => by rw [q, hHd] at z; cases z) ho

section
variable {X : FX} {m : Loc} {H : AH} {E : Loc → AH → Prop} {h : Heap} {tk : Nat} {e : Addr}

/-- the exception stands outside, as it was made -/
structure Out (X : FX) (m : Loc) (H : AH) (h : Heap) (e : Addr) (k : Nat) : Prop where
  base : X.G.base.get? e = none
  out : X.full m H e = none
  there : Ex2 fun oe a0 => C5 (h.get? e = some oe) (oe.cls = .ref X.G.err) (oe.data = .fields #[.ref a0, .none, .none, .none, .bool false, .none]) (oe.isFreed = false)
    (match oe.dict with | none => True | some dx => C4 (k ≠ 0 ∧ dx ≠ e) (X.G.base.get? dx = none) (X.full m H dx = none) (Ex2 fun mm ns => h.Ns1 dx mm ∧ Within mm ns ∧ ns.length ≤ k))

theorem local_raw {x : Str} {pos : Pos} {p : PV} {Q' : Value → Shared → Prop} {E' : Value → Shared → Prop} (O : X.Ok) (R : Rel X m H h) (hl : X.env.kindOf x = some .local) (hv : m.lookup x = some p) (q : ∀ v, VR h v p → Q' v (X.G.S h tk)) (hd : (x == ("__debug__" : Str)) = false := by decide) :
    wpAny X.M X.A (eval (.Name x pos) X.env) Q' E' (X.G.S h tk) := by
  obtain ⟨mm, a1, _, a2⟩ := R.r.real X.env.locals _ FX.full_self
  obtain ⟨v, e, r⟩ := a2 x p hv
  exact wpAny_Name (wpAny_loadName_local O.kind hl a1 e (q v r)) hd

theorem out_store {name : Str} {v : Value} {k : Nat} {Q' : Unit → Shared → Prop} {E' : Value → Shared → Prop} (GG : X.G.Ok) (Z : ErrOk X.G) (R : Rel X m H h) (T : Out X m H h e k) (hn : findIn X.G.K (.ref X.G.err) name = some none) (hk : k ≤ 50)
    (q : ∀ h' tk', Rel X m H h' → Pers h h' → Out X m H h' e (if k = 0 then 1 else 51) → Q' () (X.G.S h' tk')) :
    wpAny X.M X.A (setAttr (.ref e) name v) Q' E' (X.G.S h tk) := by
  obtain ⟨hb, hH, oe, a0, he, hc, hd, hf, hdi⟩ := T
  obtain ⟨nm, qn, N, C2, bs, sn, sub, ab, col, dd, k0, k1, k2, k3, k5, hC⟩ := Z.cls
  have X0 := R.kin GG
  refine err_store X0 (X0 _ _ hC) Z.setattr hn he hc (fun c z => by rw [hd] at z; cases z) hf ?_ ?_
  · cases hdc : oe.dict with
    | none => trivial
    | some dx =>
      rw [hdc] at hdi
      obtain ⟨⟨g0, g1⟩, g2, g3, mm, ns, g4, g5, g6⟩ := hdi
      exact ⟨g1, mm, ns, g4, g5, by omega⟩
  · intro h' tk' dx mm' ns' he' hk' hne hor hn' hw' hl'
    have side : ((∃ mm, h.Ns1 dx mm) ∨ h.get? dx = none) ∧ X.full m H dx = none ∧ X.G.base.get? dx = none := by
      rcases hor with hdc | ⟨hdc, hnone⟩
      · rw [hdc] at hdi
        obtain ⟨⟨g0, g1⟩, g2, g3, mm, ns, g4, g5, g6⟩ := hdi
        exact ⟨.inl ⟨mm, g4⟩, g3, g2⟩
      · exact ⟨.inr hnone, R.r.none_of_get hnone, base_none R.r.stays hnone⟩
    obtain ⟨r2, p2⟩ := R.r.drift hk' he hd hH hb side.1 side.2.1 side.2.2
    refine q h' tk' (R.mk' r2 (.refl _) R.l) p2 ⟨hb, hH, _, a0, he', hc, hd, ?_, ⟨?_, hne⟩, side.2.2, side.2.1, mm', ns', hn', hw', ?_⟩
    · obtain ⟨oc, od, oda, osl⟩ := oe
      dsimp only at hd; subst hd; rfl
    · split <;> decide
    · cases hdc : oe.dict with
      | none => rw [hdc] at hl'; dsimp only at hl'; split <;> omega
      | some dy =>
        rw [hdc] at hl' hdi
        dsimp only at hl'
        have g0 : k ≠ 0 := by obtain ⟨⟨g0, _⟩, _⟩ := hdi; exact g0
        rw [if_neg g0]; omega

theorem Out.fly {k : Nat} (T : Out X m H h e k) : FlyX X h (X.full m H) e := by
  obtain ⟨hb, hH, oe, a0, he, hc, hd, hf, hdi⟩ := T
  exact ⟨hb, hH, oe, _, _, he, hc, hd, rfl, rfl, .inl ⟨rfl, trivial⟩⟩
end
end Mine

namespace Mine

section
variable {X : FX} {m : Loc} {H : AH} {E : Loc → AH → Prop} {h : Heap} {tk : Nat} {e : Addr}

/-- the body of the exception's `__init__` -/
theorem err_body {p1 p2 p3 p4 p5 p6 p7 p8 p9 q1 q2 q3 q4 q5 : Pos} {Q' : Flow → Shared → Prop} {E' : Value → Shared → Prop} {sm : Str} (hl : (p2.endLine == p5.line) = true) (O : X.Ok) (GG : X.G.Ok) (Z : ErrOk X.G) (R : Rel X m H h) (T : Out X m H h e 0)
    (k1 : X.env.kindOf ("self" : Str) = some .local) (k2 : X.env.kindOf ("message" : Str) = some .local) (k3 : X.env.kindOf ("place" : Str) = some .local) (k4 : X.env.kindOf ("Exception" : Str) = some .globalImplicit)
    (v1 : m.lookup ("self" : Str) = some (.ref e)) (v2 : m.lookup ("message" : Str) = some (.str sm)) (v3 : m.lookup ("place" : Str) = some .none)
    (q : ∀ h' tk', Rel X m H h' → Pers h h' → Out X m H h' e 51 → Q' .next (X.G.S h' tk')) :
    wpAny X.M X.A (execs [.Expr (.Call (.Attribute (.Name "Exception" p1) "__init__" p2) [.Name "self" p3, .Name "message" p4] [] p5) p6,
      .Assign [.Attribute (.Name "self" p7) "message" p8] (.Name "message" p9) q1, .Assign [.Attribute (.Name "self" q2) "place" q3] (.Name "place" q4) q5] X.env) Q' E' (X.G.S h tk) := by
  have hint : interactive X.env = false := by unfold interactive; rw [O.kind]; rfl
  have X0 := R.kin GG
  refine wpAny_execs_cons (wpAny_Expr ?_ hint rfl)
  rw [arm_eval_Call]
  refine wpAny_bind (show wpAny X.M X.A (attributeBase (.Name "Exception" p1) "__init__" X.env (eval (.Name "Exception" p1) X.env)) _ _ _ from ?_)
  rw [show attributeBase (.Name "Exception" p1) "__init__" X.env (eval (.Name "Exception" p1) X.env) = eval (.Name "Exception" p1) X.env from rfl]
  refine name_builtin O GG R k4 Z.name PyProof.Rows.Boot.«Exception» (by decide) ?_
  refine wpAny_bind (wpAny_standAt (methodCall_plain (es := [.Name "self" p3, .Name "message" p4]) hl rfl (by show 2 < 20; decide) fun pl => ?_))
  refine method_typeH X0 (by kernel_rfl) (by kernel_rfl) Z.exc rfl ?_
  refine callWith_builtin plain_any (evalArgs_es ?_)
  refine spliced_cons (local_raw O R k1 v1 fun v V1 => ?_)
  obtain rfl := V1.inv_ref
  refine spliced_cons (local_raw O R k2 v2 fun v V2 => spliced_nil ?_)
  obtain ⟨hb, hH, oe, a0, he, hc, hd, hf, hdi⟩ := T
  obtain ⟨nm, qn, N, C2, bs, sn, sub, ab, col, dd, k0, k1', k2', k3', k5, hC⟩ := Z.cls
  refine err_init (rest := [v]) (X0 _ _ hC) he hc hd rfl ?_ (by show 1 ≤ sizeLine; decide)
  -- the state behind it
  have hk : ∀ b o, h.get? b = some o → (h.push { cls := .type "tuple", data := .seq [v].toArray }).get? b = some o := fun b o z => Heap.get?_push_of_some _ z
  have R1 := R.keeps hk
  have he1 := hk _ _ he
  obtain ⟨r2, p2'⟩ := R1.r.outside (f := Obj.mapFields (·.setIfInBounds 0 (.ref h.objs.size))) he1 hd (.inr trivial) hH hb
  have R2 := R1.mk' r2 (.refl _) R1.l
  have hd2 := Obj.data_mapFields hd (·.setIfInBounds 0 (.ref h.objs.size))
  have hdn : oe.dict = none := by
    cases hdc : oe.dict with
    | none => rfl
    | some dx => rw [hdc] at hdi; obtain ⟨⟨g0, _⟩, _⟩ := hdi; exact absurd rfl g0
  have T2 : Out X m H ((h.push { cls := .type "tuple", data := .seq [v].toArray }).update e (Obj.mapFields (·.setIfInBounds 0 (.ref h.objs.size)))) e 0 := by
    refine ⟨hb, hH, _, h.objs.size, Heap.get?_update_self _ he1 (Obj.isFreed_of_fields hd2), (Obj.cls_mapFields _ _).trans hc, hd2, Obj.isFreed_of_fields hd2, ?_⟩
    obtain ⟨oc, od, oda, osl⟩ := oe
    dsimp only at hdn hd; subst hdn hd; trivial
  have P2 : Pers h _ := (Pers.of_keeps hk).trans p2'
  show wpAny X.M X.A _ Q' E' (X.G.S _ _)
  -- self.message = message
  refine wpAny_execs_cons (exec_Assign1 rfl rfl ?_)
  refine local_raw O R2 k2 v2 fun v' V' => assign_Attribute (local_raw O R2 k1 v1 fun w W => ?_)
  obtain rfl := W.inv_ref
  refine out_store GG Z R2 T2 Z.f1 (by decide) fun h3 tk3 R3 P3 T3 => ?_
  refine wpAny_execs_cons (exec_Assign1 rfl rfl ?_)
  refine local_raw O R3 k3 v3 fun v' V' => assign_Attribute (local_raw O R3 k1 v1 fun w W => ?_)
  obtain rfl := W.inv_ref
  refine out_store GG Z R3 T3 Z.f2 (by decide) fun h4 tk4 R4 P4 T4 => ?_
  exact wpAny_execs_nil (q h4 tk4 R4 ((P2.trans P3).trans P4) T4)

theorem Out.of_frame {X2 : FX} {m2 : Loc} {H2 : AH} {h2 : Heap} {k : Nat} {oe : Obj} {a0 : Addr} (hh : X2.hid = []) (R2 : Rel X2 m2 H2 h2) (hb : X2.G.base.get? e = none) (hH : H2 e = none) (he : h2.get? e = some oe) (hc : oe.cls = .ref X2.G.err)
    (hd : oe.data = .fields #[.ref a0, .none, .none, .none, .bool false, .none]) (hf : oe.isFreed = false) (hn : oe.dict = none) : Out X2 m2 H2 h2 e k := by
  refine ⟨hb, ?_, oe, a0, he, hc, hd, hf, by rw [hn]; trivial⟩
  rw [FX.full_nil hh]
  have : e ≠ X2.env.locals := fun q => by
    obtain ⟨mm, ⟨o, es, ep, g1, g2, _⟩, _⟩ := R2.r.real _ _ FX.full_self
    rw [← q, he] at g1; cases g1; rw [hd] at g2; cases g2
  rw [upd_ne this]; exact hH

/-- the call of the class -/
theorem err_made {v : Value} {sm : Str} {Q' : Value → Shared → Prop} {E' : Value → Shared → Prop} (O : X.Ok) (GG : X.G.Ok) (Z : ErrOk X.G) (hn : 2 ≤ X.n) (R : Rel X m H h) (V : VR h v (.str sm))
    (q : ∀ h' tk' e, Rel X m H h' → Pers h h' → Out X m H h' e 51 → Q' (.ref e) (X.G.S h' tk')) : wpAny X.M X.A (PySem.call (.ref X.G.err) [v]) Q' E' (X.G.S h tk) := by
  obtain ⟨nm, qn, N, C2, bs, sn, sub, ab, col, dd, k0, k1', k2', k3', k5, hC⟩ := Z.cls
  obtain ⟨fI, i1, i2, qual, params, body, scope, dV, kV, doc, pm, cdv, ct, oc, an, od, osl, i3, i4, i5, i6, i7, i8, i9, j1, j2, j3, j4, p1, p2, p3, p4, p5, p6, p7, p8, p9, q1, q2, q3, q4, q5, hl, rfl⟩ := Z.init
  have X0 := R.kin GG
  refine err_call X0 (X0 _ _ hC) i1 i2 (fun h1 e hm => ?_) (by show 1 ≤ sizeLine; decide)
  obtain ⟨n, hn2⟩ : ∃ n, X.n = n + 2 := ⟨X.n - 2, by lia⟩
  have Kk := hm.keeps
  have P1 : Pers h h1 := Pers.of_keeps Kk
  have R1 := R.keeps Kk
  obtain ⟨t0, he, -, -⟩ := hm.there
  have hfe : X.full m H e = none := R.r.none_of_get hm.new
  have hbe : X.G.base.get? e = none := base_none R.r.stays hm.new
  have hO1 := O.depth
  have hO2 := O.units
  refine wpAny_call (enter (B := []) (fun a o z => by cases z) (fun a o z => by cases z) (G := X.G) (n := n) (nn := false) (H := X.full m H) (outer := X.top :: X.outer) (m := [("self", .ref e), ("message", .str sm), ("place", .none)]) (binds := [("self", .ref e), ("message", v), ("place", .none)]) GG i3 i4
    (i5 (X.G.S h1 tk) (.ref e) v (R1.kin GG)) ?_ i9 ?_ i6 i7 i8 O.stack ?_ ?_ (fun z => by cases z) R1.hd R1.r R1.fr fun L h2 _ O2 R2 hk2 P2 => ?_)
  · intro x hx
    simp only [List.mem_cons, List.not_mem_nil, or_false] at hx
    rcases hx with rfl | rfl | rfl
    · exact j1
    · exact j2
    · exact j3
  · intro x p hp
    obtain ⟨u, g1, g2⟩ := zip_lookup (h := h1) (names := ["self", "message", "place"]) (vs := [.ref e, v, .none]) (ps := [.ref e, .str sm, .none]) (VRs.cons VR.ref (VRs.cons (V.mono P1) (VRs.cons VR.none VRs.nil))) x p hp
    exact ⟨u, lookup_reverse (by show (["self", "message", "place"] : List Str).Nodup; decide) g1, g2⟩
  · show X.A.depth + 1 + (n + 1) ≤ 900; lia
  · show X.A.units + 1 + 20 * (n + 1) ≤ 9000; lia
  · have he2 := hk2 _ _ he
    have T2 : Out (fxOf X.G (X.A.under (.builtin "type.__call__" ⟨.ref X.G.err :: [v], []⟩)) (envOf qual scope L fI cdv) (X.top :: X.outer) n false []) [("self", .ref e), ("message", .str sm), ("place", .none)] (X.full m H) h2 e 0 :=
      Out.of_frame rfl R2 hbe hfe he2 rfl rfl rfl rfl
    refine err_body (sm := sm) hl O2 GG Z R2 T2 j1 j2 j3 j4 rfl rfl rfl fun h3 tk3 R3 P3 T3 => ?_
    obtain ⟨hb3, hH3, oe3, a3, he3, hc3, hd3, hf3, hdi3⟩ := T3
    refine ⟨rfl, q h3 tk3 e (R1.mk' (R3.r.sub (full_sub R3.l)) (.refl _) R1.l) ((P1.trans P2).trans P3) ⟨hbe, hfe, oe3, a3, he3, hc3, hd3, hf3, ?_⟩⟩
    cases hdc : oe3.dict with
    | none => trivial
    | some dx =>
      rw [hdc] at hdi3
      obtain ⟨g01, g2, g3, mm, ns, g4⟩ := hdi3
      exact ⟨g01, g2, (full_none g3).1, mm, ns, g4⟩
end
end Mine

namespace Mine

/-! ## Ends of iterations, under a handled exception too -/

theorem entry_unchain : entryFor table "proto.unchain" = some Builtin.«proto.unchain» := entryFor_of_tree (by kernel_rfl)

/-- what is handled: nothing, or an exception with an empty context -/
noncomputable def HandIs (h : Heap) (hd : Option Value) : Prop := hd = none ∨ ∃ e o vs, hd = some (.ref e) ∧ h.get? e = some o ∧ o.data = .fields vs ∧ vs[2]? = some .none
theorem HandIs.of {X : FX} {m H h} (R : Rel X m H h) : HandIs h X.A.handled := by
  rcases R.hd with e | ⟨e, o, vs, a, b, c, d⟩
  · exact .inl e
  · exact .inr ⟨e, o, vs, a, (R.r.real _ _ b).1, c, d⟩

section
variable {prog : Program} {w : World} {A : Around} {E : Value → Shared → Prop} {s : Shared}

theorem raise_any {α : Type} {e : Addr} {o : Obj} {vs : Array Value} {Q : α → Shared → Prop} (H : HandIs s.heap A.handled) (ho : s.heap.get? e = some o) (hd : o.data = .fields vs) (hs : 2 < vs.size)
    (hne : ∀ h, A.handled = some (.ref h) → h ≠ e) (hcls : ∀ f, (Obj.mapFields f o).cls = o.cls)
    (q : ∀ h', Heap.ExtBut e s.heap h' → (∃ o', h'.get? e = some o' ∧ o'.cls = o.cls) → E (.ref e) { s with heap := h' }) : wpAny (model prog w) A (raiseNew (.ref e) : Sem α) Q E s := by
  unfold raiseNew
  refine wpAny_bind (wpAny_handled ?_)
  rcases H with hn | ⟨h, oh, ws, hh, gh, dh, ch⟩
  · rw [hn]
    exact wpAny_bind (wpAny_pure (wpAny_throw (q s.heap (fun b ob _ z => z) ⟨o, ho, rfl⟩)))
  · rw [hh]
    have hb : (Value.ref h != Value.ref e) = true := by
      have := hne h hh
      rw [bne_iff_ne]; exact fun z => this (by cases z; rfl)
    dsimp only
    rw [if_pos hb]
    refine wpAny_bind (wpAny_holding (wpAny_runValue (codeAny_builtin entry_unchain ?_)))
    show wpAny _ _ (field (.ref h) 2 >>= _) _ _ s
    refine wpAny_bind (wpAny_field gh dh ch ?_)
    show wpAny _ _ (ret .none >>= fun x => pure x) _ _ s
    refine wpAny_bind (wpAny_pure (wpAny_pure ?_))
    show wpAny _ _ (setField (.ref e) 2 (.ref h) >>= _) _ _ s
    refine wpAny_bind (wpAny_setField ho hd hs (wpAny_throw (q _ (Heap.SameBut.update ..).extBut ⟨_, Heap.get?_update_self _ ho (Obj.isFreed_of_fields (Obj.data_mapFields hd _)), hcls _⟩)))

theorem tupIter_end {it t : Addr} {i : Nat} {items} {Q : Option Value → Shared → Prop} (hh : HandIs s.heap A.handled)
    (hit : IsTupIter s.heap it t i) (ht : IsTup s.heap t items) (hx : items[i]? = none) (hni : ∀ h, A.handled = some (.ref h) → h ≠ it)
    (hQ : ∀ h', Heap.ExtBut it s.heap h' → Q none { s with heap := h' }) : wpAny (model prog w) A (pyNext (.ref it)) Q E s := by
  obtain ⟨o, ho, hc, hd⟩ := id hit
  obtain ⟨ol, hol, _, nl, hdl⟩ := ht
  unfold pyNext
  refine wpAny_bind (wpAny_attempt (wpAny_callSpecial?_slot (name := Str.ofString "__next__") hit.typeIs slot_tupleiter_next
    (wpAny_call_entry slot_tupleiter_next hit.typeIs entry_tupleiter_next ?_ (args_tupleiter_next _))))
  show wpAny _ _ (field (.ref it) 0 >>= _) _ _ s
  refine wpAny_bind (wpAny_field ho hd (x := .ref t) rfl ?_)
  show wpAny _ _ (if (Value.ref t == Value.none) = true then _ else _) _ _ s
  rw [if_neg (show ¬ ((Value.ref t == Value.none) = true) from Bool.false_ne_true)]
  show wpAny _ _ (field (.ref it) 1 >>= _) _ _ s
  refine wpAny_bind (wpAny_field ho hd (x := .int i 0) rfl ?_)
  show wpAny _ _ (seqItems? (.ref t) >>= _) _ _ s
  refine wpAny_bind (wpAny_seqItems hol hdl ?_)
  simp only [Int.toNat_natCast, hx]
  refine wpAny_bind (wpAny_rule (wpAny_bind (wpAny_setField ho hd (by simp) ?_)))
  show wpAny _ _ (newExc (.type "StopIteration") [] >>= _) _ _ _
  refine wpAny_bind ?_
  simp only [newExc, newTuple]
  refine wpAny_bind (wpAny_newObj_type ?_ (by size_fits))
  refine wpAny_bind (m := firstArgMember _ _) (wpAny_of_eq (a := Value.none) (by first | rfl | (simp only [firstArgMember]; rfl)) ?_)
  refine wpAny_newObj_type ?_ (by size_fits)
  have hit' : (s.heap.update it (Obj.mapFields (·.setIfInBounds 0 Value.none))).get? it = some (Obj.mapFields (·.setIfInBounds 0 Value.none) o) := Heap.get?_update_self _ ho (Obj.isFreed_of_fields (Obj.data_mapFields hd _))
  refine raise_any ?_ (Heap.get?_push_size _ rfl) rfl (by simp; lia) ?_ (fun f => rfl) fun h' x ⟨o', g1, g2⟩ => ?_
  · rcases hh with hn | ⟨h, oh, ws, e1, e2, e3, e4⟩
    · exact .inl hn
    · refine .inr ⟨h, oh, ws, e1, ?_, e3, e4⟩
      exact Heap.get?_push_of_some _ (Heap.get?_push_of_some _ (((Heap.SameBut.update ..).extBut) h oh (hni h e1) e2))
  · intro h hq e
    rcases hh with hn | ⟨h2, oh, ws, e1, e2, e3, e4⟩
    · have : A.handled = some (.ref h) := hq; rw [hn] at this; cases this
    · have : A.handled = some (.ref h) := hq
      rw [this] at e1; cases e1
      have l1 := Heap.lt_size e2
      rw [e] at l1
      rw [Heap.size_push, Heap.size_update] at l1
      exact absurd l1 (Nat.not_lt.mpr (Nat.le_succ _))
  · refine wpAny_bind (wpAny_isInstance (T := "StopIteration") (b := true) ⟨o', g1, g2⟩ isSubtype_stop ?_)
    refine wpAny_pure (hQ _ fun b ob hb z => x b ob ?_ ?_)
    · have l1 := Heap.lt_size z
      intro q; rw [q] at l1
      rw [Heap.size_push, Heap.size_update] at l1
      exact absurd l1 (Nat.not_lt.mpr (Nat.le_succ _))
    · exact Heap.get?_push_of_some _ (Heap.get?_push_of_some _ (((Heap.SameBut.update ..).extBut) b ob hb z))

theorem listIter_end {it l : Addr} {i : Nat} {items} {Q : Option Value → Shared → Prop} (hh : HandIs s.heap A.handled)
    (hit : s.heap.IsListIter it l i) (hl : s.heap.IsList l items) (hx : items[i]? = none) (hni : ∀ h, A.handled = some (.ref h) → h ≠ it)
    (hQ : ∀ h', Heap.ExtBut it s.heap h' → Q none { s with heap := h' }) : wpAny (model prog w) A (pyNext (.ref it)) Q E s := by
  obtain ⟨o, ho, hc, hd⟩ := id hit
  obtain ⟨ol, hol, _, nl, hdl⟩ := hl
  unfold pyNext
  refine wpAny_bind (wpAny_attempt (wpAny_callSpecial?_slot (name := Str.ofString "__next__") hit.typeIs slot_listiter_next
    (wpAny_call_entry slot_listiter_next hit.typeIs entry_listiter_next ?_ (args_listiter_next _))))
  show wpAny _ _ (field (.ref it) 0 >>= _) _ _ s
  refine wpAny_bind (wpAny_field ho hd (x := .ref l) rfl ?_)
  show wpAny _ _ (if (Value.ref l == Value.none) = true then _ else _) _ _ s
  rw [if_neg (show ¬ ((Value.ref l == Value.none) = true) from Bool.false_ne_true)]
  show wpAny _ _ (field (.ref it) 1 >>= _) _ _ s
  refine wpAny_bind (wpAny_field ho hd (x := .int i 0) rfl ?_)
  show wpAny _ _ (seqItems? (.ref l) >>= _) _ _ s
  refine wpAny_bind (wpAny_seqItems hol hdl ?_)
  simp only [Int.toNat_natCast, hx]
  refine wpAny_bind (wpAny_rule (wpAny_bind (wpAny_setField ho hd (by simp) ?_)))
  show wpAny _ _ (newExc (.type "StopIteration") [] >>= _) _ _ _
  refine wpAny_bind ?_
  simp only [newExc, newTuple]
  refine wpAny_bind (wpAny_newObj_type ?_ (by size_fits))
  refine wpAny_bind (m := firstArgMember _ _) (wpAny_of_eq (a := Value.none) (by first | rfl | (simp only [firstArgMember]; rfl)) ?_)
  refine wpAny_newObj_type ?_ (by size_fits)
  refine raise_any ?_ (Heap.get?_push_size _ rfl) rfl (by simp; lia) ?_ (fun f => rfl) fun h' x ⟨o', g1, g2⟩ => ?_
  · rcases hh with hn | ⟨h, oh, ws, e1, e2, e3, e4⟩
    · exact .inl hn
    · refine .inr ⟨h, oh, ws, e1, ?_, e3, e4⟩
      exact Heap.get?_push_of_some _ (Heap.get?_push_of_some _ (((Heap.SameBut.update ..).extBut) h oh (hni h e1) e2))
  · intro h hq e
    rcases hh with hn | ⟨h2, oh, ws, e1, e2, e3, e4⟩
    · have : A.handled = some (.ref h) := hq; rw [hn] at this; cases this
    · have : A.handled = some (.ref h) := hq
      rw [this] at e1; cases e1
      have l1 := Heap.lt_size e2
      rw [e] at l1
      rw [Heap.size_push, Heap.size_update] at l1
      exact absurd l1 (Nat.not_lt.mpr (Nat.le_succ _))
  · refine wpAny_bind (wpAny_isInstance (T := "StopIteration") (b := true) ⟨o', g1, g2⟩ isSubtype_stop ?_)
    refine wpAny_pure (hQ _ fun b ob hb z => x b ob ?_ ?_)
    · have l1 := Heap.lt_size z
      intro q; rw [q] at l1
      rw [Heap.size_push, Heap.size_update] at l1
      exact absurd l1 (Nat.not_lt.mpr (Nat.le_succ _))
    · exact Heap.get?_push_of_some _ (Heap.get?_push_of_some _ (((Heap.SameBut.update ..).extBut) b ob hb z))

theorem unpack_any {t : Addr} {items : Array Value} {Q : List Value → Shared → Prop} (hh : HandIs s.heap A.handled) (ht : IsTup s.heap t items)
    (hQ : ∀ h', Heap.ExtBut s.heap.objs.size s.heap h' → Q items.toList { s with heap := h' }) : wpAny (model prog w) A (unpackItems (.ref t) items.size none) Q E s := by
  have hlt : t ≠ s.heap.objs.size := by obtain ⟨o, ho, _⟩ := ht; exact Nat.ne_of_lt (Heap.lt_size ho)
  have hlh : ∀ h, A.handled = some (.ref h) → h ≠ s.heap.objs.size := fun h hq => by
    rcases hh with hn | ⟨h2, oh, ws, e1, e2, e3, e4⟩
    · rw [hn] at hq; cases hq
    · rw [hq] at e1; cases e1; exact Nat.ne_of_lt (Heap.lt_size e2)
  unfold unpackItems
  refine wpAny_bind ?_
  · unfold notIterableAtAll
    refine wpAny_bind (wpAny_specialOf ht.typeIs slot_tuple_iter.lookup ?_)
    refine wpAny_pure ?_
    simp only [Bool.false_eq_true, if_false]
    refine wpAny_bind (wpAny_holding (iter_tuple ht ?_))
    refine wpAny_bind (wpAny_holding (draw_tuple hlt items.size 0 _ _ ⟨_, Heap.get?_push_size _ rfl, rfl, rfl⟩ (ht.push _) (by lia) fun h₁ hit₁ hs₁ => ?_))
    have hall : List.take items.size (List.drop 0 items.toList) = items.toList := by
      rw [List.drop_zero]; exact List.take_of_length_le (by simp)
    rw [hall]
    rw [if_neg (by simp)]
    have ht₁ : IsTup h₁ t items := (ht.push _).extBut hs₁.extBut hlt
    refine wpAny_bind (wpAny_holding (tupIter_end ?_ hit₁ ht₁ (by simp) hlh fun h₂ he₂ => ?_))
    · rcases hh with hn | ⟨h2, oh, ws, e1, e2, e3, e4⟩
      · exact .inl hn
      · exact .inr ⟨h2, oh, ws, e1, hs₁.extBut h2 oh (hlh h2 e1) (Heap.get?_push_of_some _ e2), e3, e4⟩
    simp only [Option.isSome_none, Bool.false_eq_true, if_false]
    refine wpAny_pure (hQ h₂ fun b o hb e => he₂ b o hb (hs₁.extBut b o hb (Heap.get?_push_of_some _ e)))
end
end Mine

namespace Mine

/-! ## Stores -/

noncomputable def AT (X : FX) (t : Expr) (p : PV) (m : Loc) (H : AH) (Q : Loc → AH → Prop) (E : Loc → AH → Prop) : Prop :=
  ∀ h tk v, Rel X m H h → VR h v p → WAt X h tk H (assign t X.env v) (fun _ _ m' H' => Q m' H') E
noncomputable def ATs (X : FX) : List Expr → List PV → Loc → AH → (Loc → AH → Prop) → (Loc → AH → Prop) → Prop
  | [], [], m, H, Q, _ => Q m H
  | t :: ts, p :: ps, m, H, Q, E => AT X t p m H (fun m1 H1 => ATs X ts ps m1 H1 Q E) E
  | _, _, _, _, _, _ => False

theorem NsHas.put {h : Heap} {mm : Str → Option Value} {m : Loc} (x : NsHas h mm m) {n : Str} {v : Value} {p : PV} (V : VR h v p) : NsHas h (fun y => if y = n then some v else mm y) ((n, p) :: m) := fun y q e => by
  rw [List.lookup_cons] at e
  by_cases z : y = n
  · subst z; simp only [beq_self_eq_true] at e; cases e; simp only [if_true]; exact ⟨v, rfl, V⟩
  · have z' : (y == n) = false := by simpa using z
    simp only [z'] at e; simp only [z, if_false]; exact x y q e

section
variable {X : FX} {e l r : Expr} {m : Loc} {H : AH} {E : Loc → AH → Prop} {h : Heap} {tk : Nat}

theorem OKP.unit {Q : Loc → AH → Prop} {h₀ : Heap} {H₀ : AH} {a : Unit} {tk'} (R : Rel X m H h) (P : Pers h₀ h) (K : KeepH H₀ H) (q : Q m H) : OKP X h₀ H₀ (fun _ _ m' H' => Q m' H') a (X.G.S h tk') := OKP.at R P K q

theorem store_local' {x : Str} {v : Value} {p : PV} {Q' : Unit → Shared → Prop} {E' : Value → Shared → Prop} (O : X.Ok) (R : Rel X m H h) (hl : X.env.kindOf x = some .local) (V : VR h v p)
    (q : ∀ h' tk', Rel X ((x, p) :: m) H h' → Pers h h' → Heap.SameBut X.env.locals h h' → Q' () (X.G.S h' tk')) : wpAny X.M X.A (storeName X.env x v) Q' E' (X.G.S h tk) := by
  obtain ⟨mm, a1, u1, a2⟩ := R.r.real X.env.locals _ FX.full_self
  have hk : (X.env.scope.kind == .class || (X.env.scope.kind == .module && X.env.locals != X.env.globals)) = false := by rw [O.kind]; rfl
  rw [storeName_local hl hk]
  have fin : ∀ h' mm', h'.Ns X.env.locals mm' → (X.uniq = true → h'.Ns1 X.env.locals mm') → mm' = (fun y => if y = x then some v else mm y) → Heap.SameBut X.env.locals h h' → Q' () (X.G.S h' (tk + 1)) := fun h' mm' n1 n2 em hs => by
    subst em
    obtain ⟨r2, P⟩ := R.r.set (a := X.env.locals) (o := .frame X.uniq ((x, p) :: m)) hs.extBut FX.full_self fun P => ⟨_, n1, n2, (a2.put V).mono P⟩
    refine q h' (tk + 1) (R.mk' ?_ (.refl _) R.l) P hs
    have : upd (X.full m H) X.env.locals (.frame X.uniq ((x, p) :: m)) = X.full ((x, p) :: m) H := by
      funext b
      by_cases z : b = X.env.locals
      · subst z; rw [upd_self, FX.full_self]
      · rw [upd_ne z]; unfold FX.full; rw [if_neg z, if_neg z]
    rw [← this]; exact r2
  cases hu : X.uniq with
  | true => exact wpAny_nsSet1 (u1 hu) fun h' n1 hs => fin h' _ n1.ns (fun w9 => n1) rfl hs
  | false => exact wpAny_nsSet a1 fun h' n1 hs => fin h' _ n1 (fun z => by rw [hu] at z; cases z) rfl hs

theorem store_local {x : Str} {v : Value} {p : PV} {Q' : Unit → Shared → Prop} {E' : Value → Shared → Prop} (O : X.Ok) (R : Rel X m H h) (hl : X.env.kindOf x = some .local) (V : VR h v p)
    (q : ∀ h' tk', Rel X ((x, p) :: m) H h' → Pers h h' → Q' () (X.G.S h' tk')) : wpAny X.M X.A (storeName X.env x v) Q' E' (X.G.S h tk) := store_local' O R hl V fun h' tk' a b _ => q h' tk' a b

theorem AT.local {x : Str} {pos : Pos} {p : PV} {Q : Loc → AH → Prop} (O : X.Ok) (hl : X.env.kindOf x = some .local) (q : Q ((x, p) :: m) H) : AT X (.Name x pos) p m H Q E := fun h tk v R V =>
  PyProof.Rows.assign_Name (store_local O R hl V fun h' tk' R' P => OKP.unit R' P (.refl _) q)
theorem AT.cell {x : Str} {pos : Pos} {p : PV} {c : Addr} {o : Option PV} {Q : Loc → AH → Prop} (O : X.Ok) (hl : X.env.kindOf x = some .cell) (hc : X.env.cells.lookup x = some c) (hv : H c = some (.cell o))
    (q : Q m (upd H c (.cell (some p)))) : AT X (.Name x pos) p m H Q E := fun h tk v R V => by
  obtain ⟨⟨ob, ov, a1, a2, a3⟩, n⟩ := R.at hv
  refine PyProof.Rows.assign_Name (wpAny_storeName_cell O.kind hl hc ⟨ob, a1, a2⟩ fun h' hi hs => ?_)
  obtain ⟨oc, g1, g2⟩ := hi
  obtain ⟨R2, K2, P2⟩ := R.set (o := .cell (some p)) hs.extBut hv rfl fun P => ⟨oc, some v, g1, g2, v, rfl, V.mono P⟩
  exact OKP.unit R2 P2 K2 q
theorem AT.run {t : Expr} {p : PV} {v : Value} {Q : Loc → AH → Prop} (x : AT X t p m H Q E) (R : Rel X m H h) (V : VR h v p) {Q' : Unit → Shared → Prop} {h₀ : Heap} {H₀ : AH} (P : Pers h₀ h) (K : KeepH H₀ H)
    (f : ∀ h1 tk1 m1 H1, Rel X m1 H1 h1 → Pers h h1 → Pers h₀ h1 → KeepH H₀ H1 → Q m1 H1 → Q' () (X.G.S h1 tk1)) : wpAny X.M X.A (assign t X.env v) Q' (ERP X h₀ H₀ E) (X.G.S h tk) := by
  refine wpAny_mono (x h tk v R V) (fun v s' hs => ?_) fun v s' hs => hs.mono P K fun _ _ z => z
  obtain ⟨h', tk', m', H', rfl, R', P', K', q⟩ := hs
  exact f _ _ _ _ R' P' (P.trans P') (K.trans K') q

/-- the targets of an unpacking, none of them starred -/
theorem assignEach_plain {env : Env} : ∀ {ts : List Expr}, ts.all plainArg = true → assignEach ts env = ts.map fun t => (false, assign t env)
  | [], _ => rfl
  | e :: r, q => by
    have q2 := (Bool.and_eq_true _ _).mp q
    have ih := assignEach_plain (env := env) (ts := r) q2.2
    have h1 := q2.1
    clear q q2
    have : assignEach (e :: r) env = (false, assign e env) :: assignEach r env := by
      clear ih
      cases e <;> first | rfl | exact Bool.noConfusion h1
    rw [this]
    exact congrArg (List.cons _) ih

theorem ATs.run : ∀ {ts : List Expr} {ps : List PV} {vs : List Value} {m : Loc} {H : AH} {Q : Loc → AH → Prop} {h : Heap} {tk : Nat}, ATs X ts ps m H Q E → Rel X m H h → VRs h vs ps → ∀ {Q' : Unit → Shared → Prop} {h₀ : Heap} {H₀ : AH}, Pers h₀ h → KeepH H₀ H →
    (∀ h1 tk1 m1 H1, Rel X m1 H1 h1 → Pers h₀ h1 → KeepH H₀ H1 → Q m1 H1 → Q' () (X.G.S h1 tk1)) →
    wpAny X.M X.A (assignInOrder (ts.map fun t => assign t X.env) vs) Q' (ERP X h₀ H₀ E) (X.G.S h tk)
  | [], [], vs, m, H, Q, h, tk, x, R, V, Q', h₀, H₀, P, K, f => by
    obtain rfl := V.inv_nil
    exact wpAny_pure (f _ _ _ _ R P K x)
  | t :: ts, p :: ps, vs, m, H, Q, h, tk, x, R, V, Q', h₀, H₀, P, K, f => by
    obtain ⟨v, ws, rfl, V1, V2⟩ := V.inv_cons
    show wpAny _ _ (holding ws (assign t X.env v) >>= fun w9 => assignInOrder (ts.map fun t => assign t X.env) ws) _ _ _
    refine wpAny_bind (wpAny_holding (AT.run x R V1 P K fun h1 tk1 m1 H1 R1 P1 P1' K1 q1 => ?_))
    exact ATs.run q1 R1 (V2.mono P1) P1' K1 f
  | [], _ :: _, _, _, _, _, _, _, x, _, _, _, _, _, _, _, _ => x.elim
  | _ :: _, [], _, _, _, _, _, _, x, _, _, _, _, _, _, _, _ => x.elim

theorem Rel.unpack {t : Addr} {vs : List Value} {n : Nat} {Q' : List Value → Shared → Prop} {E' : Value → Shared → Prop} (R : Rel X m H h) (ht : IsTup h t vs.toArray) (hn : n = vs.length)
    (q : ∀ h', Rel X m H h' → Pers h h' → Q' vs (X.G.S h' tk)) : wpAny X.M X.A (unpackItems (.ref t) n none) Q' E' (X.G.S h tk) := by
  subst hn
  have := unpack_any (prog := X.G.prog) (w := X.G.w) (A := X.A) (E := E') (s := X.G.S h tk) (Q := Q') (HandIs.of R) ht fun h' x => ?_
  · rw [List.size_toArray] at this; exact this
  · have k : ∀ b o, h.get? b = some o → h'.get? b = some o := fun b o e => x b o (Nat.ne_of_lt (Heap.lt_size e)) e
    exact q h' (R.keeps k) (Pers.of_keeps k)

theorem AT.tuple {ts : List Expr} {k pos} {ps : List PV} {Q : Loc → AH → Prop} (hn : ts.length = ps.length) (x : ATs X ts ps m H Q E) (hp : ts.all plainArg = true := by rfl) : AT X (.Tuple ts k pos) (.tup ps) m H Q E := fun h tk v R V => by
  obtain ⟨a, vs, rfl, ht, V2⟩ := V.inv_tup
  show wpAny _ _ _ _ _ _
  rw [assign_Tuple]
  refine wpAny_bind (wpAny_standAt ?_)
  unfold unpack
  rw [assignEach_plain hp]
  have e1 : (ts.map fun t => (false, assign t X.env)).findIdx? (·.1) = none := by
    rw [List.findIdx?_eq_none_iff]; intro z hz
    obtain ⟨t, _, rfl⟩ := List.mem_map.mp hz
    rfl
  rw [e1, List.length_map]
  refine wpAny_bind (wpAny_holding (Rel.unpack R ht (hn.trans V2.length.symm) fun h' R' P => ?_))
  rw [List.map_map]
  exact ATs.run x R' (V2.mono P) P (.refl _) fun h1 tk1 m1 H1 R1 P1 K1 q => OKP.unit R1 P1 K1 q

/-! attributes and items -/
inductive PutAttrR (X : FX) (name : Str) (p po : PV) (H : AH) (Q : AH → Prop) : Prop
  | mk (a C dx : Addr) (fs : List (Str × PV)) (h1 : po = .ref a) (h2 : H a = some (.inst C dx)) (h3 : H dx = some (.attrs fs)) (h4 : clsOk X.G.K C = true) (h5 : fieldOk X.G.K C name = true) (h6 : fs.length ≤ 100) (q : Q (upd H dx (.attrs (putF fs name p))))
theorem AT.attr {o : Expr} {name : Str} {pos : Pos} {p : PV} {Q : Loc → AH → Prop} (GG : X.G.Ok) (x : EV X o m H (fun po m1 H1 => PutAttrR X name p po H1 fun H2 => Q m1 H2) E) : AT X (.Attribute o name pos) p m H Q E := fun h tk v R V => by
  refine assign_Attribute (x.run R (.refl _) (.refl _) fun h1 tk1 w po m1 H1 R1 P1 P1' K1 V1 q1 => ?_)
  obtain ⟨a, C, dx, fs, rfl, ha, hd, hc, hn, hz, q⟩ := q1
  obtain rfl := V1.inv_ref
  exact setAttr_field GG R1 ha hd hc hn (V.mono P1) hz fun h' tk' R' K' P' => OKP.unit R' (P1.trans P') (K1.trans K') q

noncomputable def putI : List (Int × PV) → Int → PV → List (Int × PV) := fun es k p =>
  if es.any (fun kv => kv.1 = k) then es.map (fun kv => if kv.1 = k then (kv.1, p) else kv) else es ++ [(k, p)]
set_option tactic.hygienic true in
theorem putI_stored {h : Heap} {xs : List (Int × Value)} {es : List (Int × PV)} {k : Int} {v : Value} {p : PV} (e : xs.map (·.1) = es.map (·.1)) (r : VRs h (xs.map (·.2)) (es.map (·.2))) (V : VR h v p) :
    (stored xs k v).map (·.1) = (putI es k p).map (·.1) ∧ VRs h ((stored xs k v).map (·.2)) ((putI es k p).map (·.2)) := by
  have ea : xs.any (fun kv => kv.1 = k) = es.any (fun kv => kv.1 = k) := by
    have : ∀ (l : List (Int × Value)) (l' : List (Int × PV)), l.map (·.1) = l'.map (·.1) → l.any (fun kv => decide (kv.1 = k)) = l'.any (fun kv => decide (kv.1 = k)) := by
      intro l l' q
      have h1 : l.any (fun kv => decide (kv.1 = k)) = (l.map (·.1)).any (fun z => decide (z = k)) := by rw [List.any_map]; rfl
      have h2 : l'.any (fun kv => decide (kv.1 = k)) = (l'.map (·.1)).any (fun z => decide (z = k)) := by rw [List.any_map]; rfl
      rw [h1, h2, q]
    exact this xs es e
  unfold stored putI
  rw [ea]
  split
  · rename_i hh
    clear hh ea
    induction xs generalizing es with
    | nil => cases es with
      | nil => simp [VRs]
      | cons => simp at e
    | cons x xs ih => cases es with
      | nil => simp at e
      | cons y es =>
        obtain ⟨a, b⟩ := x
        obtain ⟨a', b'⟩ := y
        simp only [List.map_cons, List.cons.injEq] at e
        obtain ⟨rfl, e⟩ := e
        obtain ⟨i1, i2⟩ := ih (es := es) e r.tail
        by_cases z : a = k
        · subst z; simp only [List.map_cons, if_true]; exact ⟨by rw [i1], VRs.cons V i2⟩
        · simp only [List.map_cons, z, if_false]; exact ⟨by rw [i1], VRs.cons r.head i2⟩
  · rw [List.map_append, List.map_append, List.map_append, List.map_append]
    exact ⟨by rw [e]; rfl, VRs.append r (VRs.cons V VRs.nil)⟩

theorem setItem_L {prog : Program} {w : World} {A : Around} {E' : Value → Shared → Prop} {s : Shared} {l : Addr} {items : Array Value} {n : Nat} {k : Int} {t : Tok} {v : Value} {Q : Unit → Shared → Prop} (hl : IsL s.heap l items n)
    (h0 : 0 ≤ k) (hfit : k < 2 ^ 63) (hn : k < items.size)
    (hQ : ∀ h' n', IsL h' l (items.setIfInBounds k.toNat v) n' → Heap.SameBut l s.heap h' → Q () { s with heap := h' }) :
    wpAny (model prog w) A (setItem (.ref l) (.int k t) v) Q E' s := by
  have hL := hl.isList
  obtain ⟨o, ho, hc, ne, hd⟩ := id hL
  unfold setItem
  try with_reducible refine wpAny_holding ?_
  refine wpAny_bind (wpAny_sequenceKey hL.typeIs (by decide) ?_)
  refine wpAny_bind (wpAny_callSpecial?_slot (name := Str.ofString "__setitem__") hL.typeIs slot_list_setitem
    (wpAny_call_entry slot_list_setitem hL.typeIs entry_list_setitem ?_ (args_list_setitem _ _ _)))
  show wpAny _ _ (Builtin.List.listSubscript? (.int k t) >>= _) _ _ s
  refine wpAny_bind (wpAny_listSubscript_int (fitsIndex_of h0 hfit) ?_)
  clear hfit
  obtain ⟨j, rfl⟩ := Int.eq_ofNat_of_zero_le h0
  have hj : j < items.size := by omega
  have hx' : items[j]? = some items[j] := Array.getElem?_eq_getElem hj
  show wpAny _ _ ((seqItemAt l j >>= fun r => pure (r.map (j, ·))) >>= _) _ _ s
  refine wpAny_bind (wpAny_bind (wpAny_seqItemAt ho hd (wpAny_pure ?_)))
  rw [hx']
  show wpAny _ _ (setSeqItemAt l j v >>= _) _ _ s
  have hfin := hl.update (·.setIfInBounds j v)
  refine wpAny_bind (wpAny_setSeqItemAt ho hd ?_)
  first
    | exact wpAny_bind (wpAny_pure (wpAny_pure ⟨.none, rfl, wpAny_pure (hQ _ _ hfin (Heap.SameBut.update ..))⟩))
    | exact wpAny_pure ⟨.none, rfl, wpAny_pure (hQ _ _ hfin (Heap.SameBut.update ..))⟩

theorem VRs.set {h : Heap} {v : Value} {p : PV} (V : VR h v p) : ∀ {vs : List Value} {ps : List PV} (j : Nat), VRs h vs ps → VRs h (vs.set j v) (ps.set j p)
  | [], [], _, _ => by simp [VRs]
  | _ :: _, _ :: _, 0, r => VRs.cons V r.tail
  | _ :: _, _ :: _, j + 1, r => VRs.cons r.head (VRs.set V j r.tail)
  | [], _ :: _, _, r => by simp [VRs] at r
  | _ :: _, [], _, r => by simp [VRs] at r

/-- what a store at an item makes -/
inductive PutD (d : Addr) (k : Int) (p : PV) (H : AH) (Q : AH → Prop) : Prop
  | mk (es : List (Int × PV)) (ep : Nat) (h1 : H d = some (.dict es ep)) (h2 : (es.map (·.1)).Nodup → es.length ≤ sizeLine) (q : ∀ ep', Q (upd H d (.dict (putI es k p) ep')))
inductive PutL (d : Addr) (k : Int) (p : PV) (H : AH) (Q : AH → Prop) : Prop
  | mk (ps : List PV) (j : Nat) (h1 : H d = some (.list ps)) (h2 : k = j) (h3 : j < ps.length) (h4 : ps.length ≤ sizeLine) (q : Q (upd H d (.list (ps.set j p))))
noncomputable def putR (po pi p : PV) (H : AH) (Q : AH → Prop) : Prop :=
  match po, pi with
  | .ref d, .int k => PutD d k p H Q ∨ PutL d k p H Q
  | _, _ => False

set_option tactic.hygienic true in
theorem putR.run {po pi p : PV} {ov iv v : Value} {Q : AH → Prop} {Q' : Unit → Shared → Prop} {E' : Value → Shared → Prop} (R : Rel X m H h) (Vo : VR h ov po) (Vi : VR h iv pi) (V : VR h v p) (x : putR po pi p H Q)
    (f : ∀ h' tk' H', Rel X m H' h' → Pers h h' → KeepH H H' → Q H' → Q' () (X.G.S h' tk')) : wpAny X.M X.A (setItem ov iv v) Q' E' (X.G.S h tk) := by
  unfold putR at x
  split at x
  · rename_i d k
    obtain rfl := Vo.inv_ref
    obtain ⟨t, rfl⟩ := Vi.inv_int
    rcases x with ⟨es, ep, hd, hz, q⟩ | ⟨ps, j, hl, rfl, hj, hz, q⟩
    · obtain ⟨⟨xs, d1, d2, d3⟩, n, fe⟩ := R.at hd
      refine wpAny_setItem_pairs (knd := intKind X.G.prog X.G.w) (intKind_is _ _ _ t) d1.dictOf (fun h' hm hs => ?_) (by
        have : xs.length = es.length := by have := congrArg List.length d2; simpa using this
        rw [this]; exact hz (d2 ▸ d1.nodup))
      obtain ⟨ep', hm'⟩ := hm.dictAt
      obtain ⟨e1, e2⟩ := putI_stored (k := k) d2 d3 V
      obtain ⟨R2, K2, P2⟩ := R.set (o := .dict (putI es k p) ep') hs.extBut hd rfl fun P => ⟨_, hm', e1, e2.mono P⟩
      exact f _ _ _ R2 P2 K2 (q ep')
    · obtain ⟨⟨vs, n, l1, v1⟩, _⟩ := R.at hl
      refine setItem_L l1 (by omega) (by rw [sizeLine_eq] at hz; omega) (by rw [List.size_toArray, v1.length]; omega) fun h' n' hl' hs => ?_
      rw [List.setIfInBounds_toArray, Int.toNat_natCast] at hl'
      obtain ⟨R2, K2, P2⟩ := R.set (o := .list (ps.set j p)) hs.extBut hl rfl fun P => ⟨_, n', hl', (VRs.set V j v1).mono P⟩
      exact f _ _ _ R2 P2 K2 q
  · exact x.elim

theorem E1.assignSub {o i : Expr} {pos' pos : Pos} {value : Expr} {Q : PF → Loc → AH → Prop} (x : EV X value m H (fun p m1 H1 => EV X o m1 H1 (fun po m2 H2 => EV X i m2 H2 (fun pi m3 H3 => putR po pi p H3 (fun H4 => Q .next m3 H4)) E) E) E)
    (hs : swapsWith value (some (.Subscript o i pos')) pos.line X.env = pure false := by rfl) : E1 X (.Assign [.Subscript o i pos'] value pos) m H Q E := fun h tk R => by
  refine wpAny_Assign_Subscript (x.run R (.refl _) (.refl _) fun h1 tk1 v p m1 H1 R1 P1 P1' K1 V1 q1 => ?_) hs
  refine q1.run R1 P1' K1 fun h2 tk2 ov po m2 H2 R2 P2 P2' K2 V2 q2 => ?_
  refine q2.run R2 P2' K2 fun h3 tk3 iv pi m3 H3 R3 P3 P3' K3 V3 q3 => ?_
  exact putR.run R3 (V2.mono P3) V3 ((V1.mono P2).mono P3) q3 fun h' tk' H' R' P' K' q => OKP.at (Q := fun h' f m' H' => ∃ p, FR h' f p ∧ Q p m' H') R' (P3'.trans P') (K3.trans K') ⟨.next, trivial, q⟩

/-! ## Statements -/
theorem E1.assign {t value : Expr} {pos : Pos} {Q : PF → Loc → AH → Prop} (x : EV X value m H (fun p m1 H1 => AT X t p m1 H1 (fun m2 H2 => Q .next m2 H2) E) E)
    (h1 : swapsWithSole [t] value pos.line X.env = pure false := by rfl) (h2 : swappedStores [t] value X.env = pure none := by rfl) (hs : (assignEach [t] X.env).map (·.2) = [assign t X.env] := by rfl) : E1 X (.Assign [t] value pos) m H Q E := fun h tk R => by
  refine exec_Assign1 h1 h2 (x.run R (.refl _) (.refl _) fun h1 tk1 v p m1 H1 R1 P1 P1' K1 V1 q1 => ?_) hs
  exact AT.run q1 R1 V1 P1' K1 fun h2 tk2 m2 H2 R2 P2 P2' K2 q2 => OKP.at (Q := fun h' f m' H' => ∃ p, FR h' f p ∧ Q p m' H') R2 P2' K2 ⟨.next, trivial, q2⟩

/-- a display of two values for two names: the stores come the other way round -/
noncomputable def putsRev (names : List Str) (ps : List PV) (m : Loc) : Loc := (names.zip ps) ++ m
inductive Tup2R (p : PV) (Q : PV → PV → Prop) : Prop
  | mk (p1 p2 : PV) (h : p = .tup [p1, p2]) (q : Q p1 p2)
theorem E1.assignTup2 {t1 t2 value : Expr} {x1 x2 : Str} {k tpos pos} {Q : PF → Loc → AH → Prop} (O : X.Ok) (l1 : X.env.kindOf x1 = some .local) (l2 : X.env.kindOf x2 = some .local)
    (x : EV X value m H (fun p m1 H1 => Tup2R p fun p1 p2 => Q .next ((x1, p1) :: (x2, p2) :: m1) H1) E)
    (hs : swapsWithSole [.Tuple [t1, t2] k tpos] value pos.line X.env = pure false := by rfl) (hw : swappedStores [.Tuple [t1, t2] k tpos] value X.env = pure (some [x1, x2]) := by rfl) :
    E1 X (.Assign [.Tuple [t1, t2] k tpos] value pos) m H Q E := fun h tk R => by
  refine Assign_Tuple_swapped (names := [x1, x2]) (x.run R (.refl _) (.refl _) fun h1 tk1 v p m1 H1 R1 P1 P1' K1 V1 q1 => ?_) hs hw
  obtain ⟨p1, p2, rfl, q⟩ := q1
  obtain ⟨a, vs, rfl, ht, V2⟩ := V1.inv_tup
  obtain ⟨v1, ws, rfl, W1, V3⟩ := V2.inv_cons
  obtain ⟨v2, ws2, rfl, W2, V4⟩ := V3.inv_cons
  obtain rfl := V4.inv_nil
  refine Rel.unpack R1 ht rfl fun h2 R2 P2 => ?_
  show wpAny _ _ (holding [v1] (bindName X.env x2 v2) >>= fun w9 => holding [] (bindName X.env x1 v1) >>= fun w9 => pure ()) _ _ _
  refine wpAny_bind (wpAny_holding (wpAny_bindName (store_local O R2 l2 (W2.mono P2) fun h3 tk3 R3 P3 => ?_)))
  refine wpAny_bind (wpAny_holding (wpAny_bindName (store_local O R3 l1 ((W1.mono P2).mono P3) fun h4 tk4 R4 P4 => ?_)))
  exact wpAny_pure (OKP.at (Q := fun h' f m' H' => ∃ p, FR h' f p ∧ Q p m' H') R4 (((P1'.trans P2).trans P3).trans P4) K1 ⟨.next, trivial, q⟩)

theorem EX.nil {Q : PF → Loc → AH → Prop} (q : Q .next m H) : EX X [] m H Q E := fun h tk R => wpAny_execs_nil (OKP.at (Q := fun h' f m' H' => ∃ p, FR h' f p ∧ Q p m' H') R (.refl _) (.refl _) ⟨.next, trivial, q⟩)
theorem EX.cons {st : Stmt} {rest : List Stmt} {Q : PF → Loc → AH → Prop} (x : E1 X st m H (fun f m1 H1 => (f = .next → EX X rest m1 H1 Q E) ∧ (f ≠ .next → Q f m1 H1)) E) : EX X (st :: rest) m H Q E := fun h tk R => by
  refine wpAny_execs_cons (wpAny_mono (x h tk R) (fun f s' hs => ?_) fun _ _ z => z)
  obtain ⟨h', tk', m', H', rfl, R', P', K', p, F, q⟩ := hs
  cases f with
  | next =>
    cases p with
    | next => exact (q.1 rfl).run R' P' K' fun h1 tk1 fl p m1 H1 R1 P1 P1' K1 F1 q1 => OKP.at (Q := fun h' f m' H' => ∃ p, FR h' f p ∧ Q p m' H') R1 P1' K1 ⟨p, F1, q1⟩
    | brk => exact F.elim
    | cont => exact F.elim
    | ret p => exact F.elim
  | brk => cases p with
    | brk => exact OKP.at (Q := fun h' f m' H' => ∃ p, FR h' f p ∧ Q p m' H') R' P' K' ⟨_, F, q.2 (fun z => by cases z)⟩
    | next => exact F.elim
    | cont => exact F.elim
    | ret p => exact F.elim
  | cont => cases p with
    | cont => exact OKP.at (Q := fun h' f m' H' => ∃ p, FR h' f p ∧ Q p m' H') R' P' K' ⟨_, F, q.2 (fun z => by cases z)⟩
    | next => exact F.elim
    | brk => exact F.elim
    | ret p => exact F.elim
  | ret v => cases p with
    | ret p => exact OKP.at (Q := fun h' f m' H' => ∃ p, FR h' f p ∧ Q p m' H') R' P' K' ⟨_, F, q.2 (fun z => by cases z)⟩
    | next => exact F.elim
    | brk => exact F.elim
    | cont => exact F.elim
/-- a statement behind which it always goes on -/
theorem EX.next {st : Stmt} {rest : List Stmt} {Q : PF → Loc → AH → Prop} (x : E1 X st m H (fun f m1 H1 => f = .next ∧ EX X rest m1 H1 Q E) E) : EX X (st :: rest) m H Q E :=
  EX.cons fun h tk R => (x h tk R).mono fun h' a m' H' _ _ _ ⟨p, F, e, q⟩ => ⟨p, F, fun w9 => q, fun z => absurd e z⟩
theorem E1.mono {st : Stmt} {Q Q' : PF → Loc → AH → Prop} (x : E1 X st m H Q E) (f : ∀ p m' H', Q p m' H' → Q' p m' H') : E1 X st m H Q' E := fun h tk R => (x h tk R).mono fun h' a m' H' _ _ _ ⟨p, v, q⟩ => ⟨p, v, f _ _ _ q⟩

theorem E1.ret {pos} {Q : PF → Loc → AH → Prop} (x : EV X e m H (fun p m1 H1 => Q (.ret p) m1 H1) E) : E1 X (.Return (some e) pos) m H Q E := fun h tk R =>
  wpAny_Return_some (x.run R (.refl _) (.refl _) fun h1 tk1 v p m1 H1 R1 P1 P1' K1 V1 q1 => OKP.at (Q := fun h' f m' H' => ∃ p, FR h' f p ∧ Q p m' H') R1 P1' K1 ⟨.ret p, V1, q1⟩)
theorem E1.expr {pos} {Q : PF → Loc → AH → Prop} (O : X.Ok) (x : EV X e m H (fun p m1 H1 => Q .next m1 H1) E) (hs : swapsWith e none pos.line X.env = pure false := by rfl) : E1 X (.Expr e pos) m H Q E := fun h tk R =>
  wpAny_Expr_any (x.run R (.refl _) (.refl _) fun h1 tk1 v p m1 H1 R1 P1 P1' K1 V1 q1 => OKP.at (Q := fun h' f m' H' => ∃ p, FR h' f p ∧ Q p m' H') R1 P1' K1 ⟨.next, trivial, q1⟩) (by unfold interactive; rw [O.kind]; rfl) hs
theorem E1.cont {pos} {Q : PF → Loc → AH → Prop} (q : Q .cont m H) : E1 X (.Continue pos) m H Q E := fun h tk R => wpAny_Continue (OKP.at (Q := fun h' f m' H' => ∃ p, FR h' f p ∧ Q p m' H') R (.refl _) (.refl _) ⟨.cont, trivial, q⟩)
theorem E1.ite {test : Expr} {body orelse : List Stmt} {pos} {Q : PF → Loc → AH → Prop} (x : ET X test m H (fun b m1 H1 => (b = true → EX X body m1 H1 Q E) ∧ (b = false → EX X orelse m1 H1 Q E)) E) : E1 X (.If test body orelse pos) m H Q E := fun h tk R => by
  refine wpAny_If (x.run R (.refl _) (.refl _) fun h1 tk1 b m1 H1 R1 P1 P1' K1 q1 => ?_)
  cases b with
  | true => exact (q1.1 rfl).run R1 P1' K1 fun h1 tk1 fl p m1 H1 R1 P1 P1' K1 F1 q1 => OKP.at (Q := fun h' f m' H' => ∃ p, FR h' f p ∧ Q p m' H') R1 P1' K1 ⟨p, F1, q1⟩
  | false => exact (q1.2 rfl).run R1 P1' K1 fun h1 tk1 fl p m1 H1 R1 P1 P1' K1 F1 q1 => OKP.at (Q := fun h' f m' H' => ∃ p, FR h' f p ∧ Q p m' H') R1 P1' K1 ⟨p, F1, q1⟩
end
end Mine

namespace Mine

section
variable {X : FX} {e l r : Expr} {m : Loc} {H : AH} {E : Loc → AH → Prop} {h : Heap} {tk : Nat}

/-! ## An exception that leaves a loop's own code -/
theorem came_back {v : Value} {s' : Shared} {h₀ : Heap} {H₀ : AH} (O : X.Ok) (x : ERP X h₀ H₀ E v s') : notedBy X.M X.A X.env (fun e s'' => cameBackBy X.M X.A X.env (ERP X h₀ H₀ E) e s'') v s' := by
  obtain ⟨h', tk', m', H', e, rfl, R, P, K, rfl, F, q⟩ := x
  obtain ⟨_, L, u, mm, hL, _⟩ := R.fr X.top (.head _)
  have hf : X.env.frame = some L := O.frame.trans hL
  unfold notedBy
  refine note_X O R hf F fun h1 R1 P1 t1 => ?_
  have t1' := t1
  obtain ⟨hb, hH, oe, vs, a0, he, hc, hd, h0, h2, T, oT, ts, h1', hTe, hTb, hTH, hT, hTd, h3⟩ := t1'
  unfold cameBackBy
  refine wpAny_bind (wpAny_field he hd h1' ?_)
  rw [if_neg (show ¬ ((Value.ref T == Value.none) = true) from Bool.false_ne_true), hf]
  exact flight_X (fr := some L) R1 t1 fun h2 R2 P2 t2 => ⟨h2, tk', m', H', e, rfl, R2, (P.trans P1).trans P2, K, rfl, t2.x, q⟩

/-! ## while -/
noncomputable def after (Q : PF → Loc → AH → Prop) (go : Loc → AH → Prop) : PF → Loc → AH → Prop := fun f m H => match f with
  | .next => go m H
  | .cont => go m H
  | .brk => Q .next m H
  | .ret p => Q (.ret p) m H

/-- any post of a turn, and what leads to it -/
structure Ups (Q : PF → Loc → AH → Prop) (Go : Loc → AH → Prop) (R : PF → Loc → AH → Prop) : Prop where
  nx : ∀ {m H}, Go m H → R .next m H
  ct : ∀ {m H}, Go m H → R .cont m H
  bk : ∀ {m H}, Q .next m H → R .brk m H
  rt : ∀ {p m H}, Q (.ret p) m H → R (.ret p) m H
theorem Ups.after {Q : PF → Loc → AH → Prop} {Go : Loc → AH → Prop} : Ups Q Go (Mine.after Q Go) := ⟨id, id, id, id⟩
theorem after_ok {Q : PF → Loc → AH → Prop} {go : Loc → AH → Prop} {fl : Flow} {p : PF} {m : Loc} {H : AH} {h : Heap} (F : FR h fl p) (q : after Q go p m H) : match fl with
    | .next => go m H
    | .cont => go m H
    | .brk => Q .next m H
    | .ret v => ∃ p, VR h v p ∧ Q (.ret p) m H := by
  cases fl <;> cases p <;> first | exact q | exact F.elim | exact ⟨_, F, q⟩

inductive WhI (X : FX) (h : Heap) (H : AH) (I : Nat → Loc → AH → Prop) (n : Nat) (s' : Shared) : Prop
  | mk (h' : Heap) (tk' : Nat) (m' : Loc) (H' : AH) (e : s' = X.G.S h' tk') (r : Rel X m' H' h') (p : Pers h h') (k : KeepH H H') (i : I n m' H')
theorem WhI.elim {X : FX} {h : Heap} {H : AH} {I : Nat → Loc → AH → Prop} {Go : Nat → Shared → Prop} (f : ∀ n h' tk' m' H', Rel X m' H' h' → Pers h h' → KeepH H H' → I n m' H' → Go n (X.G.S h' tk')) (n : Nat) (s' : Shared) (x : WhI X h H I n s') : Go n s' := by
  obtain ⟨h', tk', m', H', rfl, r, p, k, i⟩ := x
  exact f n h' tk' m' H' r p k i
theorem E1.while_ {test : Expr} {body : List Stmt} {pos} {Q : PF → Loc → AH → Prop} (O : X.Ok) (I : Nat → Loc → AH → Prop) (n : Nat) (h0 : I n m H)
    (turn : ∀ n m H R, Ups Q (fun m2 H2 => ∃ k, k < n ∧ I k m2 H2) R → I n m H → ET X test m H (fun b m1 H1 => (b = true → EX X body m1 H1 R E) ∧ (b = false → R .brk m1 H1)) E) : E1 X (.While test body [] pos) m H Q E := fun h tk R => by
  refine wpAny_While ?_
  refine codeAny_whileLoop (A := X.A) (I := WhI X h H I) (WhI.elim fun n h1 tk1 m1 H1 R1 P1 K1 i1 => ?_) n ⟨h, tk, m, H, rfl, R, .refl _, .refl _, h0⟩
  have step : ET X test m1 H1 (fun b m1 H1 => (b = true → EX X body m1 H1 (after Q fun m2 H2 => ∃ k, k < n ∧ I k m2 H2) E) ∧ (b = false → Q .next m1 H1)) E := turn n m1 H1 _ .after i1
  refine wpAny_mono (step.run R1 P1 K1 fun h2 tk2 b m2 H2 R2 P2 P2' K2 q => (?_ : _)) (fun b s hs => hs) fun v s' hv => came_back O hv
  cases b with
  | false => exact wpAny_execs_nil (OKP.at (Q := fun h' f m' H' => ∃ p, FR h' f p ∧ Q p m' H') R2 P2' K2 ⟨.next, trivial, q.2 rfl⟩)
  | true =>
    refine wpAny_mono ((q.1 rfl).run R2 P2' K2 fun h3 tk3 fl p m3 H3 R3 P3 P3' K3 F3 q3 => (?_ : _)) (fun b s hs => hs) fun v s' hv => came_back O hv
    have := after_ok F3 q3
    cases fl with
    | next => obtain ⟨k, hk, i⟩ := this; exact ⟨k, hk, h3, tk3, m3, H3, rfl, R3, P3', K3, i⟩
    | cont => obtain ⟨k, hk, i⟩ := this; exact ⟨k, hk, h3, tk3, m3, H3, rfl, R3, P3', K3, i⟩
    | brk => exact OKP.at (Q := fun h' f m' H' => ∃ p, FR h' f p ∧ Q p m' H') R3 P3' K3 ⟨.next, trivial, this⟩
    | ret v => obtain ⟨p, V, q⟩ := this; exact OKP.at (Q := fun h' f m' H' => ∃ p, FR h' f p ∧ Q p m' H') R3 P3' K3 ⟨.ret p, V, q⟩

/-- fewer locals are told -/
theorem Rel.weaken {m' : Loc} (R : Rel X m H h) (f : ∀ x p, m'.lookup x = some p → m.lookup x = some p) : Rel X m' H h := by
  refine R.mk' ?_ (.refl _) R.l
  have e : upd (X.full m H) X.env.locals (.frame X.uniq m') = X.full m' H := by
    funext b
    by_cases z : b = X.env.locals
    · subst z; rw [upd_self, FX.full_self]
    · rw [upd_ne z]; unfold FX.full; rw [if_neg z, if_neg z]
  rw [← e]
  refine ⟨R.r.stays, fun a o q => ?_, fun a o q => ?_, R.r.glob⟩
  · by_cases z : a = X.env.locals
    · subst z; rw [upd_self] at q; cases q
      obtain ⟨mm, a1, u1, a2⟩ := R.r.real X.env.locals _ FX.full_self
      exact ⟨mm, a1, u1, fun x p hp => a2 x p (f x p hp)⟩
    · rw [upd_ne z] at q; exact R.r.real a o q
  · by_cases z : a = X.env.locals
    · subst z; rw [upd_self] at q; cases q
      have := R.r.fresh X.env.locals _ (FX.full_self (m := m) (H := H))
      exact ⟨this.1, this.2.imp id fun ⟨_, z⟩ => by cases z⟩
    · rw [upd_ne z] at q; exact R.r.fresh a o q

/-! ## Iterators -/
noncomputable def srcIn : Option (Addr × AO) → AH → Prop
  | none, _ => True
  | some (a, ao), H => H a = some ao

structure Iter (G : GS) (nn : Bool) (it : Addr) (ps : List PV) (src : Option (Addr × AO)) (St : Nat → Obj → Prop) : Prop where
  cls : ∀ i o, St i o → ∃ n vs, o.cls = .type n ∧ n ≠ "tuple" ∧ (["enumerate", "zip", "dict_itemiterator", "dict_reverseitemiterator", "odict_iterator", "itertools.zip_longest", "itertools.pairwise"].contains n = false) ∧ o.data = .fields vs
  item : ∀ (i : Nat) (p : PV) (A : Around) (h : Heap) (tk : Nat) (o : Obj) (H : AH) (Q : Option Value → Shared → Prop) (E' : Value → Shared → Prop), ps[i]? = some p → RelH G H h → srcIn src H → h.get? it = some o → St i o → H it = some (.raw o) →
    (∀ h' tk' o' v, Heap.ExtBut it h h' → h'.get? it = some o' → St (i + 1) o' → VR h' v p → Q (some v) (G.S h' tk')) → wpAny G.M A (pyNext (.ref it)) Q E' (G.S h tk)
  done : ∀ (i : Nat) (A : Around) (h : Heap) (tk : Nat) (o : Obj) (H : AH) (Q : Option Value → Shared → Prop) (E' : Value → Shared → Prop), ps[i]? = none → HandIs h A.handled → (nn = true → A.handled = none) → (∀ e, A.handled = some (.ref e) → e ≠ it) →
    RelH G H h → srcIn src H → h.get? it = some o → St i o → H it = some (.raw o) → (∀ h' tk', Heap.ExtBut it h h' → Q none (G.S h' tk')) → wpAny G.M A (pyNext (.ref it)) Q E' (G.S h tk)
  self : ∀ (i : Nat) (A : Around) (h : Heap) (tk : Nat) (o : Obj) (Q : Value → Shared → Prop) (E' : Value → Shared → Prop), h.get? it = some o → St i o → Q (.ref it) (G.S h tk) → wpAny G.M A (pyIter (.ref it)) Q E' (G.S h tk)

noncomputable def IterOf (X : FX) (p : PV) (H : AH) (ps : List PV) (src : Option (Addr × AO)) : Prop :=
  ∀ (m : Loc) (h : Heap) (tk : Nat) (v : Value) (Q : Value → Shared → Prop) (E' : Value → Shared → Prop), Rel X m H h → VR h v p →
    (∀ it h' tk' o St, (∀ b ob, h.get? b = some ob → h'.get? b = some ob) → h.objs.size ≤ it → h'.get? it = some o → St 0 o → Iter X.G X.hn it ps src St → Q (.ref it) (X.G.S h' tk')) → wpAny X.M X.A (pyIter v) Q E' (X.G.S h tk)

noncomputable def FX.hide (X : FX) (it : Addr) (o : Obj) : FX := { X with hid := (it, .raw o) :: X.hid }

theorem own_hide {it a : Addr} {o : Obj} : (X.hide it o).Own a ↔ a = it ∨ X.Own a := by
  show (a = X.env.locals ∨ ∃ o', List.lookup a ((it, AO.raw o) :: X.hid) = some o') ↔ _
  rw [List.lookup_cons]
  by_cases z : a = it
  · subst z; simp
  · have z' : (a == it) = false := by simpa using z
    simp only [z', z, false_or]; rfl
theorem full_hide {it : Addr} {o : Obj} (n : ¬ X.Own it) : (X.hide it o).full m H = upd (X.full m H) it (.raw o) := by
  funext a
  by_cases z : a = it
  · subst z
    rw [upd_self]
    show (if a = X.env.locals then _ else match List.lookup a ((a, AO.raw o) :: X.hid) with | some o => some o | none => H a) = _
    rw [if_neg fun q => n (.inl q), List.lookup_cons]
    simp
  · rw [upd_ne z]
    have z' : (a == it) = false := by simpa using z
    show (if a = X.env.locals then _ else match List.lookup a ((it, AO.raw o) :: X.hid) with | some o => some o | none => H a) = _
    rw [List.lookup_cons, z']
    rfl
theorem FX.Ok.hide {it : Addr} {o : Obj} (O : X.Ok) : (X.hide it o).Ok := ⟨O.kind, O.globals, O.builtins, O.stack, O.frame, O.depth, O.units, O.hand, fun a ao q => by
  have q : List.lookup a ((it, AO.raw o) :: X.hid) = some ao := q
  rw [List.lookup_cons] at q
  split at q
  · cases q; rfl
  · exact O.hfix _ _ q⟩
theorem Rel.hide {it : Addr} {o : Obj} {h' : Heap} (R : Rel X m H h) (k : ∀ b ob, h.get? b = some ob → h'.get? b = some ob) (hn : h.objs.size ≤ it) (r : Real X.G h' it (.raw o)) : Rel (X.hide it o) m H h' := by
  obtain ⟨e, n⟩ := R.none_of_get (get_none_of_ge hn)
  have ef : X.full m H it = none := by rw [FX.full_at n]; exact e
  have kk : KeepH (X.full m H) (upd (X.full m H) it (.raw o)) := .upd_new ef
  refine ⟨by rw [full_hide n]; exact R.r.new k hn r, fun a na => ?_, ?_, ?_⟩
  · rcases own_hide.mp na with rfl | na
    · exact e
    · exact R.l a na
  · rw [full_hide n]; exact R.fr.keep kk
  · rw [full_hide n]; exact R.hd.keep kk

theorem hide_ne {it : Addr} (R : Rel X m H h) (n : X.full m H it = none) : ∀ e, X.A.handled = some (.ref e) → e ≠ it := fun e he q => by
  rcases R.hd with z | ⟨e2, o, vs, a, b, c⟩
  · rw [z] at he; cases he
  · rw [he] at a; cases a; rw [q, n] at b; cases b

theorem Rel.advance {it : Addr} {o o' : Obj} {h' : Heap} (no : ¬ X.Own it) (hni : ∀ e, X.A.handled = some (.ref e) → e ≠ it) (R : Rel (X.hide it o) m H h) (x : Heap.ExtBut it h h') (r : Real X.G h' it (.raw o')) : Rel (X.hide it o') m H h' ∧ Pers h h' := by
  have at_it : (X.hide it o).full m H it = some (.raw o) := by rw [full_hide no, upd_self]
  obtain ⟨r2, P⟩ := R.r.set (o := .raw o') x at_it fun w9 => r
  have e2 : upd ((X.hide it o).full m H) it (.raw o') = (X.hide it o').full m H := by
    rw [full_hide no, full_hide no]; funext a; unfold upd; split <;> rfl
  have kk : ∀ a ob, a ≠ it → (X.hide it o).full m H a = some ob → (X.hide it o').full m H a = some ob := fun a ob z q => by
    rw [← e2, upd_ne z]; exact q
  refine ⟨⟨by rw [← e2]; exact r2, fun a na => R.l a (own_hide.mpr (own_hide.mp na)), fun e he => ?_, ?_⟩, P⟩
  · obtain ⟨a1, L, u, mm, a2, a3⟩ := R.fr e he
    exact ⟨a1, L, u, mm, a2, kk _ _ (fun q => by rw [q, at_it] at a3; cases a3) a3⟩
  · rcases R.hd with z | ⟨e2, o2, vs, a, b, c⟩
    · exact .inl z
    · exact .inr ⟨e2, o2, vs, a, kk _ _ (hni _ a) b, c⟩

theorem Rel.unhide {it : Addr} {o : Obj} {m' : Loc} {H' : AH} {h' : Heap} (no : ¬ X.Own it) (R0 : Rel X m H h) (K : KeepH H H') (R : Rel (X.hide it o) m' H' h') : Rel X m' H' h' := by
  have l : X.Free H' := fun a na => R.l a (own_hide.mpr (.inr na))
  refine R0.mk' (R.r.sub fun a ob q => ?_) K l
  rw [full_hide no]
  by_cases z : a = it
  · subst z
    have := R.l a (own_hide.mpr (.inl rfl))
    rw [FX.full_at no, this] at q; cases q
  · rw [upd_ne z]; exact q

theorem ERP.unhide {it : Addr} {o : Obj} {h₁ : Heap} {H₁ : AH} {v : Value} {s' : Shared} (no : ¬ X.Own it) (R0 : Rel X m H h) (P : Pers h h₁) (K : KeepH H H₁) (x : ERP (X.hide it o) h₁ H₁ E v s') : ERP X h H E v s' := by
  obtain ⟨h', tk', m', H', e, rfl, R, P', K', rfl, F, q⟩ := x
  refine ⟨h', tk', m', H', e, rfl, Rel.unhide no R0 (K.trans K') R, P.trans P', K.trans K', rfl, F.sub fun a z => ?_, q⟩
  rw [full_hide no] at z
  by_cases q : a = it
  · subst q; rw [upd_self] at z; cases z
  · rw [upd_ne q] at z; exact z

theorem letgo_plain {prog : Program} {w : World} {A : Around} {E' : Value → Shared → Prop} {s : Shared} {target : Expr} {it : Addr} {o : Obj} {v : Value} {n : String} {vs : Array Value} {Q : Unit → Shared → Prop} (ho : s.heap.get? it = some o) (hc : o.cls = .type n)
    (hn : ["enumerate", "zip", "dict_itemiterator", "dict_reverseitemiterator", "odict_iterator", "itertools.zip_longest", "itertools.pairwise"].contains n = false) (hd : o.data = .fields vs) (q : Q () s) : wpAny (model prog w) A (letOwnedTupleGo target (.ref it) v) Q E' s := by
  unfold letOwnedTupleGo
  have core : wpAny (model prog w) A (do
      let (.ref r, .ref a) := ((Value.ref it), v) | return
      let o ← load r
      match o.cls, o.data with
      | .type n, .fields vs =>
        if ["enumerate", "zip", "dict_itemiterator", "dict_reverseitemiterator", "odict_iterator", "itertools.zip_longest", "itertools.pairwise"].contains n && vs[0]? == some (rawInt a) then
          rule "for.unpacks-the-owned-tuple"
          updateField r 0 .none
      | _, _ => pure ()) Q E' s := by
    cases v with
    | ref a =>
      dsimp only
      refine wpAny_bind (wpAny_load ho ?_)
      rw [hc, hd]
      dsimp only
      rw [if_neg (by rw [hn]; simp)]
      exact wpAny_pure q
    | _ => exact wpAny_pure q
  cases target <;> first | exact wpAny_pure q | exact core

/-! ## for -/
inductive ForR (X : FX) (target : Expr) (body : List Stmt) (p : PV) (m1 : Loc) (H1 : AH) (Q : PF → Loc → AH → Prop) (E : Loc → AH → Prop) : Prop
  | mk (ps : List PV) (src : Option (Addr × AO)) (h : IterOf X p H1 ps src) (I : Nat → Loc → AH → Prop) (i0 : I 0 m1 H1) (hs : ∀ k m2 H2, I k m2 H2 → srcIn src H2)
    (turn : ∀ it o k p m2 H2 R, Ups Q (fun m4 H4 => I (k + 1) m4 H4) R → (X.hide it o).Ok → ps[k]? = some p → I k m2 H2 → AT (X.hide it o) target p m2 H2 (fun m3 H3 => EX (X.hide it o) body m3 H3 R E) E)
    (fin : ∀ m2 H2, I ps.length m2 H2 → Q .next m2 H2)
/-- what holds between the turns -/
inductive FI (X : FX) (it : Addr) (St : Nat → Obj → Prop) (N : Nat) (h h1 : Heap) (H H1 : AH) (I : Nat → Loc → AH → Prop) (n : Nat) (s' : Shared) : Prop
  | mk (k : Nat) (h' : Heap) (tk' : Nat) (m' : Loc) (H' : AH) (o : Obj) (e1 : n = N - k) (e2 : k ≤ N) (e4 : s' = X.G.S h' tk') (e5 : Rel (X.hide it o) m' H' h') (e6 : h'.get? it = some o) (e7 : St k o) (e8 : Pers h h') (e9 : KeepH H H') (e10 : KeepH H1 H') (e11 : Pers h1 h') (e12 : I k m' H')
theorem FI.elim {X : FX} {it : Addr} {St : Nat → Obj → Prop} {N : Nat} {h h1 : Heap} {H H1 : AH} {I : Nat → Loc → AH → Prop} {Go : Nat → Shared → Prop}
    (f : ∀ k h' tk' m' H' o, k ≤ N → Rel (X.hide it o) m' H' h' → h'.get? it = some o → St k o → Pers h h' → KeepH H H' → KeepH H1 H' → Pers h1 h' → I k m' H' → Go (N - k) (X.G.S h' tk')) (n : Nat) (s' : Shared) (x : FI X it St N h h1 H H1 I n s') : Go n s' := by
  obtain ⟨k, h', tk', m', H', o, rfl, e2, rfl, e5, e6, e7, e8, e9, e10, e11, e12⟩ := x
  exact f k h' tk' m' H' o e2 e5 e6 e7 e8 e9 e10 e11 e12
theorem for_done {it : Addr} {o3 : Obj} {m3 : Loc} {h3 h4 : Heap} {H3 : AH} (no : ¬ X.Own it) (R3' : Rel X m3 H3 h3) (R3 : Rel (X.hide it o3) m3 H3 h3) (raw : Real X.G h3 it (.raw o3)) (x4 : Heap.ExtBut it h3 h4) : Rel X m3 H3 h4 ∧ Pers h3 h4 := by
  have p34 : Pers h3 h4 := Pers.of_extBut x4 raw.notTup
  refine ⟨R3'.mk' ?_ (.refl _) R3'.l, p34⟩
  have at_it : (X.hide it o3).full m3 H3 it = some (.raw o3) := by rw [full_hide no, upd_self]
  have nf : X.full m3 H3 it = none := by rw [FX.full_at no]; exact R3.l it (own_hide.mpr (.inl rfl))
  have bn : X.G.base.get? it = none := (R3.r.fresh _ _ at_it).1
  refine ⟨fun b ob z => x4 b ob (fun q => by rw [q, bn] at z; cases z) (R3'.r.stays b ob z), fun b ob z => ?_, R3'.r.fresh, R3'.r.glob⟩
  exact (R3'.r.real b ob z).mono p34 fun oo ho => x4 b oo (fun q => by rw [q, nf] at z; cases z) ho
theorem E1.for_ {target iter : Expr} {body : List Stmt} {pos} {Q : PF → Loc → AH → Prop} (O : X.Ok)
    (x : EV X iter m H (fun p m1 H1 => ForR X target body p m1 H1 Q E) E)
    (hs : ∀ x, foldedSetIterable iter X.env x = pure x := by intro _; rfl) : E1 X (.For target iter body [] pos) m H Q E := fun h tk R => by
  refine wpAny_For (x.run R (.refl _) (.refl _) fun h1 tk1 v p m1 H1 R1 P1 _ K1 V1 q1 => ?_) hs
  obtain ⟨ps, src, hit, I, i0, isrc, turn, fin⟩ := q1
  refine hit m1 h1 tk1 v _ _ R1 V1 fun it h2 tk2 o St k2 hsz hio ho0 W => ?_
  obtain ⟨en, no⟩ := R1.none_of_get (get_none_of_ge hsz)
  have ef : X.full m1 H1 it = none := by rw [FX.full_at no]; exact en
  have hni := hide_ne R1 ef
  have P2 : Pers h h2 := P1.trans (Pers.of_keeps k2)
  have raw : ∀ {i o hh}, St i o → hh.get? it = some o → Real X.G hh it (.raw o) := fun s e => by
    obtain ⟨n, vs, c1, c2, c3, c4⟩ := W.cls _ _ s
    exact ⟨e, by rw [c1]; intro q; exact c2 (Value.type.inj q)⟩
  refine codeAny_forLoop_any (A := X.A) (I := FI X it St ps.length h h1 H H1 I) (FI.elim fun k h3 tk3 m3 H3 o3 hk R3 hio3 ho3 P3 K3 K13 P13 i3 => ?_) ps.length
    ⟨0, h2, tk2, m1, H1, o, rfl, Nat.zero_le _, rfl, R1.hide k2 hsz (raw ho0 hio), hio, ho0, P2, K1, .refl _, Pers.of_keeps k2, i0⟩
  have at_it : (X.hide it o3).full m3 H3 it = some (.raw o3) := by rw [full_hide no, upd_self]
  have hsrc : srcIn src ((X.hide it o3).full m3 H3) := by
    have := isrc _ _ _ i3
    cases src with
    | none => trivial
    | some s => exact (R3.at this).2.2
  cases hx : ps[k]? with
  | none =>
    refine W.done k X.A h3 tk3 o3 _ _ _ hx (HandIs.of (X := X.hide it o3) R3) O.hand hni R3.r hsrc hio3 ho3 at_it fun h4 tk4 x4 => ?_
    have hkN : k = ps.length := Nat.le_antisymm hk (List.getElem?_eq_none_iff.mp hx)
    obtain ⟨R4, p34⟩ := for_done no (Rel.unhide no R1 K13 R3) R3 (raw ho3 hio3) x4
    exact wpAny_execs_nil (OKP.at (Q := fun h' f m' H' => ∃ p, FR h' f p ∧ Q p m' H') R4 (P3.trans p34) K3 ⟨.next, trivial, fin _ _ (hkN ▸ i3)⟩)
  | some p =>
    refine W.item k p X.A h3 tk3 o3 _ _ _ hx R3.r hsrc hio3 ho3 at_it fun h4 tk4 o4 v4 x4 hio4 ho4 V4 => ?_
    obtain ⟨R4, P34⟩ := R3.advance no hni x4 (raw ho4 hio4)
    obtain ⟨n, vs, c1, c2, c3, c4⟩ := W.cls _ _ ho4
    have O4 : (X.hide it o4).Ok := O.hide
    refine letgo_plain hio4 c1 c3 c4 ?_
    have lift : ∀ v s', ERP (X.hide it o4) h4 H3 E v s' → notedBy X.M X.A X.env (fun e s'' => cameBackBy X.M X.A X.env (ERP X h H E) e s'') v s' := fun v s' hv =>
      came_back O ((hv.unhide no R1 (P13.trans P34) K13).mono (P1) K1 fun _ _ z => z)
    refine wpAny_mono (AT.run (turn it o4 k p m3 H3 _ .after O4 hx i3) R4 V4 (.refl _) (.refl _) fun h5 tk5 m5 H5 R5 P5 P5' K5 q5 => (?_ : _)) (fun _ s hs => hs) lift
    refine wpAny_mono (q5.run R5 P5' K5 fun h6 tk6 fl p6 m6 H6 R6 P6 P6' K6 F6 q6 => (?_ : _)) (fun b s hs => hs) lift
    have := after_ok F6 q6
    have hlt : k < ps.length := (List.getElem?_eq_some_iff.mp hx).1
    have K16 := K13.trans K6
    have P16 := (P13.trans P34).trans P6'
    have raw6 := R6.r.real it _ (by rw [full_hide no, upd_self])
    have R6' := Rel.unhide no R1 K16 R6
    cases fl with
    | next => exact ⟨_, Nat.sub_succ_lt_self _ _ hlt, k + 1, h6, tk6, m6, H6, o4, rfl, hlt, rfl, R6, raw6.1, ho4, P1.trans P16, K1.trans K16, K16, P16, this⟩
    | cont => exact ⟨_, Nat.sub_succ_lt_self _ _ hlt, k + 1, h6, tk6, m6, H6, o4, rfl, hlt, rfl, R6, raw6.1, ho4, P1.trans P16, K1.trans K16, K16, P16, this⟩
    | brk => exact OKP.at (Q := fun h' f m' H' => ∃ p, FR h' f p ∧ Q p m' H') R6' (P1.trans P16) (K1.trans K16) ⟨.next, trivial, this⟩
    | ret v => obtain ⟨p, V, q⟩ := this; exact OKP.at (Q := fun h' f m' H' => ∃ p, FR h' f p ∧ Q p m' H') R6' (P1.trans P16) (K1.trans K16) ⟨.ret p, V, q⟩
end
end Mine

namespace Mine

section
variable {X : FX} {e l r : Expr} {m : Loc} {H : AH} {Q : PV → Loc → AH → Prop} {E : Loc → AH → Prop} {h : Heap} {tk : Nat}

/-! ## What is gone through -/
theorem IterOf.list {a : Addr} {ps : List PV} (hv : H a = some (.list ps)) : IterOf X (.ref a) H ps (some (a, .list ps)) := fun m h tk v Q E' R V k => by
  obtain rfl := V.inv_ref
  obtain ⟨⟨vs, n, l1, v1⟩, _⟩ := R.at hv
  refine wpAny_pyIter_list l1.isList (k h.objs.size _ tk _ (fun i o => o.cls = .type "list_iterator" ∧ o.data = .fields #[.ref a, .int i 0]) (fun b ob e => Heap.get?_push_of_some _ e) (Nat.le_refl _) (Heap.get?_push_size _ rfl) ⟨rfl, rfl⟩ ?_)
  refine ⟨fun i o s => ⟨_, _, s.1, by decide, by decide, s.2⟩, fun i p A h tk o H Q E' hx R src ho s hH q => ?_, fun i A h tk o H Q E' hx hh hn hni R src ho s hH q => ?_, fun i A h tk o Q E' ho s q => ?_⟩
  · have hs : H a = some (.list ps) := src
    obtain ⟨vs, n, l1, v1⟩ := R.real _ _ hs
    obtain ⟨v, hv, V⟩ := VRs.get v1 hx
    have raw := R.real _ _ hH
    refine wpAny_pyNext_list_item (x := v) ⟨o, ho, s.1, s.2⟩ l1.isList (by simpa using hv) fun h' hit same => ?_
    obtain ⟨o', ho', s1, s2⟩ := hit
    exact q h' tk o' v same.extBut ho' ⟨s1, s2⟩ (V.mono (Pers.of_extBut same.extBut raw.notTup))
  · have hs : H a = some (.list ps) := src
    obtain ⟨vs, n, l1, v1⟩ := R.real _ _ hs
    exact listIter_end hh ⟨o, ho, s.1, s.2⟩ l1.isList (by simpa using VRs.get_none v1 hx) hni fun h' x => q h' tk x
  · exact wpAny_pyIter_listiter ⟨o, ho, s.1, s.2⟩ q

noncomputable def rangeObj (n : Int) (o : Obj) : Prop := ∃ t u v, o = { cls := .type "range", dict := none, data := .fields #[.int 0 t, .int n u, .int 1 v], slots := #[] }
noncomputable def upTo (n : Int) : List PV := (List.range n.toNat).map fun i => .int (i : Nat)

theorem map_at {α β : Type} {f : α → β} {l : List α} {k : Nat} {p : β} (h : (l.map f)[k]? = some p) : ∃ v, l[k]? = some v ∧ p = f v := by
  rw [List.getElem?_map] at h
  obtain ⟨v, a, b⟩ := Option.map_eq_some_iff.mp h
  exact ⟨v, a, b.symm⟩
theorem upTo_at' {n : Int} {k : Nat} {p : PV} (h : (upTo n)[k]? = some p) : k < n.toNat ∧ p = .int (k : Nat) := by
  obtain ⟨j, h1, h2⟩ := map_at (l := List.range n.toNat) (f := fun i => PV.int (i : Nat)) h
  obtain ⟨h3, h4⟩ := List.getElem?_eq_some_iff.mp h1
  rw [List.getElem_range] at h4
  rw [List.length_range] at h3
  exact ⟨h3, h2.trans (h4 ▸ rfl)⟩
theorem upTo_at {n k : Nat} {p : PV} (h : (upTo (n : Nat))[k]? = some p) : k < n ∧ p = .int (k : Nat) := upTo_at' h
theorem IterOf.range {a : Addr} {n : Int} {o : Obj} (O : X.Ok) (hn : X.hn = true) (hv : H a = some (.raw o)) (ho : rangeObj n o) (h1 : -(2 ^ 62) ≤ n) (h2 : n < 2 ^ 62) : IterOf X (.ref a) H (upTo n) none := fun m h tk v Q E' R V k => by
  obtain rfl := V.inv_ref
  obtain ⟨⟨r1, _⟩, _⟩ := R.at hv
  obtain ⟨t, u, v, rfl⟩ := ho
  have hsz : Builtin.Range.rangeSize 0 n 1 = n.toNat := by
    unfold Builtin.Range.rangeSize
    rw [if_pos (by decide)]
    split <;> lia
  refine wpAny_pyIter_range r1 (small_one (by decide) (by decide) h1 h2) ?_
  refine k h.objs.size _ tk _ (fun i o => o = { cls := .type "range_iterator", dict := none, data := .fields #[rawInt (i : Nat), rawInt ((n.toNat : Int) - (i : Nat)), rawInt 1], slots := #[] }) (fun b ob e => Heap.get?_push_of_some _ e) (Nat.le_refl _) (Heap.get?_push_size _ rfl) ?_ ?_
  · rw [hsz]; simp
  refine ⟨fun i o s => by subst s; exact ⟨"range_iterator", _, rfl, by decide, by decide, rfl⟩, fun i p A h tk o H Q E' hx R src ho s hH q => ?_, fun i A h tk o H Q E' hx hh hn' hni R src ho s hH q => ?_, fun i A h tk o Q E' ho s q => ?_⟩
  · subst s
    have hx' := upTo_at' hx
    obtain ⟨hi, rfl⟩ := hx'
    have raw := R.real _ _ hH
    refine wpAny_pyNext_range_item ho (by lia) fun h' hit same => ?_
    refine q h' (tk + 1) _ _ same.extBut hit ?_ VR.int
    have e1 : ((i : Nat) : Int) + 1 = ((i + 1 : Nat) : Int) := by lia
    have e2 : (n.toNat : Int) - (i : Nat) - 1 = (n.toNat : Int) - ((i + 1 : Nat) : Int) := by lia
    rw [e1, e2]
  · subst s
    have hx' : n.toNat ≤ i := by
      unfold upTo at hx
      simpa using hx
    exact wpAny_pyNext_range_end (hn' hn) ho (by lia) fun h' x => q h' tk x
  · subst s; exact wpAny_pyIter_rangeiter ho q

theorem wpAny_pyIter_keyiter {prog : Program} {w : World} {A : Around} {E' : Value → Shared → Prop} {s : Shared} {it d : Addr} {i n ep : Nat} {Q : Value → Shared → Prop} (hit : s.heap.IsKeyIter it d i n ep) (h : Q (.ref it) s) : wpAny (model prog w) A (pyIter (.ref it)) Q E' s := by
  have hT := hit.typeIs
  refine wpAny_pyIter_slot hT F.slot_dict_keyiterator_iter (wpAny_call_entry F.slot_dict_keyiterator_iter hT F.entry_dict_keyiterator_iter ?_ (F.args_dict_keyiterator_iter_1 _))
  show wpAny _ _ (ret (.ref it)) _ _ s
  exact wpAny_pure ⟨_, rfl, "dict_keyiterator", _, hT, F.slot_dict_keyiterator_next.lookup, h⟩

theorem IterOf.dict {a : Addr} {es : List (Int × PV)} {ep : Nat} (hn : X.hn = true) (hv : H a = some (.dict es ep)) : IterOf X (.ref a) H (es.map fun kv => .int kv.1) (some (a, .dict es ep)) := fun m h tk v Q E' R V k => by
  obtain rfl := V.inv_ref
  obtain ⟨⟨xs, d1, d2, d3⟩, _, fe⟩ := R.at hv
  have hl : xs.length = es.length := by have := congrArg List.length d2; simpa using this
  refine wpAny_pyIter_dict (knd := intKind X.G.prog X.G.w) (by simpa using (R.r.notMods fe)) d1 ?_
  refine k h.objs.size _ tk _ (fun i o => o.cls = .type "dict_keyiterator" ∧ o.data = .fields #[.ref a, .int i 0, .int es.length 0, .int ep 0]) (fun b ob e => Heap.get?_push_of_some _ e) (Nat.le_refl _) (Heap.get?_push_size _ rfl) ⟨rfl, by rw [hl]; rfl⟩ ?_
  refine ⟨fun i o s => ⟨_, _, s.1, by decide, by decide, s.2⟩, fun i p A h tk o H Q E' hx R src ho s hH q => ?_, fun i A h tk o H Q E' hx hh hn' hni R src ho s hH q => ?_, fun i A h tk o Q E' ho s q => ?_⟩
  · have hs : H a = some (.dict es ep) := src
    obtain ⟨xs, d1, d2, d3⟩ := R.real _ _ hs
    have hl : xs.length = es.length := by have := congrArg List.length d2; simpa using this
    have raw := R.real _ _ hH
    have hk : ∃ kv, xs[i]? = some kv ∧ p = .int kv.1 := by
      have e1 : (xs.map (·.1))[i]? = (es.map (·.1))[i]? := by rw [d2]
      rw [List.getElem?_map, List.getElem?_map] at e1
      rw [List.getElem?_map] at hx
      cases z : es[i]? with
      | none => rw [z] at hx; cases hx
      | some kv =>
        rw [z] at hx e1
        cases z2 : xs[i]? with
        | none => rw [z2] at e1; cases e1
        | some kv2 =>
          rw [z2] at e1
          simp at e1 hx
          exact ⟨kv2, rfl, by rw [← hx, e1]⟩
    obtain ⟨⟨kk, vv⟩, hk1, rfl⟩ := hk
    refine wpAny_pyNext_dict_item (knd := intKind X.G.prog X.G.w) ⟨o, ho, s.1, by rw [s.2, hl]⟩ d1 hk1 fun key h' hkey hit same => ?_
    obtain ⟨o', ho', s1, s2⟩ := hit
    have : ∃ t, key = .int kk t := Value.isInt_shape hkey
    obtain ⟨t, rfl⟩ := this
    exact q h' tk o' _ same.extBut ho' ⟨s1, by rw [s2, hl]⟩ VR.int
  · have hs : H a = some (.dict es ep) := src
    obtain ⟨xs, d1, d2, d3⟩ := R.real _ _ hs
    have hl : xs.length = es.length := by have := congrArg List.length d2; simpa using this
    refine wpAny_pyNext_dict_end (knd := intKind X.G.prog X.G.w) (hn' hn) ⟨o, ho, s.1, by rw [s.2, hl]⟩ d1 ?_ fun h' x => q h' tk x
    rw [List.getElem?_eq_none_iff] at hx ⊢
    rw [hl]; simpa using hx
  · exact wpAny_pyIter_keyiter ⟨o, ho, s.1, s.2⟩ q

/-! ## Calls of builtins -/
noncomputable def BCall (X : FX) (f : Value) (ps : List PV) (H : AH) (Q : PV → AH → Prop) : Prop :=
  ∀ (m : Loc) (h : Heap) (tk : Nat) (vs : List Value) (Q' : Value → Shared → Prop) (E' : Value → Shared → Prop), Rel X m H h → VRs h vs ps →
    (∀ h' tk' r p H', Rel X m H' h' → Pers h h' → KeepH H H' → VR h' r p → Q p H' → Q' r (X.G.S h' tk')) → wpAny X.M X.A (PySem.call f vs) Q' E' (X.G.S h tk)

theorem EV.bcall {x : Str} {px pos : Pos} {args : List Expr} {v : Value} (O : X.Ok) (GG : X.G.Ok) (hk : X.env.kindOf x = some .globalImplicit) (e : nsIn X.G.K mainGlobals x = some none) (hv : bootBuiltins x = some v)
    (ht : (∃ T, v = .type T) ∨ ∃ id, v = .builtin id) (y : EVs X args m H (fun ps m1 H1 => BCall X v ps H1 (fun p H2 => Q p m1 H2)) E) (hn : x ≠ "__name__" := by decide) (hp : args.all plainArg = true := by rfl) (hd : (x == ("__debug__" : Str)) = false := by decide)
    (he : eval (.Call (.Name x px) args [] pos) X.env = (do callWith pos (← eval (.Name x px) X.env) [] (backTo pos (starEach args X.env)) (backToKw pos (keywordEach [] X.env))) := by with_unfolding_all rfl) :
    EV X (.Call (.Name x px) args [] pos) m H Q E := fun h tk R => by
  show wpAny _ _ _ _ _ _
  rw [he, starEach_plain hp]
  refine wpAny_bind (name_builtin O GG R hk e hv hn ?_ hd)
  have core : wpAny X.M X.A (spliced (args.map fun e => (false, eval e X.env))) (fun vs s' => wpAny X.M X.A (PySem.call v vs) (OKP X h H (fun h' v m' H' => ∃ p, VR h' v p ∧ Q p m' H')) (ERP X h H E) s') (ERP X h H E) (X.G.S h tk) :=
    y.run R (.refl _) (.refl _) fun h2 tk2 vs ps m2 H2 R2 P2 P2' K2 V2 q2 => q2 m2 h2 tk2 vs _ _ R2 V2 fun h3 tk3 r p H3 R3 P3 K3 V3 q3 => OKP.at R3 (P2'.trans P3) (K2.trans K3) ⟨p, V3, q3⟩
  rcases ht with ⟨T, rfl⟩ | ⟨id, rfl⟩
  · exact PyProof.Rows.callWith_type plain_any (evalArgs_es core)
  · exact callWith_builtin plain_any (evalArgs_es core)

theorem BCall.range {n : Int} {Q : PV → AH → Prop} (q : ∀ a o, H a = none → rangeObj n o → Q (.ref a) (upd H a (.raw o))) : BCall X (.type "range") [.int n] H Q := fun m h tk vs Q' E' R V k => by
  obtain ⟨v, ws, rfl, V1, V2⟩ := V.inv_cons
  obtain rfl := V2.inv_nil
  obtain ⟨t, rfl⟩ := V1.inv_int
  refine call_range_1 ?_
  have kp : ∀ b o, h.get? b = some o → (h.push { cls := .type "range", data := .fields #[.int 0 tk, .int n t, .int 1 (tk + 1)] }).get? b = some o := fun b o e => Heap.get?_push_of_some _ e
  obtain ⟨R2, K2, P2, e⟩ := R.new (a := h.objs.size) (o := .raw { cls := .type "range", data := .fields #[.int 0 tk, .int n t, .int 1 (tk + 1)] }) kp (Nat.le_refl _) ⟨Heap.get?_push_size _ rfl, by intro q; exact absurd (Value.type.inj q) (by decide)⟩
  exact k _ (tk + 1 + 1) _ _ _ R2 P2 K2 VR.ref (q _ _ e ⟨_, _, _, rfl⟩)
theorem BCall.len_list {a : Addr} {ps : List PV} {Q : PV → AH → Prop} (hv : H a = some (.list ps)) (hz : ps.length ≤ sizeLine) (q : Q (.int ps.length) H) : BCall X (.builtin "len") [.ref a] H Q := fun m h tk vs Q' E' R V k => by
  obtain ⟨v, ws, rfl, V1, V2⟩ := V.inv_cons
  obtain rfl := V2.inv_nil
  obtain rfl := V1.inv_ref
  obtain ⟨⟨vs, n, l1, v1⟩, _⟩ := R.at hv
  have e : vs.toArray.size = ps.length := by rw [List.size_toArray, v1.length]
  refine PyProof.Rows.len_list l1.isList (by rw [e]; rw [sizeLine_eq] at hz; lia) ?_
  rw [e]
  exact k h (tk + 1 + 1) _ _ _ R (.refl _) (.refl _) VR.int q
theorem BCall.len_dict {a : Addr} {es : List (Int × PV)} {ep : Nat} {Q : PV → AH → Prop} (hv : H a = some (.dict es ep)) (hz : (es.map (·.1)).Nodup → es.length ≤ sizeLine) (q : Q (.int es.length) H) : BCall X (.builtin "len") [.ref a] H Q := fun m h tk vs Q' E' R V k => by
  obtain ⟨v, ws, rfl, V1, V2⟩ := V.inv_cons
  obtain rfl := V2.inv_nil
  obtain rfl := V1.inv_ref
  obtain ⟨⟨xs, d1, d2, d3⟩, _, fe⟩ := R.at hv
  have hl : xs.length = es.length := by have := congrArg List.length d2; simpa using this
  have hz := hz (d2 ▸ d1.nodup)
  refine call_len_dict (knd := intKind X.G.prog X.G.w) (by simpa using (R.r.notMods fe)) d1.dictOf (by rw [hl]; rw [sizeLine_eq] at hz; lia) ?_
  rw [hl]
  exact k h (tk + 1 + 1) _ _ _ R (.refl _) (.refl _) VR.int q
theorem BCall.str_int {i : Int} {Q : PV → AH → Prop} (hi : i.natAbs.log2 < 1920) (q : Q (.str (toString i : String)) H) : BCall X (.type "str") [.int i] H Q := fun m h tk vs Q' E' R V k => by
  obtain ⟨v, ws, rfl, V1, V2⟩ := V.inv_cons
  obtain rfl := V2.inv_nil
  obtain ⟨t, rfl⟩ := V1.inv_int
  exact PySem.P.str_of_int hi (k h (tk + 1) _ _ _ R (.refl _) (.refl _) VR.str q)
theorem BCall.max2 {i j : Int} {Q : PV → AH → Prop} (O : X.Ok) (hn : X.hn = true) (q : Q (.int (max i j)) H) : BCall X (.builtin "max") [.int i, .int j] H Q := fun m h tk vs Q' E' R V k => by
  obtain ⟨v, ws, rfl, V1, V2⟩ := V.inv_cons
  obtain ⟨v2, ws2, rfl, W2, V3⟩ := V2.inv_cons
  obtain rfl := V3.inv_nil
  obtain ⟨t, rfl⟩ := V1.inv_int
  obtain ⟨u, rfl⟩ := W2.inv_int
  refine max_two_ints (O.hand hn) fun h' tk' kp => k h' tk' _ _ _ (R.keeps kp) (Pers.of_keeps kp) (.refl _) ?_ q
  split
  · rw [show max i j = j by lia]; exact VR.int
  · rw [show max i j = i by lia]; exact VR.int
theorem BCall.min2 {i j : Int} {Q : PV → AH → Prop} (O : X.Ok) (hn : X.hn = true) (q : Q (.int (min i j)) H) : BCall X (.builtin "min") [.int i, .int j] H Q := fun m h tk vs Q' E' R V k => by
  obtain ⟨v, ws, rfl, V1, V2⟩ := V.inv_cons
  obtain ⟨v2, ws2, rfl, W2, V3⟩ := V2.inv_cons
  obtain rfl := V3.inv_nil
  obtain ⟨t, rfl⟩ := V1.inv_int
  obtain ⟨u, rfl⟩ := W2.inv_int
  refine min_two_ints (O.hand hn) fun h' tk' kp => k h' tk' _ _ _ (R.keeps kp) (Pers.of_keeps kp) (.refl _) ?_ q
  split
  · rw [show min i j = j by lia]; exact VR.int
  · rw [show min i j = i by lia]; exact VR.int
theorem BCall.list_list {a : Addr} {ps : List PV} {Q : PV → AH → Prop} (hv : H a = some (.list ps)) (hz : ps.length ≤ sizeLine) (q : ∀ b, H b = none → Q (.ref b) (upd H b (.list ps))) : BCall X (.type "list") [.ref a] H Q := fun m h tk vs Q' E' R V k => by
  obtain ⟨v, ws, rfl, V1, V2⟩ := V.inv_cons
  obtain rfl := V2.inv_nil
  obtain rfl := V1.inv_ref
  obtain ⟨⟨vs, n, l1, v1⟩, _⟩ := R.at hv
  refine call_list_seq a (.inl rfl) l1 rfl rfl (fun h' c' kp hn => ?_) (by rw [List.size_toArray, v1.length]; exact hz)
  obtain ⟨R2, K2, P2, e⟩ := R.new (a := h.objs.size) (o := .list ps) kp (Nat.le_refl _) ⟨vs, c', hn, v1.mono (Pers.of_keeps kp)⟩
  exact k _ tk _ _ _ R2 P2 K2 VR.ref (q _ e)
end
end Mine

namespace Mine

section
variable {X : FX} {e l r : Expr} {m : Loc} {H : AH} {Q : PV → Loc → AH → Prop} {E : Loc → AH → Prop} {h : Heap} {tk : Nat}

/-! ## List comprehensions -/
noncomputable def compFX (X : FX) (scope : Scope) (cl : List (Str × Addr)) (C it : Addr) (o : Obj) (m : Loc) : FX :=
  { X with env := compEnvC scope cl C X.env, uniq := false, hid := (it, .raw o) :: (X.env.locals, .frame X.uniq m) :: X.hid }

theorem FX.Ok.comp {scope : Scope} {cl : List (Str × Addr)} {C it : Addr} {o : Obj} (O : X.Ok) (hk : scope.kind = .function) : (compFX X scope cl C it o m).Ok := ⟨hk, O.globals, O.builtins, O.stack, O.frame, O.depth, O.units, O.hand, fun a ao q => by
  have q : List.lookup a ((it, AO.raw o) :: (X.env.locals, .frame X.uniq m) :: X.hid) = some ao := q
  rw [List.lookup_cons] at q
  split at q
  · cases q; rfl
  · rw [List.lookup_cons] at q
    split at q
    · cases q; rfl
    · exact O.hfix _ _ q⟩
theorem own_comp {scope : Scope} {cl : List (Str × Addr)} {C it : Addr} {o : Obj} {a : Addr} : (compFX X scope cl C it o m).Own a ↔ a = C ∨ a = it ∨ X.Own a := by
  show (a = C ∨ ∃ o', List.lookup a ((it, AO.raw o) :: (X.env.locals, .frame X.uniq m) :: X.hid) = some o') ↔ _
  rw [List.lookup_cons]
  by_cases z : a = it
  · subst z; simp
  · have z' : (a == it) = false := by simpa using z
    simp only [z', z, false_or]
    rw [List.lookup_cons]
    by_cases z2 : a = X.env.locals
    · subst z2; simp [FX.Own]
    · have z2' : (a == X.env.locals) = false := by simpa using z2
      simp only [z2']
      unfold FX.Own
      simp only [z2, false_or]
theorem full_comp {scope : Scope} {cl : List (Str × Addr)} {C it : Addr} {o : Obj} {m' : Loc} (no : ¬ X.Own it) : (compFX X scope cl C it o m).full m' H = upd ((X.hide it o).full m H) C (.frame false m') := by
  funext a
  by_cases z : a = C
  · subst z; rw [upd_self]; exact FX.full_self
  · rw [upd_ne z]
    show (if a = C then _ else match List.lookup a ((it, AO.raw o) :: (X.env.locals, .frame X.uniq m) :: X.hid) with | some o => some o | none => H a) = _
    rw [if_neg z, full_hide no]
    by_cases z2 : a = it
    · subst z2; rw [upd_self, List.lookup_cons]; simp
    · rw [upd_ne z2, List.lookup_cons]
      have z2' : (a == it) = false := by simpa using z2
      simp only [z2']
      rw [List.lookup_cons]
      by_cases z3 : a = X.env.locals
      · subst z3; simp [FX.full_self]
      · have z3' : (a == X.env.locals) = false := by simpa using z3
        simp only [z3']
        unfold FX.full
        rw [if_neg z3] <;> (cases X.hid.lookup a <;> rfl)

/-- an object that is not borne may change -/
theorem Rel.butOne {C : Addr} {h' : Heap} {mm : Str → Option Value} (R : Rel X m H h) (hC : X.full m H C = none) (hb : X.G.base.get? C = none) (hn : h.Ns C mm) (x : Heap.ExtBut C h h') : Rel X m H h' ∧ Pers h h' := by
  have P : Pers h h' := Pers.of_extBut x fun vs ⟨ot, t1, t2, n, t3⟩ => by
    obtain ⟨o, es, ep, a1, a2, _⟩ := hn
    rw [t1] at a1; cases a1; rw [t3] at a2; cases a2
  refine ⟨R.mk' ⟨fun b ob z => x b ob (fun q => by rw [q, hb] at z; cases z) (R.r.stays b ob z), fun b ob z => ?_, R.r.fresh, R.r.glob⟩ (.refl _) R.l, P⟩
  exact (R.r.real b ob z).mono P fun oo ho => x b oo (fun q => by rw [q, hC] at z; cases z) ho

theorem Rel.comp {scope : Scope} {cl : List (Str × Addr)} {C it : Addr} {o : Obj} {h' : Heap} (no : ¬ X.Own it) (R : Rel (X.hide it o) m H h) (k : ∀ b ob, h.get? b = some ob → h'.get? b = some ob) (hn : h.objs.size ≤ C) (r : Real X.G h' C (.frame false [])) :
    Rel (compFX X scope cl C it o m) [] H h' := by
  obtain ⟨e, n⟩ := R.none_of_get (get_none_of_ge hn)
  have ef : (X.hide it o).full m H C = none := by rw [FX.full_at n]; exact e
  have kk : KeepH ((X.hide it o).full m H) (upd ((X.hide it o).full m H) C (.frame false [])) := .upd_new ef
  refine ⟨by rw [full_comp no]; exact R.r.new k hn r, fun a na => ?_, ?_, ?_⟩
  · rcases own_comp.mp na with rfl | rfl | na
    · exact e
    · exact R.l a (own_hide.mpr (.inl rfl))
    · exact R.l a (own_hide.mpr (.inr na))
  · rw [full_comp no]; exact R.fr.keep kk
  · rw [full_comp no]; exact R.hd.keep kk

theorem Rel.advanceC {scope : Scope} {cl : List (Str × Addr)} {C it : Addr} {o o' : Obj} {m' : Loc} {h' : Heap} (no : ¬ X.Own it) (hCi : C ≠ it) (hni : ∀ e, X.A.handled = some (.ref e) → e ≠ it) (R : Rel (compFX X scope cl C it o m) m' H h) (x : Heap.ExtBut it h h') (r : Real X.G h' it (.raw o')) :
    Rel (compFX X scope cl C it o' m) m' H h' ∧ Pers h h' := by
  have fe : ∀ oo, (compFX X scope cl C it oo m).full m' H = upd (upd (X.full m H) it (.raw oo)) C (.frame false m') := fun oo => by rw [full_comp no, full_hide no]
  have at_it : (compFX X scope cl C it o m).full m' H it = some (.raw o) := by rw [fe, upd_ne (Ne.symm hCi), upd_self]
  obtain ⟨r2, P⟩ := R.r.set (o := .raw o') x at_it fun w9 => r
  have e2 : upd ((compFX X scope cl C it o m).full m' H) it (.raw o') = (compFX X scope cl C it o' m).full m' H := by
    rw [fe, fe]; funext a; unfold upd
    by_cases z : a = it
    · subst z; simp [Ne.symm hCi]
    · simp [z]
  have kk : ∀ a ob, a ≠ it → (compFX X scope cl C it o m).full m' H a = some ob → (compFX X scope cl C it o' m).full m' H a = some ob := fun a ob z q => by
    rw [← e2, upd_ne z]; exact q
  refine ⟨⟨by rw [← e2]; exact r2, fun a na => R.l a (own_comp.mpr (own_comp.mp na)), fun e he => ?_, ?_⟩, P⟩
  · obtain ⟨a1, L, u, mm, a2, a3⟩ := R.fr e he
    exact ⟨a1, L, u, mm, a2, kk _ _ (fun q => by rw [q, at_it] at a3; cases a3) a3⟩
  · rcases R.hd with z | ⟨e2, o2, vs, a, b, c⟩
    · exact .inl z
    · exact .inr ⟨e2, o2, vs, a, kk _ _ (hni _ a) b, c⟩

theorem Rel.uncomp {scope : Scope} {cl : List (Str × Addr)} {C it : Addr} {o : Obj} {m' : Loc} {H' : AH} {h' : Heap} (no : ¬ X.Own it) (nC : ¬ X.Own C) (R0 : Rel X m H h) (K : KeepH H H') (R : Rel (compFX X scope cl C it o m) m' H' h') : Rel X m H' h' ∧ X.full m H' C = none ∧ X.G.base.get? C = none ∧ ∃ mm, h'.Ns C mm := by
  have l : X.Free H' := fun a na => R.l a (own_comp.mpr (.inr (.inr na)))
  have hC : X.full m H' C = none := by rw [FX.full_at nC]; exact R.l C (own_comp.mpr (.inl rfl))
  have fe : (compFX X scope cl C it o m).full m' H' = upd (upd (X.full m H') it (.raw o)) C (.frame false m') := by rw [full_comp no, full_hide no]
  refine ⟨R0.mk' (R.r.sub fun a ob q => ?_) K l, hC, ?_, ?_⟩
  · rw [fe, upd_ne fun z => by rw [z, hC] at q; cases q]
    by_cases z : a = it
    · subst z
      have := R.l a (own_comp.mpr (.inr (.inl rfl)))
      rw [FX.full_at no, this] at q; cases q
    · rw [upd_ne z]; exact q
  · exact (R.r.fresh C _ FX.full_self).1
  · obtain ⟨mm, a1, _⟩ := R.r.real C _ FX.full_self; exact ⟨mm, a1⟩

theorem TrG.butOne {G : GS} {C e : Addr} {fl : Value} {h' : Heap} {mm : Str → Option Value} (x : TrG G h H e fl) (hn : h.Ns C mm) (k : Heap.ExtBut C h h') : TrG G h' H e fl := by
  obtain ⟨a, b, oe, vs, a0, h1, h2, h3, h4, h5, T, oT, ts, e1, e2, e3, e4, e5, e6, e7⟩ := x
  obtain ⟨o, es, ep, c1, c2, _⟩ := hn
  refine ⟨a, b, oe, vs, a0, k e oe (fun q => ?_) h1, h2, h3, h4, h5, T, oT, ts, e1, e2, e3, e4, k T oT (fun q => ?_) e5, e6, e7⟩
  · rw [q, c1] at h1; cases h1; rw [c2] at h3; cases h3
  · rw [q, c1] at e5; cases e5; rw [c2] at e6; cases e6
theorem TrG.sub {G : GS} {h H H' e fl} (x : TrG G h H e fl) (s : ∀ a, H a = none → H' a = none) : TrG G h H' e fl := by
  obtain ⟨a, b, oe, vs, a0, h1, h2, h3, h4, h5, T, oT, ts, e1, e2, e3, e4, e5, e6, e7⟩ := x
  exact ⟨a, s _ b, oe, vs, a0, h1, h2, h3, h4, h5, T, oT, ts, e1, e2, e3, s _ e4, e5, e6, e7⟩
theorem TrG.any {X : FX} {h H e} {fr : Option Addr} (x : TrG X.G h H e (fr.elim .none fun f => rawInt f)) : FlyX X h H e := by
  cases fr with
  | some L => exact x.x
  | none => 
    obtain ⟨a, b, oe, vs, a0, h1, h2, h3, h4, h5, T, oT, ts, e1, e2, e3, e4, e5, e6, e7⟩ := x
    exact ⟨a, b, oe, vs, a0, h1, h2, h3, h4, h5, .inr ⟨T, oT, ts, _, e1, e2, e3, e4, e5, e6, e7, .inl rfl⟩⟩

theorem pass_on {what : String} {fr : Env} {h₀ : Heap} {H₀ : AH} {fl : Value} {e : Addr} (R : Rel X m H h) (F : TrG X.G h (X.full m H) e fl) (P : Pers h₀ h) (K : KeepH H₀ H) (q : E m H) : wpAny X.M X.A (PySem.passOn what (.ref e) fr : Sem Value) (fun w9 w9 => False) (ERP X h₀ H₀ E) (X.G.S h tk) := by
  have F' := F
  obtain ⟨hb, hH, oe, vs, a0, he, hc, hd, h0, h2, T, oT, ts, h1, hTe, hTb, hTH, hT, hTd, h3⟩ := F'
  unfold PySem.passOn
  refine wpAny_bind (wpAny_field he hd h1 ?_)
  rw [if_neg (show ¬ ((Value.ref T == Value.none) = true) from Bool.false_ne_true)]
  refine wpAny_bind (flight_X (fr := fr.frame) R F fun h2 R2 P2 t2 => wpAny_throw ?_)
  exact ⟨h2, tk, m, H, e, rfl, R2, P.trans P2, K, rfl, t2.any, q⟩

noncomputable def TS (X : FX) : List Expr → Loc → AH → (Bool → Loc → AH → Prop) → (Loc → AH → Prop) → Prop
  | [], m, H, Q, _ => Q true m H
  | [c], m, H, Q, E => ET X c m H Q E
  | _, _, _, _, _ => False
theorem TS.run {ifs : List Expr} {Q : Bool → Loc → AH → Prop} (x : TS X ifs m H Q E) (R : Rel X m H h) {Q' : Bool → Shared → Prop} {h₀ : Heap} {H₀ : AH} (P : Pers h₀ h) (K : KeepH H₀ H)
    (f : ∀ h1 tk1 b m1 H1, Rel X m1 H1 h1 → Pers h h1 → Pers h₀ h1 → KeepH H₀ H1 → Q b m1 H1 → Q' b (X.G.S h1 tk1)) :
    wpAny X.M X.A (forIn ifs true fun c r => if r = true then do let ok ← isTrue c X.env (eval c X.env); pure (ForInStep.yield ok) else pure (ForInStep.yield r)) Q' (ERP X h₀ H₀ E) (X.G.S h tk) := by
  match ifs, x with
  | [], x => exact wpAny_tests_nil (f _ _ _ _ _ R (.refl _) P K x)
  | [c], x => exact wpAny_tests_one (ET.run x R P K f)

theorem list_append_L {prog : Program} {w : World} {A : Around} {E' : Value → Shared → Prop} {s : Shared} {l : Addr} {items : Array Value} {n : Nat} {x : Value} {Q : Value → Shared → Prop} (hl : IsL s.heap l items n)
    (hQ : ∀ h' n', IsL h' l (items.push x) n' → Heap.SameBut l s.heap h' → Q .none { s with heap := h' }) (hsz : items.size ≤ sizeLine) :
    wpAny (model prog w) A (PySem.call (.builtin "list.append") [.ref l, x]) Q E' s := by
  have hL := hl.isList
  obtain ⟨o, ho, hc, n, hd⟩ := id hL
  refine wpAny_call_entry slot_list_append hL.typeIs entry_list_append ?_ (args_list_append _ _)
  show wpAny _ _ (updateSeq l (·.push x) >>= fun w9 => ret .none) _ _ s
  refine wpAny_bind ?_
  exact wpAny_updateSeq ho hd (wpAny_pure ⟨.none, rfl, hQ _ _ (hl.update (·.push x)) (Heap.SameBut.update ..)⟩)

/-- what a comprehension asks of its clause and its element -/
noncomputable def CompTurn (X : FX) (target : Expr) (ifs : List Expr) (elt : Expr) (scope : Scope) (cl : List (Str × Addr)) (ps : List PV) (D : Addr) (m1 : Loc) (I : Nat → List PV → AH → Prop) (E : Loc → AH → Prop) : Prop :=
  ∀ C it o k p acc H2, (compFX X scope cl C it o m1).Ok → ps[k]? = some p → I k acc H2 → AT (compFX X scope cl C it o m1) target p [] H2 (fun m3 H3 =>
    TS (compFX X scope cl C it o m1) ifs m3 H3 (fun ok m4 H4 => (ok = true → EV (compFX X scope cl C it o m1) elt m4 H4 (fun q m5 H5 => H5 D = some (.list acc) ∧ I (k + 1) (acc ++ [q]) (upd H5 D (.list (acc ++ [q])))) (fun _ H' => E m1 H')) ∧
      (ok = false → I (k + 1) acc H4)) (fun _ H' => E m1 H')) (fun _ H' => E m1 H')

inductive CompD (X : FX) (target : Expr) (ifs : List Expr) (elt : Expr) (scope : Scope) (cl : List (Str × Addr)) (ps : List PV) (src : Option (Addr × AO)) (m1 : Loc) (H1 : AH) (D : Addr) (F : List PV → AH → Prop) (E : Loc → AH → Prop) : Prop
  | mk (I : Nat → List PV → AH → Prop) (i0 : I 0 [] (upd H1 D (.list []))) (hs : ∀ k acc H2, I k acc H2 → srcIn src H2 ∧ H2 D = some (.list acc)) (turn : CompTurn X target ifs elt scope cl ps D m1 I E) (fin : ∀ acc H2, I ps.length acc H2 → F acc H2)
inductive CompR (X : FX) (target : Expr) (ifs : List Expr) (elt : Expr) (scope : Scope) (cl : List (Str × Addr)) (p : PV) (m1 : Loc) (H1 : AH) (F : Addr → List PV → AH → Prop) (E : Loc → AH → Prop) : Prop
  | mk (ps : List PV) (src : Option (Addr × AO)) (h : IterOf X p H1 ps src) (hz : ps.length ≤ sizeLine) (d : ∀ D, H1 D = none → CompD X target ifs elt scope cl ps src m1 H1 D (F D) E)
/-- what holds between the turns of a comprehension -/
inductive CI (X : FX) (scope : Scope) (cl : List (Str × Addr)) (C it : Addr) (m1 : Loc) (St : Nat → Obj → Prop) (N : Nat) (h1 : Heap) (H1 : AH) (I : Nat → List PV → AH → Prop) (n : Nat) (s' : Shared) : Prop
  | mk (k : Nat) (acc : List PV) (h' : Heap) (tk' : Nat) (m' : Loc) (H' : AH) (o : Obj) (e1 : n = N - k) (e2 : k ≤ N) (e3 : acc.length ≤ k) (e4 : s' = X.G.S h' tk') (e5 : Rel (compFX X scope cl C it o m1) m' H' h') (e6 : h'.get? it = some o) (e7 : St k o) (e8 : Pers h1 h') (e9 : KeepH H1 H') (e10 : I k acc H')
theorem CI.elim {X : FX} {scope : Scope} {cl : List (Str × Addr)} {C it : Addr} {m1 : Loc} {St : Nat → Obj → Prop} {N : Nat} {h1 : Heap} {H1 : AH} {I : Nat → List PV → AH → Prop} {Go : Nat → Shared → Prop}
    (f : ∀ k acc h' tk' m' H' o, k ≤ N → acc.length ≤ k → Rel (compFX X scope cl C it o m1) m' H' h' → h'.get? it = some o → St k o → Pers h1 h' → KeepH H1 H' → I k acc H' → Go (N - k) (X.G.S h' tk')) (n : Nat) (s' : Shared) (x : CI X scope cl C it m1 St N h1 H1 I n s') : Go n s' := by
  obtain ⟨k, acc, h', tk', m', H', o, rfl, e2, e3, rfl, e5, e6, e7, e8, e9, e10⟩ := x
  exact f k acc h' tk' m' H' o e2 e3 e5 e6 e7 e8 e9 e10
/-- an exception leaves -/
theorem comp_leave {scope : Scope} {cl : List (Str × Addr)} {use : Option (Value → Sem Unit)} {Q' : Value → Shared → Prop} {C it D : Addr} {o' : Obj} {m1 : Loc} {h1 h5 : Heap} {H1 H5 : AH} {v : Value} {s' : Shared} (O : X.Ok) (hkind : scope.kind = .function) (no : ¬ X.Own it) (nC : ¬ X.Own C) (R1 : Rel X m1 H1 h1)
    (P5 : Pers h h5) (K5 : KeepH H H5) (K15 : KeepH H1 H5) (hv : ERP (compFX X scope cl C it o' m1) h5 H5 (fun _ H' => E m1 H') v s') :
    notedBy X.M X.A (compEnvC scope cl C X.env) (fun e s'' => compPost X.M X.A (ERP X h H E) use Q' (.ref D) C (.error e) s'') v s' := by
  obtain ⟨h6, tk6, m6, H6, e, rfl, R6, P6, K6, rfl, F6, q6⟩ := hv
  obtain ⟨_, L, u, mm, hL, _⟩ := R6.fr X.top (.head _)
  have O6 : (compFX X scope cl C it o' m1).Ok := O.comp hkind
  refine note_X (X := compFX X scope cl C it o' m1) O6 R6 (O6.frame.trans hL) F6 fun h7 R7 P7 t7 => ?_
  obtain ⟨RX, hCn, hbC, mm, hns⟩ := Rel.uncomp no nC R1 (K15.trans K6) R7
  have core : ∃ m, h7.Ns C m ∧ ∀ h', Heap.SameBut C h7 h' → ∀ cenv : Env, cenv.locals = C → wpAny X.M X.A (PySem.passOn "comprehension.variables-let-go" (.ref e) cenv : Sem Value) (fun w9 w9 => False) (ERP X h H E) (X.G.S h' tk6) := by
    refine ⟨mm, hns, fun h8 hs8 cenv _ => ?_⟩
    obtain ⟨RX8, P8⟩ := RX.butOne hCn hbC hns hs8.extBut
    have t8 : TrG X.G h8 (X.full m1 H6) e (rawInt L) := (TrG.sub (H' := X.full m1 H6) t7 fun a z => by
      rw [full_comp no, full_hide no] at z
      by_cases q : a = C
      · subst q; exact hCn
      · rw [upd_ne q] at z
        by_cases q2 : a = it
        · subst q2; rw [upd_self] at z; cases z
        · rw [upd_ne q2] at z; exact z).butOne hns hs8.extBut
    exact pass_on RX8 t8 ((((P5.trans P6).trans P7)).trans P8) (K5.trans K6) q6
  cases use <;> exact core
/-- the end of the turns -/
theorem comp_done {scope : Scope} {cl : List (Str × Addr)} {C it : Addr} {o5 : Obj} {m1 m5 : Loc} {h1 h5 h6 : Heap} {H1 H5 : AH} (no : ¬ X.Own it) (nC : ¬ X.Own C) (hCi : C ≠ it) (R1 : Rel X m1 H1 h1) (K5 : KeepH H1 H5) (R5 : Rel (compFX X scope cl C it o5 m1) m5 H5 h5) (raw : Real X.G h5 it (.raw o5)) (x6 : Heap.ExtBut it h5 h6) :
    Ex1 fun mm => C5 (h6.Ns C mm) (Rel X m1 H5 h6) (Pers h5 h6) (X.full m1 H5 C = none) (X.G.base.get? C = none) := by
  obtain ⟨RX, hCn, hbC, mm, hns⟩ := Rel.uncomp no nC R1 K5 R5
  have fe : (compFX X scope cl C it o5 m1).full m5 H5 = upd (upd (X.full m1 H5) it (.raw o5)) C (.frame false m5) := by rw [full_comp no, full_hide no]
  have at_it : (compFX X scope cl C it o5 m1).full m5 H5 it = some (.raw o5) := by rw [fe, upd_ne (Ne.symm hCi), upd_self]
  have nf : X.full m1 H5 it = none := by rw [FX.full_at no]; exact R5.l it (own_comp.mpr (.inr (.inl rfl)))
  have bn : X.G.base.get? it = none := (R5.r.fresh _ _ at_it).1
  have p56 : Pers h5 h6 := Pers.of_extBut x6 raw.notTup
  have RX6 : Rel X m1 H5 h6 := by
    refine RX.mk' ⟨fun b ob z => x6 b ob (fun q => by rw [q, bn] at z; cases z) (RX.r.stays b ob z), fun b ob z => ?_, RX.r.fresh, RX.r.glob⟩ (.refl _) RX.l
    exact (RX.r.real b ob z).mono p56 fun oo ho => x6 b oo (fun q => by rw [q, nf] at z; cases z) ho
  obtain ⟨ob, es, ep, g1, g2⟩ := hns
  exact ⟨mm, ⟨ob, es, ep, x6 C ob hCi g1, g2⟩, RX6, p56, hCn, hbC⟩
/-- an element is put -/
theorem comp_push {scope : Scope} {cl : List (Str × Addr)} {C it D : Addr} {o6 : Obj} {m1 m9 : Loc} {h1 h9 : Heap} {H1 H9 : AH} {St : Nat → Obj → Prop} {I : Nat → List PV → AH → Prop} {N k tk9 : Nat} {acc : List PV} {q : PV} {v9 : Value} {Q : Value → Shared → Prop} {E' : Value → Shared → Prop} (no : ¬ X.Own it) (hCi : C ≠ it) (hN : N ≤ sizeLine) (hlt : k < N) (hacc : acc.length ≤ k)
    (R9 : Rel (compFX X scope cl C it o6 m1) m9 H9 h9) (ho6 : St (k + 1) o6) (P9 : Pers h1 h9) (K9 : KeepH H1 H9) (V9 : VR h9 v9 q) (q9 : H9 D = some (.list acc) ∧ I (k + 1) (acc ++ [q]) (upd H9 D (.list (acc ++ [q]))))
    (f : ∀ s', (∃ n, n < N - k ∧ CI X scope cl C it m1 St N h1 H1 I n s') → Q .none s') : wpAny X.M X.A (PySem.call (.builtin "list.append") [.ref D, v9]) Q E' (X.G.S h9 tk9) := by
  obtain ⟨hD9, i9⟩ := q9
  obtain ⟨⟨vs, n, l1, vv⟩, _⟩ := R9.at hD9
  refine list_append_L l1 (fun h10 n' hl10 hs10 => ?_) (by rw [List.size_toArray, vv.length]; exact Nat.le_trans hacc (Nat.le_trans (Nat.le_of_lt hlt) hN))
  rw [List.push_toArray] at hl10
  obtain ⟨R10, K10, P10⟩ := R9.set (o := .list (acc ++ [q])) hs10.extBut hD9 rfl fun P => ⟨_, n', hl10, (VRs.append vv (VRs.cons V9 VRs.nil)).mono P⟩
  have at10 : (compFX X scope cl C it o6 m1).full m9 (upd H9 D (.list (acc ++ [q]))) it = some (.raw o6) := by rw [full_comp no, full_hide no, upd_ne (Ne.symm hCi), upd_self]
  exact f _ ⟨_, Nat.sub_succ_lt_self _ _ hlt, k + 1, acc ++ [q], h10, tk9, m9, _, o6, rfl, hlt, by rw [List.length_append]; exact Nat.succ_le_succ hacc, rfl, R10, (R10.r.real _ _ at10).1, ho6, P9.trans P10, K9.trans K10, i9⟩
theorem comp_core {elt target iter : Expr} {ifs : List Expr} {scope : Scope} {pos : Pos} {cl : List (Str × Addr)} {use : Option (Value → Sem Unit)} {Q' : Value → Shared → Prop} {Fin : Addr → List PV → Loc → AH → Prop} (O : X.Ok) (R : Rel X m H h)
    (hclos : closureFor scope X.env = pure cl) (hcell : ∀ y ∈ scope.names, y.2 ≠ .cell) (hkind : scope.kind = .function) (hnames : ∀ y ∈ scope.names, y.2 = .local → scope.names.lookup y.1 = some .local)
    (x : EV X iter m H (fun p m1 H1 => CompR X target ifs elt scope cl p m1 H1 (fun D acc H2 => Fin D acc m1 H2) E) E)
    (fin : ∀ D C acc m1 H2 h2 tk2 mm, Rel X m1 H2 h2 → Pers h h2 → KeepH H H2 → H2 D = some (.list acc) → Fin D acc m1 H2 → X.full m1 H2 C = none → X.G.base.get? C = none → h2.Ns C mm →
      match use with
      | none => ∀ h', Heap.SameBut C h2 h' → Q' (.ref D) (X.G.S h' tk2)
      | some u => wpAny X.M X.A (u (.ref D)) (fun _ s'' => ∃ m, s''.heap.Ns C m ∧ ∀ h', Heap.SameBut C s''.heap h' → Q' .none { s'' with heap := h' }) (ERP X h H E) (X.G.S h2 tk2))
    (hs : ∀ x, foldedSetIterable iter X.env x = pure x := by intro _; rfl) (ht : ∀ it v, letOwnedTupleGo target it v = pure () := by intro _ _; rfl) :
    wpAny X.M X.A (comprehension (.ListComp elt [⟨target, iter, ifs, 0⟩] scope pos) scope X.env (firstIterPos [⟨target, iter, ifs, 0⟩] pos) (newList []) false (eval iter X.env) use) Q' (ERP X h H E) (X.G.S h tk) := by
  refine wpAny_comprehension_free (use := use) rfl hs hclos hkind hnames ?_
  refine x.run R (.refl _) (.refl _) fun h1 tk1 v p m1 H1 R1 P1 _ K1 V1 q1 => ?_
  obtain ⟨ps, src, hit, hpz, q1⟩ := q1
  refine hit m1 h1 tk1 v _ _ R1 V1 fun it h2 tk2 o St k2 hsz hio ho0 W => ?_
  obtain ⟨en, no⟩ := R1.none_of_get (get_none_of_ge hsz)
  have ef : X.full m1 H1 it = none := by rw [FX.full_at no]; exact en
  have hni := hide_ne R1 ef
  have raw : ∀ {i o hh}, St i o → hh.get? it = some o → Real X.G hh it (.raw o) := fun s e => by
    obtain ⟨n, vs, c1, c2, c3, c4⟩ := W.cls _ _ s
    exact ⟨e, by rw [c1]; intro q; exact c2 (Value.type.inj q)⟩
  have R2 : Rel (X.hide it o) m1 H1 h2 := R1.hide k2 hsz (raw ho0 hio)
  -- the list
  refine wpAny_newObj_type ?_
  have k3 : ∀ b o, h2.get? b = some o → (h2.push { cls := .type "list", data := .seq ([] : List Value).toArray }).get? b = some o := fun b o e => Heap.get?_push_of_some _ e
  obtain ⟨R3, K3, P3, eD⟩ := R2.new (a := h2.objs.size) (o := .list []) k3 (Nat.le_refl _) ⟨[], 0, Heap.get?_push_size _ rfl, VRs.nil⟩
  generalize hD : h2.objs.size = D at R3 K3 eD
  have hg3 : (h2.push { cls := .type "list", data := .seq ([] : List Value).toArray }).get? it = some o := k3 _ _ hio
  generalize hh3 : h2.push { cls := .type "list", data := .seq ([] : List Value).toArray } = h3 at R3 P3 k3 hg3 ⊢
  obtain ⟨I, i0, isrc, turn, hfin⟩ := q1 D eD
  -- the frame
  refine wpAny_newFunctionEnv hcell (by intro y hy; simp at hy) (fun h4 hns4 hsb4 => ?_) hkind
  dsimp only at hns4 hsb4 ⊢
  generalize hC : h3.objs.size = C at hns4 hsb4 ⊢
  have hCsz : h3.objs.size ≤ C := by rw [hC]; exact Nat.le_refl _
  have k4 : ∀ b o, h3.get? b = some o → h4.get? b = some o := fun b o e => hsb4.extBut b o (by rw [← hC]; exact Nat.ne_of_lt (Heap.lt_size e)) (Heap.get?_push_of_some _ e)
  have hCi : C ≠ it := by rw [← hC]; exact (Nat.ne_of_lt (Heap.lt_size hg3)).symm
  have R4 : Rel (compFX X scope cl C it o m1) [] (upd H1 D (.list [])) h4 := Rel.comp no R3 k4 hCsz ⟨_, hns4, (fun z => by cases z), fun x p z => by cases z⟩
  have nC : ¬ X.Own C := fun z => (R3.none_of_get (get_none_of_ge hCsz)).2 (own_hide.mpr (.inr z))
  have P14 : Pers h1 h4 := ((Pers.of_keeps k2).trans P3).trans (Pers.of_keeps k4)
  have Keq : KeepH H1 (upd H1 D (.list [])) := K3
  show codeAny X.M X.A (.compStart (.ListComp elt [⟨target, iter, ifs, 0⟩] scope pos) 0 (.ref it) (.ref D) (compEnvC scope cl C X.env)) _ (X.G.S h4 (tk2 + 0))
  have hio4 := k4 _ _ hg3
  -- an exception leaves
  have lift : ∀ (o' : Obj) (h5 : Heap) (H5 : AH) v s', Pers h h5 → KeepH H H5 → KeepH H1 H5 → ERP (compFX X scope cl C it o' m1) h5 H5 (fun _ H' => E m1 H') v s' →
      notedBy X.M X.A (compEnvC scope cl C X.env) (fun e s'' => compPost X.M X.A (ERP X h H E) use Q' (.ref D) C (.error e) s'') v s' :=
    fun o' h5 H5 v s' P5 K5 K15 hv => comp_leave O hkind no nC R1 P5 K5 K15 hv
  have loop : ∀ tk5, codeAny X.M X.A (.compLoop (.ListComp elt [⟨target, iter, ifs, 0⟩] scope pos) 0 (.ref it) (.ref D) (compEnvC scope cl C X.env)) (compPost X.M X.A (ERP X h H E) use Q' (.ref D) C) (X.G.S h4 tk5) := by
    intro tk5
    refine codeAny_compLoop_tests (A := X.A) (I := CI X scope cl C it m1 St ps.length h1 H1 I) (CI.elim fun k acc h5 tk5 m5 H5 o5 hk hacc R5 hio5 ho5 P5 K5 i5 => ?_) ps.length
      ⟨0, [], h4, tk5, [], _, o, rfl, Nat.zero_le _, Nat.zero_le _, rfl, R4, hio4, ho0, P14, Keq, i0⟩ (ht _)
    obtain ⟨hsrc0, hD5⟩ := isrc _ _ _ i5
    have fe : (compFX X scope cl C it o5 m1).full m5 H5 = upd (upd (X.full m1 H5) it (.raw o5)) C (.frame false m5) := by rw [full_comp no, full_hide no]
    have at_it : (compFX X scope cl C it o5 m1).full m5 H5 it = some (.raw o5) := by rw [fe, upd_ne (Ne.symm hCi), upd_self]
    have hsrc : srcIn src ((compFX X scope cl C it o5 m1).full m5 H5) := by
      cases src with
      | none => trivial
      | some s => exact (R5.at hsrc0).2.2
    cases hx : ps[k]? with
    | none =>
      refine W.done k X.A h5 tk5 o5 _ _ _ hx (HandIs.of (X := compFX X scope cl C it o5 m1) R5) O.hand hni R5.r hsrc hio5 ho5 at_it fun h6 tk6 x6 => ?_
      have hkN : k = ps.length := Nat.le_antisymm hk (List.getElem?_eq_none_iff.mp hx)
      obtain ⟨mm, hns6, RX6, p56, hCn, hbC⟩ := comp_done no nC hCi R1 K5 R5 (raw ho5 hio5) x6
      have := fin D C acc m1 H5 h6 tk6 mm RX6 ((P1.trans P5).trans p56) (K1.trans K5) hD5 (hfin _ _ (hkN ▸ i5)) hCn hbC hns6
      cases use with
      | none => exact ⟨mm, hns6, this⟩
      | some u => exact this
    | some p =>
      refine W.item k p X.A h5 tk5 o5 _ _ _ hx R5.r hsrc hio5 ho5 at_it fun h6 tk6 o6 v6 x6 hio6 ho6 V6 => ?_
      obtain ⟨R6, P56⟩ := R5.advanceC no hCi hni x6 (raw ho6 hio6)
      have O6 : (compFX X scope cl C it o6 m1).Ok := O.comp hkind
      have R6 := R6.weaken (m' := []) fun x p z => by cases z
      have liftH : ∀ v s', ERP (compFX X scope cl C it o6 m1) h6 H5 (fun _ H' => E m1 H') v s' → notedBy X.M X.A (compEnvC scope cl C X.env) (fun e s'' => compPost X.M X.A (ERP X h H E) use Q' (.ref D) C (.error e) s'') v s' :=
        fun v s' hv => lift o6 h6 H5 v s' ((P1.trans P5).trans P56) (K1.trans K5) K5 hv
      refine wpAny_mono (AT.run (turn C it o6 k p acc H5 O6 hx i5) R6 V6 (.refl _) (.refl _) fun h7 tk7 m7 H7 R7 P7 P7' K7 q7 => (?_ : _)) (fun _ s hs => hs) liftH
      refine wpAny_mono (TS.run q7 R7 P7' K7 fun h8 tk8 ok m8 H8 R8 P8 P8' K8 q8 => (?_ : _)) (fun b s hs => hs) liftH
      have hlt : k < ps.length := (List.getElem?_eq_some_iff.mp hx).1
      cases ok with
      | false =>
        have at8 : (compFX X scope cl C it o6 m1).full m8 H8 it = some (.raw o6) := by rw [full_comp no, full_hide no, upd_ne (Ne.symm hCi), upd_self]
        exact ⟨_, Nat.sub_succ_lt_self _ _ hlt, k + 1, acc, h8, tk8, m8, H8, o6, rfl, hlt, Nat.le_succ_of_le hacc, rfl, R8, (R8.r.real _ _ at8).1, ho6, (P5.trans P56).trans P8', K5.trans K8, q8.2 rfl⟩
      | true =>
        show wpAny _ _ (eval elt (compEnvC scope cl C X.env)) _ _ _
        refine wpAny_mono ((q8.1 rfl).run R8 P8' K8 fun h9 tk9 v9 q m9 H9 R9 P9 P9' K9 V9 q9 => (?_ : _)) (fun b s hs => hs) liftH
        exact comp_push no hCi hpz hlt hacc R9 ho6 ((P5.trans P56).trans P9') (K5.trans K9) V9 q9 fun _ z => z
  exact codeAny_compStart_list (loop _) (W.self 0 X.A h4 _ o _ _ hio4 ho0 (loop _))

/-- a list comprehension as a value -/
theorem EV.comp {elt target iter : Expr} {ifs : List Expr} {scope : Scope} {pos : Pos} (cl : List (Str × Addr)) (O : X.Ok)
    (x : EV X iter m H (fun p m1 H1 => CompR X target ifs elt scope cl p m1 H1 (fun D acc H2 => Q (.ref D) m1 H2) E) E)
    (hclos : closureFor scope X.env = pure cl := by rfl) (hcell : ∀ y ∈ scope.names, y.2 ≠ .cell := by decide) (hkind : scope.kind = .function := by rfl) (hnames : ∀ y ∈ scope.names, y.2 = .local → scope.names.lookup y.1 = some .local := by decide)
    (hs : ∀ x, foldedSetIterable iter X.env x = pure x := by intro _; rfl) (ht : ∀ it v, letOwnedTupleGo target it v = pure () := by intro _ _; rfl) :
    EV X (.ListComp elt [⟨target, iter, ifs, 0⟩] scope pos) m H Q E := fun h tk R => by
  show wpAny _ _ _ _ _ _
  rw [eval_ListComp]
  refine comp_core (use := none) (Fin := fun D acc m1 H2 => Q (.ref D) m1 H2) O R hclos hcell hkind hnames x (fun D C acc m1 H2 h2 tk2 mm R2 P2 K2 hD f hCn hbC hns => ?_) hs ht
  intro h' hs'
  obtain ⟨R3, P3⟩ := R2.butOne hCn hbC hns hs'.extBut
  exact OKP.at (Q := fun h' v m' H' => ∃ p, VR h' v p ∧ Q p m' H') R3 (P2.trans P3) K2 ⟨_, VR.ref, f⟩

/-- `x = [...]`, both on one line -/
theorem E1.assignComp {y : Str} {py spos : Pos} {elt target iter : Expr} {ifs : List Expr} {scope : Scope} {pos : Pos} {Q : PF → Loc → AH → Prop} (cl : List (Str × Addr)) (O : X.Ok) (hy : X.env.kindOf y = some .local)
    (x : EV X iter m H (fun p m1 H1 => CompR X target ifs elt scope cl p m1 H1 (fun D acc H2 => Q .next ((y, .ref D) :: m1) H2) E) E)
    (hsw : swapsWith (.ListComp elt [⟨target, iter, ifs, 0⟩] scope pos) (some (.Name y py)) spos.line X.env = pure true := by rfl)
    (hclos : closureFor scope X.env = pure cl := by rfl) (hcell : ∀ y ∈ scope.names, y.2 ≠ .cell := by decide) (hkind : scope.kind = .function := by rfl) (hnames : ∀ y ∈ scope.names, y.2 = .local → scope.names.lookup y.1 = some .local := by decide)
    (hs : ∀ x, foldedSetIterable iter X.env x = pure x := by intro _; rfl) (ht : ∀ it v, letOwnedTupleGo target it v = pure () := by intro _ _; rfl) :
    E1 X (.Assign [.Name y py] (.ListComp elt [⟨target, iter, ifs, 0⟩] scope pos) spos) m H Q E := fun h tk R => by
  show wpAny _ _ _ _ _ _
  rw [exec_Assign_Name_used _ _ _ _ hsw]
  refine wpAny_bind (wpAny_standAt (wpAny_bind ?_))
  show wpAny _ X.A (do let _ ← comprehension (.ListComp elt [⟨target, iter, ifs, 0⟩] scope pos) scope X.env (firstIterPos [⟨target, iter, ifs, 0⟩] pos) (newList []) false (eval iter X.env) (some (PySem.assign (.Name y py) X.env))) _ _ _
  refine wpAny_bind (comp_core (use := some (PySem.assign (.Name y py) X.env)) (Fin := fun D acc m1 H2 => Q .next ((y, .ref D) :: m1) H2) O R hclos hcell hkind hnames x (fun D C acc m1 H2 h2 tk2 mm R2 P2 K2 hD f hCn hbC hns => ?_) hs ht)
  refine PyProof.Rows.assign_Name (store_local' O R2 hy VR.ref fun h3 tk3 R3 P3 hs3 => ?_)
  have hCL : C ≠ X.env.locals := fun q => by rw [q, FX.full_self] at hCn; cases hCn
  have hns3 : h3.Ns C mm := by
    obtain ⟨ob, es, ep, g1, g2⟩ := hns
    exact ⟨ob, es, ep, hs3.extBut C ob hCL g1, g2⟩
  have hCn3 : X.full ((y, .ref D) :: m1) H2 C = none := by
    unfold FX.full at hCn ⊢; rw [if_neg hCL] at hCn ⊢; exact hCn
  refine ⟨mm, hns3, fun h4 hs4 => ?_⟩
  obtain ⟨R4, P4⟩ := R3.butOne hCn3 hbC hns3 hs4.extBut
  exact wpAny_pure (wpAny_pure (OKP.at (Q := fun h' f m' H' => ∃ p, FR h' f p ∧ Q p m' H') R4 ((P2.trans P3).trans P4) K2 ⟨.next, trivial, f⟩))
end
end Mine

namespace Mine

section
variable {X : FX} {m : Loc} {H : AH} {E : Loc → AH → Prop} {h : Heap} {tk : Nat}

/-! ## raise -/
section
variable {prog : Program} {w : World} {A : Around} {E' : Value → Shared → Prop} {s : Shared} {env : Env}
variable {nm q : Str} {C N C2 : Addr} {bs : List Value} {sn : List Str} {sub : List Value} {ab : Bool} {col : Option Bool} {dd : Option Addr} {k0 k1 k2 k3 k5 : Option Value}
theorem raise_made {x : Sem Value} {Q : Flow → Shared → Prop} (hh : A.handled = none)
    (h : wpAny (model prog w) A x (fun v s₁ => ∃ e oe a0, v = .ref e ∧ s₁.heap.get? C = some (excClassObj nm q C N bs (errMro C2) true sn sub ab col dd k0 k1 k2 k3 k5 "Exception.__new__") ∧
      s₁.heap.get? e = some oe ∧ oe.cls = .ref C ∧ oe.data = .fields #[.ref a0, .none, .none, .none, .bool false, .none] ∧ E' (.ref e) s₁) E' s) :
    wpAny (model prog w) A (raiseStmt env (some x) none) Q E' s := by
  have hcB : (Value.ref C :: errMro C2).contains (.type "BaseException") = true := err_has _ (.inr (.inl rfl))
  unfold raiseStmt
  refine wpAny_bind (wpAny_mono h (fun v s₁ h₁ => ?_) fun _ _ x => x)
  obtain ⟨e, oe, t, rfl, hC, he, hc, hd, hE⟩ := h₁
  obtain ⟨oc, od, oda, osl⟩ := oe
  dsimp only at hc hd
  subst hc hd
  obtain ⟨hp, g, d, tk, os⟩ := s₁
  repeat (first | with_reducible refine wpAny_loadPart_at he ?_ | with_reducible refine wpAny_loadPart_at hC ?_ | (with_reducible refine wpAny_isSubtype_exc hC ?_; rw [hcB]) | wp_step)
  exact wpAny_raiseNew_none hh hE
end

theorem E1.raise_ {n : Str} {np cpos pos : Pos} {arg : Expr} {Q : PF → Loc → AH → Prop} (O : X.Ok) (GG : X.G.Ok) (Z : ErrOk X.G) (hn : X.hn = true) (h2 : 2 ≤ X.n) (hk : X.env.kindOf n = some .globalImplicit) (hx : nsIn X.G.K mainGlobals n = some (some (.ref X.G.err)))
    (x : EV X arg m H (fun p m1 H1 => (∃ s, p = .str s) ∧ E m1 H1) E) (hp : plainArg arg = true := by rfl) (hd : (n == ("__debug__" : Str)) = false := by decide)
    (he : eval (.Call (.Name n np) [arg] [] cpos) X.env = (do callWith cpos (← eval (.Name n np) X.env) [] (backTo cpos (starEach [arg] X.env)) (backToKw cpos (keywordEach [] X.env))) := by with_unfolding_all rfl) :
    E1 X (.Raise (some (.Call (.Name n np) [arg] [] cpos)) none pos) m H Q E := fun h tk R => by
  show wpAny _ _ (standAt pos >>= fun w9 => raiseStmt X.env (some (eval (.Call (.Name n np) [arg] [] cpos) X.env >>= fun v => standAt pos >>= fun w9 => pure v)) none) _ _ _
  obtain ⟨nm, qn, N, C2, bs, sn, sub, ab, col, dd, k0, k1, k2, k3, k5, hC⟩ := Z.cls
  refine wpAny_bind (wpAny_standAt (raise_made (nm := nm) (q := qn) (C := X.G.err) (N := N) (C2 := C2) (bs := bs) (sn := sn) (sub := sub) (ab := ab) (col := col) (dd := dd) (k0 := k0) (k1 := k1) (k2 := k2) (k3 := k3) (k5 := k5) (O.hand hn) (wpAny_bind ?_)))
  rw [he, starEach_plain (by simp [hp])]
  refine wpAny_bind (name_global O GG R hk hx ?_ hd)
  refine callWith_ok Z.callee ?_
  refine spliced_cons (x.run R (.refl _) (.refl _) fun h1 tk1 v p m1 H1 R1 P1 _ K1 V1 q1 => spliced_nil ⟨R1.kin GG, ?_⟩)
  obtain ⟨⟨s, rfl⟩, q⟩ := q1
  refine err_made O GG Z h2 R1 V1 fun h3 tk3 e R3 P3 T3 => wpAny_bind (wpAny_standAt (wpAny_pure ?_))
  have F := T3.fly
  obtain ⟨hb, hH, oe, a0, he, hc, hd, hf, hdi⟩ := T3
  exact ⟨e, oe, a0, rfl, R3.kin GG _ _ hC, he, hc, hd, h3, tk3, m1, H1, e, rfl, R3, P1.trans P3, K1, rfl, F, q⟩

/-! ## try -/
noncomputable def FX.handler (X : FX) (e : Addr) : FX := { X with A := X.A.mark (some (.ref e)), hn := false }
theorem FX.Ok.handler {e : Addr} (O : X.Ok) : (X.handler e).Ok := ⟨O.kind, O.globals, O.builtins, O.stack, O.frame, O.depth, O.units, (fun z => by cases z), O.hfix⟩

theorem Rel.handler {e : Addr} {oe : Obj} {vs : Array Value} (R : Rel X m H h) (hH : X.full m H e = none) (hb : X.G.base.get? e = none) (he : h.get? e = some oe) (hc : oe.cls = .ref X.G.err) (hd : oe.data = .fields vs) (h2 : vs[2]? = some .none) :
    Rel (X.handler e) m (upd H e (.raw oe)) h ∧ KeepH H (upd H e (.raw oe)) := by
  obtain ⟨hn, no⟩ := full_none hH
  have kk : KeepH H (upd H e (.raw oe)) := .upd_new hn
  have kf : KeepH (X.full m H) (upd (X.full m H) e (.raw oe)) := .upd_new hH
  have ef : (X.handler e).full m (upd H e (.raw oe)) = upd (X.full m H) e (.raw oe) := full_upd (X := X) no
  refine ⟨⟨?_, fun a na => R.l.upd no a na, ?_, ?_⟩, kk⟩
  · rw [ef]
    exact R.r.step (fun b ob _ z => z) (.refl _) ⟨he, by rw [hc]; intro q; cases q⟩ ⟨hb, .inr ⟨_, rfl⟩⟩
  · rw [ef]; exact R.fr.keep kf
  · rw [ef]; exact .inr ⟨e, oe, vs, rfl, upd_self, hd, h2⟩

theorem E1.try_ {body suite : List Stmt} {b₀ : Stmt} {x : Str} {xp hpos pos : Pos} {Q : PF → Loc → AH → Prop} {Eb : Loc → AH → Prop} (O : X.Ok) (GG : X.G.Ok) (Z : ErrOk X.G) (hk : X.env.kindOf x = some .globalImplicit) (hx : nsIn X.G.K mainGlobals x = some (some (.ref X.G.err)))
    (xb : EX X body m H Q Eb) (xh : ∀ m1 H1, Eb m1 H1 → ∀ e oe, H1 e = none → (X.handler e).Ok → EX (X.handler e) (b₀ :: suite) m1 (upd H1 e (.raw oe)) Q (fun w9 w9 => False)) (hd : (x == ("__debug__" : Str)) = false := by decide) :
    E1 X (.Try body [.ExceptHandler (some (.Name x xp)) none (b₀ :: suite) hpos] [] [] pos) m H Q E := fun h tk R => by
  refine wpAny_Try_except ?_
  refine wpAny_mono (xb h tk R) (fun f s1 hs => ?_) fun v s1 hv => ?_
  · obtain ⟨h', tk', m', H', rfl, R', P', K', p, F, q⟩ := hs
    cases f with
    | next => exact wpAny_execs_nil (OKP.at (Q := fun h' f m' H' => ∃ p, FR h' f p ∧ Q p m' H') R' P' K' ⟨p, F, q⟩)
    | brk => exact OKP.at (Q := fun h' f m' H' => ∃ p, FR h' f p ∧ Q p m' H') R' P' K' ⟨p, F, q⟩
    | cont => exact OKP.at (Q := fun h' f m' H' => ∃ p, FR h' f p ∧ Q p m' H') R' P' K' ⟨p, F, q⟩
    | ret v => exact OKP.at (Q := fun h' f m' H' => ∃ p, FR h' f p ∧ Q p m' H') R' P' K' ⟨p, F, q⟩
  · obtain ⟨h1, tk1, m1, H1, e, rfl, R1, P1, K1, rfl, F1, q1⟩ := hv
    obtain ⟨_, L, u, mm, hL, _⟩ := R1.fr X.top (.head _)
    have hf : X.env.frame = some L := O.frame.trans hL
    refine note_X O R1 hf F1 fun h2 R2 P2 t2 => ?_
    refine flight_X (fr := none) R2 t2 fun h3 R3 P3 t3 => ?_
    have t3' := t3
    obtain ⟨hb, hH, oe, vs, a0, he, hc, hd3, h0, hv2, T, oT, ts, h1', hTe, hTb, hTH, hT, hTd, hfl⟩ := t3'
    obtain ⟨nm, qn, N, C2, bs, sn, sub, ab, col, dd, k0, k1, k2, k3, k5, hC⟩ := Z.cls
    obtain ⟨R3h, K3h⟩ := R3.handler hH hb he hc hd3 hv2
    have Oh := O.handler (e := e)
    have hCh := R3.kin GG _ _ hC
    refine wpAny_handleBy_cons (codeAny_handlers_test ?_) (by intro q; cases q)
    refine name_global (X := X.handler e) Oh GG R3h hk hx ?_ hd
    refine wpAny_excMatches_sub_self hCh he hc (by simp [errMro]) ?_
    refine codeAny_handlers_suite ?_
    unfold setFlight
    have hTf : (X.handler e).full m1 (upd H1 e (.raw oe)) T = none := by
      rw [show (X.handler e).full m1 (upd H1 e (.raw oe)) = upd (X.full m1 H1) e (.raw oe) from full_upd (X := X) (full_none hH).2, upd_ne hTe]; exact hTH
    have hs3 : 3 < ts.size := (Array.getElem?_eq_some_iff.mp hfl).1
    refine wpAny_bind (wpAny_field he hd3 h1' ?_)
    rw [if_pos (show (Value.ref T != Value.none) = true from by simp)]
    refine wpAny_setField hT hTd hs3 ?_
    obtain ⟨r4, p4⟩ := R3h.r.outside (f := Obj.mapFields (·.setIfInBounds 3 Value.none)) hT hTd (.inr trivial) hTf hTb
    have R4 : Rel (X.handler e) m1 (upd H1 e (.raw oe)) _ := R3h.mk' r4 (.refl _) R3h.l
    have P4 : Pers h _ := ((P1.trans P2).trans P3).trans p4
    have step := (xh m1 H1 q1 e oe (full_none hH).1 Oh) _ tk1 R4
    refine wpAny_mono step (fun f s' hs => ?_) fun v s' hv => ?_
    · obtain ⟨h', tk', m', H', rfl, R', P', K', p, F, q⟩ := hs
      have KK := K3h.trans K'
      have RX : Rel X m' H' h' := R1.mk' R'.r KK R'.l
      exact OKP.at (Q := fun h' f m' H' => ∃ p, FR h' f p ∧ Q p m' H') RX (P4.trans P') (K1.trans KK) ⟨p, F, q⟩
    · obtain ⟨h', tk', m', H', e', rfl, R', P', K', rfl, F, q⟩ := hv
      exact q.elim
end
end Mine

namespace Mine

section
variable {X : FX} {m : Loc} {H : AH} {Q : PV → Loc → AH → Prop} {E : Loc → AH → Prop} {h : Heap} {tk : Nat}

/-! ## Items -/
inductive GetL (a : Addr) (k : Int) (H : AH) (Q : PV → Prop) : Prop
  | mk (ps : List PV) (j : Nat) (p : PV) (h1 : H a = some (.list ps)) (h2 : k = j) (h3 : j < 2 ^ 40) (h4 : ps[j]? = some p) (q : Q p)
inductive GetD (a : Addr) (k : Int) (H : AH) (Q : PV → Prop) : Prop
  | mk (es : List (Int × PV)) (ep : Nat) (p : PV) (h1 : H a = some (.dict es ep)) (h2 : es.lookup k = some p) (q : Q p)
inductive GetT (ps : List PV) (k : Int) (Q : PV → Prop) : Prop
  | mk (j : Nat) (p : PV) (h2 : k = j) (h3 : j < 2 ^ 40) (h4 : ps[j]? = some p) (q : Q p)
inductive GetS (s : Str) (k : Int) (Q : PV → Prop) : Prop
  | mk (j c : Nat) (h2 : k = j) (h3 : j < 2 ^ 40) (h4 : s.cps[j]? = some c) (q : Q (.str ⟨#[c]⟩))
noncomputable def getR (po pi : PV) (H : AH) (Q : PV → Prop) : Prop :=
  match po, pi with
  | .ref a, .int k => GetL a k H Q ∨ GetD a k H Q
  | .tup ps, .int k => GetT ps k Q
  | .str s, .int k => GetS s k Q
  | _, _ => False

theorem getR.cases {po pi : PV} {H : AH} {Q : PV → Prop} (x : getR po pi H Q) :
    (∃ a k, po = .ref a ∧ pi = .int k ∧ (GetL a k H Q ∨ GetD a k H Q)) ∨
    (∃ ps k, po = .tup ps ∧ pi = .int k ∧ GetT ps k Q) ∨
    (∃ s k, po = .str s ∧ pi = .int k ∧ GetS s k Q) := by
  cases po <;> cases pi <;> first | exact x.elim | exact .inl ⟨_, _, rfl, rfl, x⟩ | exact .inr (.inl ⟨_, _, rfl, rfl, x⟩) | exact .inr (.inr ⟨_, _, rfl, rfl, x⟩)

theorem EV.sub {value slice : Expr} {pos} (x : EV X value m H (fun po m1 H1 => EV X slice m1 H1 (fun pi m2 H2 => getR po pi H2 (fun p => Q p m2 H2)) E) E)
    (hs : ∀ o i, ∃ ops, subscripted slice false o i = operate ops (getItem o i) := by intro o i; exact ⟨_, rfl⟩) : EV X (.Subscript value slice pos) m H Q E := fun h tk R => by
  refine Subscript_ (x.run R (.refl _) (.refl _) fun h1 tk1 ov po m1 H1 R1 P1 P1' K1 V1 q1 => ?_)
  refine q1.run R1 P1' K1 fun h2 tk2 iv pi m2 H2 R2 P2 P2' K2 V2 q2 => ?_
  have V1 := V1.mono P2
  obtain ⟨ops, hops⟩ := hs ov iv
  rcases q2.cases with ⟨a, k, rfl, rfl, q2⟩ | ⟨ps, k, rfl, rfl, q2⟩ | ⟨s, k, rfl, rfl, q2⟩
  · obtain rfl := V1.inv_ref
    obtain ⟨t, rfl⟩ := V2.inv_int
    rcases q2 with ⟨ps, j, p, ha, rfl, hj, hp, q⟩ | ⟨es, ep, p, ha, hp, q⟩
    · obtain ⟨⟨vs, n, l1, v1⟩, _⟩ := R2.at ha
      obtain ⟨v, hv, V⟩ := v1.get hp
      exact tail_any l1.isList.typeIs slot_list_getitem.lookup (wpAny_getItem_list l1.isList (x := v) (by lia) (by lia) (by rw [Int.toNat_natCast]; simpa using hv) (OKP.at (tk' := tk2) (Q := fun h' v m' H' => ∃ p, VR h' v p ∧ Q p m' H') R2 P2' K2 ⟨p, V, q⟩)) hops
    · obtain ⟨⟨xs, d1, d2, d3⟩, n, fe⟩ := R2.at ha
      have := valueAt_lookup d2 d3 k
      rw [hp] at this
      obtain ⟨v, hv, V⟩ := this
      exact tail_any d1.dictOf.typeIs slot_dict_getitem.lookup (wpAny_getItem_of (knd := intKind X.G.prog X.G.w) (intKind_is _ _ _ t) d1.dictOf.mapOf hv (OKP.at (tk' := tk2 + 1) (Q := fun h' v m' H' => ∃ p, VR h' v p ∧ Q p m' H') R2 P2' K2 ⟨p, V, q⟩)) hops
  · obtain ⟨a, vs, rfl, ht, v1⟩ := V1.inv_tup
    obtain ⟨t, rfl⟩ := V2.inv_int
    obtain ⟨j, p, rfl, hj, hp, q⟩ := q2
    obtain ⟨v, hv, V⟩ := v1.get hp
    have hlt : j < vs.length := (List.getElem?_eq_some_iff.mp hv).1
    refine tail_any ht.typeIs slot_tuple_getitem.lookup (PyProof.Rows.getItem_tuple ht (j := j) (x := v) (by lia) (by lia) ?_ (by simpa using hv) (OKP.at (tk' := tk2) (Q := fun h' v m' H' => ∃ p, VR h' v p ∧ Q p m' H') R2 P2' K2 ⟨p, V, q⟩)) hops
    rw [List.size_toArray]
    have := StrLaws.seqIndex_nonneg (i := (j : Int)) (n := vs.length) (by lia) (by lia)
    rw [Int.toNat_natCast] at this; exact this
  · obtain ⟨t, rfl⟩ := V1.inv_str
    obtain ⟨u, rfl⟩ := V2.inv_int
    obtain ⟨j, c, rfl, hj, hc, q⟩ := q2
    have hlt : j < s.cps.size := (Array.getElem?_eq_some_iff.mp hc).1
    refine tail_any (typeIs_str _ s t) PySem.F.slot_str_getitem.lookup (PySem.P.getItem_str (c := c) ?_ ?_ (OKP.at (tk' := tk2 + 1) (Q := fun h' v m' H' => ∃ p, VR h' v p ∧ Q p m' H') R2 P2' K2 ⟨_, VR.str, q⟩)) hops
    · rw [Bool.or_eq_false_iff]; constructor <;> (apply decide_eq_false; lia)
    · have := StrLaws.seqIndex_nonneg (i := (j : Int)) (n := s.length) (by lia) (by show (j : Int) < ((s.cps.size : Nat) : Int); lia)
      rw [this, Int.toNat_natCast]; exact hc

inductive SliceR (k : Int) (po : PV) (H : AH) (Q : PV → AH → Prop) : Prop
  | mk (a : Addr) (ps : List PV) (h1 : po = .ref a) (h2 : H a = some (.list ps)) (h3 : k ≤ ps.length) (h4 : ps.length ≤ sizeLine) (q : ∀ b, H b = none → Q (.ref b) (upd H b (.list (ps.take k.toNat))))
/-- `values[:k]` -/
theorem EV.slice {value : Expr} {k : Int} {kk : Nat} {cp p pos : Pos} (hk : 0 ≤ k) (x : EV X value m H (fun po m1 H1 => SliceR k po H1 fun r H2 => Q r m1 H2) E)
    (ht : ∀ o r, letTemporaryGo value o r = pure () := by intro _ _; rfl) : EV X (.Subscript value (.Slice none (some (.Constant (.int k) kk cp)) none p) pos) m H Q E := fun h tk R => by
  refine wpAny_Subscript_list_slice (x.run R (.refl _) (.refl _) fun h1 tk1 ov po m1 H1 R1 P1 P1' K1 V1 q1 => ?_) ht
  obtain ⟨a, ps, rfl, ha, hkl, hz, q⟩ := q1
  obtain rfl := V1.inv_ref
  obtain ⟨⟨vs, n, l1, v1⟩, _⟩ := R1.at ha
  rw [evalPart_none]
  refine wpAny_pure ?_
  show wpAny _ _ (eval (.Constant (.int k) kk cp) X.env) _ _ _
  refine wpAny_Constant_int ?_
  refine ⟨a, vs.toArray, none, some k, rfl, l1.isList, by rw [List.size_toArray, v1.length]; exact hz, .none, .int k _, ?_⟩
  have e1 : slicePick vs.toArray none (some k) none = (vs.take k.toNat).toArray := by
    have : k = ((k.toNat : Nat) : Int) := by lia
    rw [this, slicePick_upto vs.toArray k.toNat (by rw [List.size_toArray, v1.length]; lia)]
    apply Array.ext'
    simp only [Int.toNat_natCast]
  rw [e1]
  have k1 : ∀ b o, h1.get? b = some o → (h1.push { cls := .type "slice", data := .fields #[.none, .int k tk1, .none] }).get? b = some o := fun b o e => Heap.get?_push_of_some _ e
  have R2 := R1.keeps k1
  have hs : (h1.push { cls := .type "slice", data := .fields #[.none, .int k tk1, .none] }).objs.size = h1.objs.size + 1 := Heap.size_push ..
  generalize hg : h1.push { cls := .type "slice", data := .fields #[.none, .int k tk1, .none] } = h2 at k1 R2 hs ⊢
  have k2 : ∀ b o, h2.get? b = some o → (h2.push { cls := .type "list", data := .seq (vs.take k.toNat).toArray }).get? b = some o := fun b o e => Heap.get?_push_of_some _ e
  have P2 : Pers h1 _ := (Pers.of_keeps k1).trans (Pers.of_keeps k2)
  obtain ⟨R3, K3, P3, e⟩ := R2.new (a := h1.objs.size + 1) (o := .list (ps.take k.toNat)) k2 (by rw [hs]; exact Nat.le_refl _) ⟨vs.take k.toNat, 0, by rw [← hs]; exact Heap.get?_push_size _ rfl, (v1.take k.toNat).mono P2⟩
  exact OKP.at (tk' := tk1 + 1) (Q := fun h' v m' H' => ∃ p, VR h' v p ∧ Q p m' H') R3 (P1'.trans P2) (K1.trans K3) ⟨_, VR.ref, q _ e⟩

/-! ## Methods of lists and dicts -/
inductive PushR (a : Addr) (q : PV) (H : AH) (Q : AH → Prop) : Prop
  | mk (ps : List PV) (h1 : H a = some (.list ps)) (h2 : ps.length < sizeLine) (h3 : Q (upd H a (.list (ps ++ [q]))))
inductive AppendR (X : FX) (arg : Expr) (p : PV) (m1 : Loc) (H1 : AH) (Q : PV → Loc → AH → Prop) (E : Loc → AH → Prop) : Prop
  | mk (a : Addr) (h1 : p = .ref a) (h2 : ∃ ps0, H1 a = some (.list ps0)) (h3 : EV X arg m1 H1 (fun q m2 H2 => PushR a q H2 fun H3 => Q .none m2 H3) E)
inductive PopR (p : PV) (H : AH) (Q : PV → AH → Prop) : Prop
  | mk (a : Addr) (ps : List PV) (q : PV) (h1 : p = .ref a) (h2 : H a = some (.list (ps ++ [q]))) (h3 : ps.length < sizeLine) (h4 : Q q (upd H a (.list ps)))
inductive KeyR (a : Addr) (q : PV) (H : AH) (Q : PV → Prop) : Prop
  | mk (es : List (Int × PV)) (ep : Nat) (i : Int) (h1 : q = .int i) (h2 : H a = some (.dict es ep)) (h3 : Q ((es.lookup i).getD .none))
inductive DGetR (X : FX) (arg : Expr) (p : PV) (m1 : Loc) (H1 : AH) (Q : PV → Loc → AH → Prop) (E : Loc → AH → Prop) : Prop
  | mk (a : Addr) (h1 : p = .ref a) (h2 : ∃ es0 ep0, H1 a = some (.dict es0 ep0)) (h3 : EV X arg m1 H1 (fun q m2 H2 => KeyR a q H2 fun r => Q r m2 H2) E)
theorem EV.append {o arg : Expr} {apos pos : Pos} (x : EV X o m H (fun p m1 H1 => AppendR X arg p m1 H1 Q E) E)
    (hb : attributeBase o "append" X.env (eval o X.env) = eval o X.env := by with_unfolding_all rfl)
    (hl : (apos.endLine == pos.line) = true := by rfl) (hp : plainArg arg = true := by rfl) : EV X (.Call (.Attribute o "append" apos) [arg] [] pos) m H Q E := fun h tk R => by
  show wpAny _ _ _ _ _ _
  rw [arm_eval_Call, hb]
  refine wpAny_bind (x.run R (.refl _) (.refl _) fun h1 tk1 v p m1 H1 R1 P1 P1' K1 V1 q1 => ?_)
  obtain ⟨a, rfl, ⟨ps0, ha0⟩, q⟩ := q1
  obtain rfl := V1.inv_ref
  obtain ⟨⟨vs0, n0, l0, v0⟩, _⟩ := R1.at ha0
  refine wpAny_bind (wpAny_standAt (methodCall_plain (es := [arg]) hl (by simp [hp]) (by show 1 < 20; decide) fun pl => ?_))
  refine getMethod_builtin ⟨_, l0, rfl⟩ PySem.F.plainAttrs_list PySem.F.slot_list_append type_list_append (fun b e => by cases e; exact ⟨_, l0, rfl⟩) ?_
  refine PySem.P.append_list (q.run R1 P1' K1 fun h2 tk2 w r m2 H2 R2 P2 P2' K2 V2 q2 => ?_)
  obtain ⟨ps, ha, hz, q⟩ := q2
  obtain ⟨⟨vs, n, l1, v1⟩, _⟩ := R2.at ha
  refine ⟨vs.toArray, n, by rw [List.size_toArray, v1.length]; lia, l1, ?_⟩
  have l2 := l1.update (·.push w)
  rw [List.push_toArray] at l2
  obtain ⟨R3, K3, P3⟩ := R2.set (o := .list (ps ++ [r])) (Heap.SameBut.update ..).extBut ha rfl fun P => ⟨_, _, l2, (VRs.append v1 (VRs.cons V2 VRs.nil)).mono P⟩
  exact OKP.at (tk' := tk2) (Q := fun h' v m' H' => ∃ p, VR h' v p ∧ Q p m' H') R3 (P2'.trans P3) (K2.trans K3) ⟨_, VR.none, q⟩

theorem EV.pop {o : Expr} {apos pos : Pos} (x : EV X o m H (fun p m1 H1 => PopR p H1 fun q H2 => Q q m1 H2) E)
    (hb : attributeBase o "pop" X.env (eval o X.env) = eval o X.env := by with_unfolding_all rfl)
    (hl : (apos.endLine == pos.line) = true := by rfl) : EV X (.Call (.Attribute o "pop" apos) [] [] pos) m H Q E := fun h tk R => by
  show wpAny _ _ _ _ _ _
  rw [arm_eval_Call, hb]
  refine wpAny_bind (x.run R (.refl _) (.refl _) fun h1 tk1 v p m1 H1 R1 P1 P1' K1 V1 q1 => ?_)
  obtain ⟨a, ps, r, rfl, ha, hz, q⟩ := q1
  obtain rfl := V1.inv_ref
  obtain ⟨⟨vs, n, l1, v1⟩, _⟩ := R1.at ha
  obtain ⟨vs1, vs2, rfl, w1, w2⟩ := VRs.split v1
  obtain ⟨w, ws, rfl, W, w3⟩ := w2.inv_cons
  obtain rfl := w3.inv_nil
  refine wpAny_bind (wpAny_standAt (methodCall_plain (es := []) hl rfl (by show 0 < 20; decide) fun pl => ?_))
  refine getMethod_builtin ⟨_, l1, rfl⟩ PySem.F.plainAttrs_list PySem.F.slot_list_pop PySem.F.type_list_pop (fun b e => by cases e; exact ⟨_, l1, rfl⟩) ?_
  have hsz : (vs1 ++ [w]).toArray.size = ps.length + 1 := by rw [List.size_toArray, List.length_append, w1.length]; rfl
  refine PySem.P.pop_list l1 (y := w) (by rw [hsz]; simp [← w1.length]) ?_ (by rw [hsz]; lia)
  have l2 := l1.update (fun xs => xs.eraseIdxIfInBounds ((vs1 ++ [w]).toArray.size - 1))
  have e2 : ((vs1 ++ [w]).toArray.eraseIdxIfInBounds ((vs1 ++ [w]).toArray.size - 1)) = vs1.toArray := by
    apply Array.ext'
    simp [Array.eraseIdxIfInBounds, List.eraseIdx_append_of_length_le]
  have l3 : ∃ n', IsL (h1.update a (Obj.mapSeq fun xs => xs.eraseIdxIfInBounds ((vs1 ++ [w]).toArray.size - 1))) a vs1.toArray n' := by
    simp only [e2] at l2; exact ⟨_, l2⟩
  obtain ⟨n', l3⟩ := l3
  obtain ⟨R3, K3, P3⟩ := R1.set (o := .list ps) (Heap.SameBut.update ..).extBut ha rfl fun P => ⟨_, n', l3, w1.mono P⟩
  exact OKP.at (tk' := tk1) (Q := fun h' v m' H' => ∃ p, VR h' v p ∧ Q p m' H') R3 (P1'.trans P3) (K1.trans K3) ⟨_, W.mono P3, q⟩

set_option tactic.hygienic true in
theorem EV.get {o arg : Expr} {apos pos : Pos} (x : EV X o m H (fun p m1 H1 => DGetR X arg p m1 H1 Q E) E)
    (hb : attributeBase o "get" X.env (eval o X.env) = eval o X.env := by with_unfolding_all rfl)
    (hl : (apos.endLine == pos.line) = true := by rfl) (hp : plainArg arg = true := by rfl) : EV X (.Call (.Attribute o "get" apos) [arg] [] pos) m H Q E := fun h tk R => by
  show wpAny _ _ _ _ _ _
  rw [arm_eval_Call, hb]
  refine wpAny_bind (x.run R (.refl _) (.refl _) fun h1 tk1 v p m1 H1 R1 P1 P1' K1 V1 q1 => ?_)
  obtain ⟨a, rfl, ⟨es0, ep0, ha0⟩, q⟩ := q1
  obtain rfl := V1.inv_ref
  obtain ⟨⟨xs0, d0, _, _⟩, _, _⟩ := R1.at ha0
  refine wpAny_bind (wpAny_standAt (methodCall_plain (es := [arg]) hl (by simp [hp]) (by show 1 < 20; decide) fun pl => ?_))
  refine getMethod_builtin d0.dictOf.typeIs PySem.F.plainAttrs_dict PySem.F.slot_dict_get PySem.F.type_dict_get d0.dictOf.mapOf.noDict ?_
  refine callWith_builtin plain_any (evalArgs_es (spliced_cons (q.run R1 P1' K1 fun h2 tk2 w r m2 H2 R2 P2 P2' K2 V2 q2 => spliced_nil ?_)))
  obtain ⟨es, ep, i, rfl, ha, q⟩ := q2
  obtain ⟨t, rfl⟩ := V2.inv_int
  obtain ⟨⟨xs, d1, d2, d3⟩, n, fe⟩ := R2.at ha
  refine call_meetsIn PySem.F.slot_dict_get d1.dictOf.typeIs PySem.F.entry_dict_get (PySem.F.args_dict_get_2 _ _) (meets_dict_get (intKind X.G.prog X.G.w) a (intKind_is _ _ i t) (by simpa using R2.r.notMods fe)) ⟨_, d1.dictOf.mapOf, ?_⟩
  have := valueAt_lookup d2 d3 i
  split at this
  · rename_i p hp
    obtain ⟨v, hv, V⟩ := this
    rw [hv]; rw [hp] at q
    exact OKP.at (tk' := tk2 + 1) (Q := fun h' v m' H' => ∃ p, VR h' v p ∧ Q p m' H') R2 P2' K2 ⟨_, V, q⟩
  · rename_i hp
    rw [this]; rw [hp] at q
    exact OKP.at (tk' := tk2 + 1) (Q := fun h' v m' H' => ∃ p, VR h' v p ∧ Q p m' H') R2 P2' K2 ⟨_, VR.none, q⟩

/-! an empty dict -/
theorem EV.dict0 {pos} (q : ∀ a ep, H a = none → Q (.ref a) m (upd H a (.dict [] ep))) : EV X (.Dict [] [] pos) m H Q E := fun h tk R => by
  refine wpAny_Dict_empty ?_
  obtain ⟨ep, hd⟩ := (Heap.DictOf.new (knd := intKind X.G.prog X.G.w) h).dictAt
  have k : ∀ b o, h.get? b = some o → (h.push { cls := .type "dict", data := .dict #[] }).get? b = some o := fun b o e => Heap.get?_push_of_some _ e
  obtain ⟨R2, K2, P2, e⟩ := R.new (a := h.objs.size) (o := .dict [] ep) k (Nat.le_refl _) ⟨[], hd, rfl, VRs.nil⟩
  exact OKP.at (tk' := tk) (Q := fun h' v m' H' => ∃ p, VR h' v p ∧ Q p m' H') R2 P2 K2 ⟨_, VR.ref, q _ _ e⟩
end
end Mine

namespace Mine

section
variable {X : FX} {m : Loc} {H : AH} {Q : PV → Loc → AH → Prop} {E : Loc → AH → Prop} {h : Heap} {tk : Nat}

/-! ## isinstance on own objects -/
noncomputable def isiOk (K : Frag) (D : Addr) : Bool := plainGet K D "__class__" && hasDictIn K D && findIn K (.ref D) "__class__" == some (some (.builtin "object.__class__")) &&
  specialIn K (.builtin "object.__class__") "__get__" == some (some (.builtin "getset_descriptor.__get__")) && takesIn K (.builtin "object.__class__") == some true && mroIn K D (.type "object") == some true
theorem isiOk.kit {K : Frag} {x D : Addr} {ox od : Obj} (h : isiOk K D = true) : KitX K (.ref x) (.ref D) (fun h => InstAt h x ox D (some od)) := by
  unfold isiOk at h
  simp only [Bool.and_eq_true, beq_iff_eq] at h
  obtain ⟨⟨⟨⟨⟨h1, h2⟩, h3⟩, h4⟩, h5⟩, h6⟩ := h
  exact kitx_own h1 h2 h3 h4 h5 h6

theorem BCall.isi {a D dx C : Addr} {fs : List (Str × PV)} {b : Bool} {Q : PV → AH → Prop} (GG : X.G.Ok) (ha : H a = some (.inst D dx)) (hd : H dx = some (.attrs fs)) (hk : isiOk X.G.K D = true) (e : kitOne X.G.K (.ref D) (.ref C) = some b) (q : Q (.bool b) H) :
    BCall X (.builtin "isinstance") [.ref a, .ref C] H Q := fun m h tk vs Q' E' R V k => by
  obtain ⟨v, ws, rfl, V1, V2⟩ := V.inv_cons
  obtain ⟨v2, ws2, rfl, W2, V3⟩ := V2.inv_cons
  obtain rfl := V3.inv_nil
  obtain rfl := V1.inv_ref
  obtain rfl := W2.inv_ref
  obtain ⟨ox, od, mm, I, _⟩ := R.inst ha hd
  exact kia_one (isiOk.kit (ox := ox) (od := od) hk) (R.kin GG) I e (by intro z; cases z) fun tk' => k h tk' _ _ _ R (.refl _) (.refl _) VR.bool q
theorem BCall.isi2 {a D dx C1 C2 : Addr} {fs : List (Str × PV)} {b : Bool} {Q : PV → AH → Prop} (GG : X.G.Ok) (ha : H a = some (.inst D dx)) (hd : H dx = some (.attrs fs)) (hk : isiOk X.G.K D = true) (e : kitAny X.G.K (.ref D) [.ref C1, .ref C2] = some b) (q : Q (.bool b) H) :
    BCall X (.builtin "isinstance") [.ref a, .tup [.ref C1, .ref C2]] H Q := fun m h tk vs Q' E' R V k => by
  obtain ⟨v, ws, rfl, V1, V2⟩ := V.inv_cons
  obtain ⟨v2, ws2, rfl, W2, V3⟩ := V2.inv_cons
  obtain rfl := V3.inv_nil
  obtain rfl := V1.inv_ref
  obtain ⟨t, us, rfl, ht, U⟩ := W2.inv_tup
  obtain ⟨u1, us, rfl, U1, U⟩ := U.inv_cons
  obtain ⟨u2, us, rfl, U2, U⟩ := U.inv_cons
  obtain rfl := U.inv_nil
  obtain rfl := U1.inv_ref
  obtain rfl := U2.inv_ref
  obtain ⟨ox, od, mm, I, _⟩ := R.inst ha hd
  obtain ⟨ot, t1, t2, n, t3⟩ := ht
  obtain ⟨oc, odd, oda, osl⟩ := ot
  dsimp only at t2 t3
  subst t2 t3
  exact kia_tup (isiOk.kit (ox := ox) (od := od) hk) (R.kin GG) I t1 e (by intro z; cases z) fun tk' => k h tk' _ _ _ R (.refl _) (.refl _) VR.bool q

/-! ## Comparing data -/
noncomputable def rdL (f : PV → Option PyData) : List PV → Option (List PyData)
  | [] => some []
  | p :: ps => match f p, rdL f ps with
    | some d, some ds => some (d :: ds)
    | _, _ => none
noncomputable def rd (H : AH) : Nat → PV → Option PyData
  | 0, _ => none
  | n + 1, p => match p with
    | .none => some .none
    | .bool b => some (.bool b)
    | .int i => some (.int i)
    | .str s => if PyData.strOk s = true then some (.str s) else none
    | .tup ps => (rdL (rd H n) ps).map .tuple
    | .ref a => match H a with
      | some (.list ps) => (rdL (rd H n) ps).map .list
      | _ => none

theorem rdL_reads {G : GS} {f : PV → Option PyData} {n : Nat} (R : RelH G H h) (ih : ∀ p d v, f p = some d → VR h v p → (∃ as, Reads h v d as) ∧ d.canLay0 = true ∧ d.depth ≤ n) :
    ∀ (ps : List PV) (ds : List PyData) (vs : List Value), rdL f ps = some ds → VRs h vs ps → (∃ as, ReadsAll h vs ds as) ∧ PyData.canLayAll0 ds = true ∧ PyData.depthAll ds ≤ n
  | [], ds, vs, e, V => by
    cases e
    obtain rfl := V.inv_nil
    exact ⟨⟨_, .nil⟩, rfl, by simp [PyData.depthAll]⟩
  | p :: ps, ds, vs, e, V => by
    obtain ⟨v, ws, rfl, V1, V2⟩ := V.inv_cons
    unfold rdL at e
    cases e1 : f p with
    | none => rw [e1] at e; cases e
    | some d =>
      cases e2 : rdL f ps with
      | none => rw [e1, e2] at e; cases e
      | some ds' =>
        rw [e1, e2] at e; cases e
        obtain ⟨⟨as, r1⟩, c1, d1⟩ := ih p d v e1 V1
        obtain ⟨⟨bs, r2⟩, c2, d2⟩ := rdL_reads R ih ps ds' ws e2 V2
        exact ⟨⟨_, .cons r1 r2⟩, by simp [PyData.canLayAll0, c1, c2], by simp only [PyData.depthAll]; lia⟩
set_option tactic.hygienic true in
theorem rd_reads {G : GS} (R : RelH G H h) : ∀ (n : Nat) (p : PV) (d : PyData) (v : Value), rd H n p = some d → VR h v p → (∃ as, Reads h v d as) ∧ d.canLay0 = true ∧ d.depth ≤ n
  | 0, _, _, _, e, _ => by cases e
  | n + 1, p, d, v, e, V => by
    have ih := rd_reads R n
    cases p with
    | none => cases e; obtain rfl := V.inv_none; exact ⟨⟨_, .none⟩, rfl, by simp [PyData.depth]⟩
    | bool b => cases e; obtain rfl := V.inv_bool; exact ⟨⟨_, .bool b⟩, rfl, by simp [PyData.depth]⟩
    | int i => cases e; obtain ⟨t, rfl⟩ := V.inv_int; exact ⟨⟨_, .int i t⟩, rfl, by simp [PyData.depth]⟩
    | str s =>
      unfold rd at e
      dsimp only at e
      split at e
      · rename_i z; cases e; obtain ⟨t, rfl⟩ := V.inv_str; exact ⟨⟨_, .str s t⟩, by simp only [PyData.canLay0]; exact z, by simp [PyData.depth]⟩
      · cases e
    | tup ps =>
      unfold rd at e
      dsimp only at e
      cases e1 : rdL (rd H n) ps with
      | none => rw [e1] at e; cases e
      | some ds =>
        rw [e1] at e; cases e
        obtain ⟨a, vs, rfl, ⟨o, t1, t2, nn, t3⟩, V2⟩ := V.inv_tup
        obtain ⟨⟨as, r⟩, c, dd⟩ := rdL_reads R ih ps ds vs e1 V2
        exact ⟨⟨_, .tuple t1 t2 t3 (by simpa using r)⟩, c, by simp only [PyData.depth]; lia⟩
    | ref a =>
      unfold rd at e
      dsimp only at e
      cases ha : H a with
      | none => rw [ha] at e; cases e
      | some ao =>
        rw [ha] at e
        cases ao with
        | list ps =>
          dsimp only at e
          cases e1 : rdL (rd H n) ps with
          | none => rw [e1] at e; cases e
          | some ds =>
            rw [e1] at e; cases e
            obtain rfl := V.inv_ref
            obtain ⟨vs, nn, l1, v1⟩ := R.real _ _ ha
            obtain ⟨⟨as, r⟩, c, dd⟩ := rdL_reads R ih ps ds vs e1 v1
            exact ⟨⟨_, .list l1 rfl rfl (by simpa using r)⟩, c, by simp only [PyData.depth]; lia⟩
        | _ => cases e

theorem rd_sub {H H' : AH} (s : ∀ a o, H a = some o → H' a = some o) : ∀ (n : Nat) (p : PV) (d : PyData), rd H n p = some d → rd H' n p = some d
  | 0, _, _, e => by cases e
  | n + 1, p, d, e => by
    have ih := rd_sub s n
    have ihL : ∀ (ps : List PV) (ds : List PyData), rdL (rd H n) ps = some ds → rdL (rd H' n) ps = some ds := by
      intro ps
      induction ps with
      | nil => intro ds e; exact e
      | cons p ps ih2 =>
        intro ds e
        unfold rdL at e ⊢
        cases e1 : rd H n p with
        | none => rw [e1] at e; cases e
        | some d =>
          cases e2 : rdL (rd H n) ps with
          | none => rw [e1, e2] at e; cases e
          | some ds' => rw [e1, e2] at e; rw [ih _ _ e1, ih2 _ e2]; exact e
    cases p with
    | none => exact e
    | bool b => exact e
    | int i => exact e
    | str s => exact e
    | tup ps =>
      unfold rd at e ⊢
      dsimp only at e ⊢
      cases e1 : rdL (rd H n) ps with
      | none => rw [e1] at e; cases e
      | some ds => rw [e1] at e; rw [ihL _ _ e1]; exact e
    | ref a =>
      unfold rd at e ⊢
      dsimp only at e ⊢
      cases ha : H a with
      | none => rw [ha] at e; cases e
      | some ao =>
        rw [s _ _ ha]
        rw [ha] at e
        cases ao with
        | list ps =>
          dsimp only at e ⊢
          cases e1 : rdL (rd H n) ps with
          | none => rw [e1] at e; cases e
          | some ds => rw [e1] at e; rw [ihL _ _ e1]; exact e
        | _ => cases e

theorem cmp_data {op : CmpOp} {p q : PV} {a b : Value} {d1 d2 : PyData} {n1 n2 : Nat} {Q' : Value → Shared → Prop} {E' : Value → Shared → Prop} (O : X.Ok) (R : Rel X m H h) (va : VR h a p) (vb : VR h b q) (e1 : rd H n1 p = some d1) (e2 : rd H n2 q = some d2) (hn : n1 ≤ 60)
    (f : (op = .Eq ∧ Q' (.bool (PyData.eqv d1 d2)) (X.G.S h tk)) ∨ (op = .NotEq ∧ Q' (.bool (!PyData.eqv d1 d2)) (X.G.S h tk))) : wpAny X.M X.A (compareOp op a b) Q' E' (X.G.S h tk) := by
  obtain ⟨⟨as, r1⟩, c1, k1⟩ := rd_reads R.r _ _ _ _ (rd_sub (full_sub R.l) _ _ _ e1) va
  obtain ⟨⟨bs, r2⟩, c2, k2⟩ := rd_reads R.r _ _ _ _ (rd_sub (full_sub R.l) _ _ _ e2) vb
  have hu : X.A.units + min d1.depth d2.depth < cLine := by
    have := O.units
    have : min d1.depth d2.depth ≤ d1.depth := Nat.min_le_left _ _
    show _ < 9900
    lia
  rcases f with ⟨rfl, f⟩ | ⟨rfl, f⟩
  · exact SeqAt.compareEq_reads r1 r2 c1 c2 hu f
  · exact SeqAt.compareNe_reads r1 r2 c1 c2 hu f
inductive EqR (op : CmpOp) (p q : PV) (H : AH) (Q : Bool → Prop) : Prop
  | mk (d1 d2 : PyData) (h1 : rd H 60 p = some d1) (h2 : rd H 60 q = some d2) (h3 : Q (if op = .Eq then PyData.eqv d1 d2 else !PyData.eqv d1 d2))
theorem EV.cmpD {op : CmpOp} {l r : Expr} {pos} (O : X.Ok) (hop : op = .Eq ∨ op = .NotEq) (x : EV X l m H (fun p m1 H1 => EV X r m1 H1 (fun q m2 H2 => EqR op p q H2 fun b => Q (.bool b) m2 H2) E) E) (hm : behindInMarks op r = false := by with_unfolding_all rfl) :
    EV X (.Compare l [op] [r] pos) m H Q E := fun h tk R => by
  refine wpAny_Compare1 (x.run R (.refl _) (.refl _) fun h1 tk1 a p m1 H1 R1 P1 P1' K1 V1 q1 => ?_) hm
  refine q1.run R1 P1' K1 fun h2 tk2 b q m2 H2 R2 P2 P2' K2 V2 q2 => ?_
  obtain ⟨d1, d2, e1, e2, z⟩ := q2
  refine cmp_data O R2 (V1.mono P2) V2 e1 e2 (by lia) ?_
  rcases hop with rfl | rfl
  · exact .inl ⟨rfl, OKP.at (Q := fun h' v m' H' => ∃ p, VR h' v p ∧ Q p m' H') R2 P2' K2 ⟨_, VR.bool, z⟩⟩
  · exact .inr ⟨rfl, OKP.at (Q := fun h' v m' H' => ∃ p, VR h' v p ∧ Q p m' H') R2 P2' K2 ⟨_, VR.bool, z⟩⟩
theorem ET.cmpD {op : CmpOp} {l r : Expr} {pos} {Q : Bool → Loc → AH → Prop} (O : X.Ok) (hop : op = .Eq ∨ op = .NotEq) (x : EV X l m H (fun p m1 H1 => EV X r m1 H1 (fun q m2 H2 => EqR op p q H2 fun b => Q b m2 H2) E) E) (hm : behindInMarks op r = false := by with_unfolding_all rfl) :
    ET X (.Compare l [op] [r] pos) m H Q E := fun h tk R => by
  refine wpAny_isTrue_Compare1 (x.run R (.refl _) (.refl _) fun h1 tk1 a p m1 H1 R1 P1 P1' K1 V1 q1 => ?_) hm
  refine q1.run R1 P1' K1 fun h2 tk2 b q m2 H2 R2 P2 P2' K2 V2 q2 => ?_
  obtain ⟨d1, d2, e1, e2, z⟩ := q2
  refine cmp_data O R2 (V1.mono P2) V2 e1 e2 (by lia) ?_
  rcases hop with rfl | rfl
  · exact .inl ⟨rfl, wpAny_truthy_bool (OKP.at (Q := fun _ b m' H' => Q b m' H') R2 P2' K2 z)⟩
  · exact .inr ⟨rfl, wpAny_truthy_bool (OKP.at (Q := fun _ b m' H' => Q b m' H') R2 P2' K2 z)⟩
end
end Mine

namespace Mine

/-! ## Entering a def with cells -/
theorem bindL_notin {kd : Str → Option NameKind} : ∀ {bs : List (Str × Value)} {m : Str → Option Value} {x : Str}, x ∉ bs.map (·.1) → bindL kd bs m x = m x
  | [], m, x, _ => rfl
  | (n, v) :: r, m, x, h => by
    rw [List.map_cons, List.mem_cons, not_or] at h
    unfold bindL
    rw [bindL_notin h.2]
    split
    · exact if_neg h.1
    · rfl
theorem bindC_notin {kd : Str → Option NameKind} : ∀ {bs : List (Str × Value)} {m : Str → Option Value} {x : Str}, x ∉ bs.map (·.1) → bindC kd bs m x = m x
  | [], m, x, _ => rfl
  | (n, v) :: r, m, x, h => by
    rw [List.map_cons, List.mem_cons, not_or] at h
    unfold bindC
    rw [bindC_notin h.2]
    split
    · rfl
    · exact if_neg h.1
theorem bindL_at {kd : Str → Option NameKind} : ∀ {bs : List (Str × Value)} {m : Str → Option Value} {x : Str} {v : Value}, (bs.map (·.1)).Nodup → bs.lookup x = some v → kd x = some .local → bindL kd bs m x = some v
  | [], _, _, _, _, e, _ => by cases e
  | (n, w) :: r, m, x, v, nd, e, k => by
    rw [List.map_cons, List.nodup_cons] at nd
    rw [List.lookup_cons] at e
    unfold bindL
    by_cases z : x = n
    · subst z
      simp only [beq_self_eq_true] at e; cases e
      rw [bindL_notin nd.1, if_pos k, if_pos rfl]
    · have z' : (x == n) = false := by simpa using z
      simp only [z'] at e
      exact bindL_at nd.2 e k
theorem bindC_at {kd : Str → Option NameKind} : ∀ {bs : List (Str × Value)} {m : Str → Option Value} {x : Str} {v : Value}, (bs.map (·.1)).Nodup → bs.lookup x = some v → kd x ≠ some .local → bindC kd bs m x = some v
  | [], _, _, _, _, e, _ => by cases e
  | (n, w) :: r, m, x, v, nd, e, k => by
    rw [List.map_cons, List.nodup_cons] at nd
    rw [List.lookup_cons] at e
    unfold bindC
    by_cases z : x = n
    · subst z
      simp only [beq_self_eq_true] at e; cases e
      rw [bindC_notin nd.1, if_neg k, if_pos rfl]
    · have z' : (x == n) = false := by simpa using z
      simp only [z'] at e
      exact bindC_at nd.2 e k

noncomputable def layC : List (Str × Addr) → List (Str × PV) → AH → AH
  | [], _, H => H
  | (n, c) :: r, bs, H => upd (layC r bs H) c (.cell (bs.lookup n))
theorem layC_some {bs : List (Str × PV)} {H : AH} : ∀ {cs : List (Str × Addr)} {a o}, layC cs bs H a = some o → (∃ n, (n, a) ∈ cs ∧ o = .cell (bs.lookup n)) ∨ (H a = some o ∧ a ∉ cs.map (·.2))
  | [], a, o, e => .inr ⟨e, by simp⟩
  | (n, c) :: r, a, o, e => by
    unfold layC at e
    by_cases z : a = c
    · subst z; rw [upd_self] at e; cases e; exact .inl ⟨n, List.mem_cons_self, rfl⟩
    · rw [upd_ne z] at e
      rcases layC_some e with ⟨k, h1, h2⟩ | ⟨h1, h2⟩
      · exact .inl ⟨k, List.mem_cons_of_mem _ h1, h2⟩
      · exact .inr ⟨h1, by simp only [List.map_cons, List.mem_cons, not_or]; exact ⟨z, h2⟩⟩
theorem layC_at {bs : List (Str × PV)} {H : AH} : ∀ {cs : List (Str × Addr)} {a}, a ∉ cs.map (·.2) → layC cs bs H a = H a
  | [], _, _ => rfl
  | (n, c) :: r, a, h => by
    simp only [List.map_cons, List.mem_cons, not_or] at h
    unfold layC
    rw [upd_ne h.1]; exact layC_at h.2
theorem lookup_mem_nodup {α : Type} : ∀ {l : List (Str × α)} {n : Str} {c : α}, (l.map (·.1)).Nodup → (n, c) ∈ l → l.lookup n = some c
  | (k, d) :: r, n, c, nd, h => by
    rw [List.map_cons, List.nodup_cons] at nd
    rw [List.lookup_cons]
    rcases List.mem_cons.mp h with e | h
    · cases e; simp
    · have : n ≠ k := fun z => nd.1 (z ▸ List.mem_map.mpr ⟨(n, c), h, rfl⟩)
      have z' : (n == k) = false := by simpa using this
      rw [z']; exact lookup_mem_nodup nd.2 h
theorem zip_fst {α : Type} : ∀ {names : List Str} {vs : List α}, vs.length = names.length → (names.zip vs).map (·.1) = names
  | [], [], _ => rfl
  | n :: ns, v :: vs, e => by simp [zip_fst (names := ns) (vs := vs) (by simpa using e)]
  | [], _ :: _, e => by simp at e
  | _ :: _, [], e => by simp at e

/-- only the names that are plain locals -/
noncomputable def onlyLoc (names : List (Str × NameKind)) (m : Loc) : Loc := m.filter fun x => decide (names.lookup x.1 = some .local)
set_option tactic.hygienic true in
theorem onlyLoc_lookup {names : List (Str × NameKind)} : ∀ {m : Loc} {x p}, (onlyLoc names m).lookup x = some p → m.lookup x = some p ∧ names.lookup x = some .local
  | [], x, p, e => by cases e
  | (y, q) :: r, x, p, e => by
    unfold onlyLoc at e
    rw [List.filter_cons] at e
    split at e
    · rename_i hy
      rw [List.lookup_cons] at e ⊢
      by_cases z : x = y
      · subst z; simp only [beq_self_eq_true] at e ⊢; exact ⟨e, of_decide_eq_true hy⟩
      · have z' : (x == y) = false := by simpa using z
        simp only [z'] at e ⊢; exact onlyLoc_lookup e
    · rename_i hy
      have ih := onlyLoc_lookup (m := r) e
      refine ⟨?_, ih.2⟩
      rw [List.lookup_cons]
      have z : x ≠ y := fun z => hy (by subst z; exact decide_eq_true ih.2)
      have z' : (x == y) = false := by simpa using z
      rw [z']; exact ih.1

set_option tactic.hygienic true in
theorem CallL.introC {G : GS} {n : Nat} {nn : Bool} {f : Addr} {ps : List PV} {H : AH} {Q : PV → AH → Prop} {E : AH → Prop} {name qual : Str} {params : Arguments} {body : List Stmt} {scope : Scope} {dV kV doc pm cdv ct oc : Value} {an od : Option Addr} {osl : Array (Option Value)}
    (GG : G.Ok) (ho : G.K.lookup f = some ⟨oc, od, .func (fnOf name qual params body scope dV kV doc pm an cdv ct), osl⟩) (hcd : codeIn G.K cdv qual = true) (names : List Str)
    (hbind : ∀ vs : List Value, vs.length = names.length → bindArgs (fnOf name qual params body scope dV kV doc pm an cdv ct) ⟨vs, []⟩ = pure (names.zip vs))
    (hkind : ∀ n, ∀ x ∈ names, scope.names.lookup x = some .local ∨ (scope.names.lookup x = some .cell ∧ ((cellsFrom n scope.names []).lookup x).isSome = true)) (hnd : names.Nodup)
    (hcnd : ∀ n, ((cellsFrom n scope.names []).map (·.1)).Nodup) (hcl : ∀ n, ∀ x ∈ cellsFrom n scope.names [], scope.names.lookup x.1 = some .cell) (hlen : ps.length = names.length)
    (hco : scope.isCoroutine = false) (hgen : scope.isGenerator = false) (hk : scope.kind = .function)
    (h : ∀ V : Vs, (fxW qual scope f cdv nn G V n).Ok → (∀ x ∈ cellsFrom (V.L + 1) scope.names [], H x.2 = none) →
      EX (fxW qual scope f cdv nn G V n) body (onlyLoc scope.names (names.zip ps)) (layC (cellsFrom (V.L + 1) scope.names []) (names.zip ps) H) (fun fl _ H' => Q (retOf fl) H') (fun _ H' => E H')) :
    CallL G (n + 1) nn f ps H Q E := by
  intro B hfix hfree A outer hp tk vs a1 a2 a3 a4 a5 a6 a7 a8
  have hvl : vs.length = names.length := a8.length.trans hlen
  have hd : A.depth < recursionLimit := by unfold recursionLimit; lia
  have X0 := GG.kin.keeps a6.stays
  have hlim := GG.nolimit.keeps a6.stays
  refine codeAny_call_cells (s := G.S hp tk) (fd := fnOf name qual params body scope dV kV doc pm an cdv ct) (body := body) (binds := names.zip vs) hd (X0 _ _ ho) rfl hlim (codeRec_of X0 hcd) rfl (hbind vs hvl) rfl
    (fun x hx => hkind _ _ (List.of_mem_zip hx).1) (fun s₁ ic => ?_) hco hgen hk
  obtain ⟨h₁, tk₁, rfl, hkeep⟩ := ic.done
  generalize hL : hp.objs.size = L at ic ⊢
  have hLsz : hp.objs.size ≤ L := by rw [hL]; exact Nat.le_refl _
  have hkL : ∀ b o, hp.get? b = some o → h₁.get? b = some o := hkeep
  show wpAny _ (A.deeper (envOfC qual scope L f cdv)) (execs body (envOfC qual scope L f cdv)) _ _ (G.S h₁ tk₁)
  have icc : ∀ n c, (cellsFrom (L + 1) scope.names []).lookup n = some c → h₁.IsCell c (bindC (fun x => scope.names.lookup x) (names.zip vs) (fun w9 => none) n) := ic.cell
  have icn : h₁.Ns L (bindL (fun x => scope.names.lookup x) (names.zip vs) (fun w9 => none)) := ic.toInCall.ns
  have iab : ∀ n c, (n, c) ∈ cellsFrom (L + 1) scope.names [] → L < c := ic.above
  have O : (fxOf G A (envOfC qual scope L f cdv) outer n nn B).Ok :=
    ⟨hk, rfl, rfl, Around.frames_deeper a1, rfl, by show A.depth + 1 + n ≤ 900; lia, by show A.units + 3 + 20 * n ≤ 9000; lia, a4, hfix⟩
  have oB : ∀ a, hp.objs.size ≤ a → B.lookup a = none ∧ H a = none := fun a ha => over_none (a6.none_of_get (get_none_of_ge ha))
  have cge : ∀ x ∈ cellsFrom (L + 1) scope.names [], hp.objs.size ≤ x.2 := fun x hx => Nat.le_trans hLsz (Nat.le_of_lt (iab x.1 x.2 hx))
  have hcn : ∀ x ∈ cellsFrom (L + 1) scope.names [], H x.2 = none := fun x hx => (oB _ (cge x hx)).2
  have hBL := oB L hLsz
  have hLc : L ∉ (cellsFrom (L + 1) scope.names []).map (·.2) := fun hm => by
    obtain ⟨x, hx, e⟩ := List.mem_map.mp hm
    have := iab x.1 x.2 hx
    rw [e] at this; exact Nat.lt_irrefl _ this
  have P1 : Pers hp h₁ := Pers.of_keeps hkL
  have zn : ((names.zip vs).map (·.1)).Nodup := by rw [zip_fst hvl]; exact hnd
  have fe : ∀ (m' : Loc) (H' : AH), (fxOf G A (envOfC qual scope L f cdv) outer n nn B).full m' H' = upd (over B H') L (.frame false m') := fun w9 w9 => FX.full_upd_over
  -- the whole heap
  have R : Rel (fxOf G A (envOfC qual scope L f cdv) outer n nn B) (onlyLoc scope.names (names.zip ps)) (layC (cellsFrom (L + 1) scope.names []) (names.zip ps) H) h₁ := by
    have split : ∀ a o, (fxOf G A (envOfC qual scope L f cdv) outer n nn B).full (onlyLoc scope.names (names.zip ps)) (layC (cellsFrom (L + 1) scope.names []) (names.zip ps) H) a = some o →
        (a = L ∧ o = .frame false (onlyLoc scope.names (names.zip ps))) ∨ (∃ k, (k, a) ∈ cellsFrom (L + 1) scope.names [] ∧ o = .cell ((names.zip ps).lookup k)) ∨ over B H a = some o := by
      intro a o e
      rw [fe] at e
      by_cases z : a = L
      · subst z; rw [upd_self] at e; cases e; exact .inl ⟨rfl, rfl⟩
      · rw [upd_ne z] at e
        unfold over at e ⊢
        split at e
        · rename_i o' q; exact .inr (.inr e)
        · rcases layC_some e with ⟨k, h1, h2⟩ | ⟨h1, h2⟩
          · exact .inr (.inl ⟨k, h1, h2⟩)
          · exact .inr (.inr h1)
    have back : ∀ a o, over B H a = some o → (fxOf G A (envOfC qual scope L f cdv) outer n nn B).full (onlyLoc scope.names (names.zip ps)) (layC (cellsFrom (L + 1) scope.names []) (names.zip ps) H) a = some o := by
      intro a o e
      have hlt : a < hp.objs.size := (a6.real _ _ e).lt
      have na : a ≠ L := fun z => by rw [z, ← hL] at hlt; exact Nat.lt_irrefl _ hlt
      rw [fe, upd_ne na]
      unfold over at e ⊢
      split at e
      · exact e
      · rw [layC_at fun hm => by
          obtain ⟨x, hx, e2⟩ := List.mem_map.mp hm
          have := cge x hx
          rw [e2] at this; exact absurd hlt (Nat.not_lt.mpr this)]
        exact e
    refine ⟨⟨fun b o e => hkL b o (a6.stays b o e), fun a o e => ?_, fun a o e => ?_, a6.glob⟩, fun a na => ?_, fun e he => ?_, ?_⟩
    · rcases split a o e with ⟨rfl, rfl⟩ | ⟨k, hk1, rfl⟩ | e
      · refine ⟨_, icn, (fun z => by cases z), fun x p q => ?_⟩
        obtain ⟨q1, q2⟩ := onlyLoc_lookup q
        obtain ⟨v, e1, e2⟩ := zip_lookup (names := names) a8 x p q1
        exact ⟨v, bindL_at zn e1 q2, e2.mono P1⟩
      · have hl := lookup_mem_nodup (hcnd _) hk1
        obtain ⟨oc', g1, g2⟩ := icc k a hl
        have hkc : scope.names.lookup k = some .cell := hcl _ _ hk1
        refine ⟨oc', _, g1, g2, ?_⟩
        cases q : (names.zip ps).lookup k with
        | some p =>
          obtain ⟨v, e1, e2⟩ := zip_lookup (names := names) a8 k p q
          exact ⟨v, bindC_at zn e1 (by rw [hkc]; decide), e2.mono P1⟩
        | none =>
          show bindC _ _ _ _ = none
          rw [bindC_notin]
          intro hm
          rw [zip_fst hvl] at hm
          have : k ∈ (names.zip ps).map (·.1) := by rw [zip_fst hlen]; exact hm
          obtain ⟨⟨k', p⟩, h1, h2⟩ := List.mem_map.mp this
          have h3 := lookup_mem_nodup (l := names.zip ps) (by rw [zip_fst hlen]; exact hnd) h1
          dsimp only at h2; subst h2
          rw [q] at h3; cases h3
      · exact (a6.real _ _ e).mono P1 fun oo ho => hkL _ _ ho
    · have low := a6.low
      rcases split a o e with ⟨rfl, rfl⟩ | ⟨k, hk1, rfl⟩ | e
      · exact ⟨base_none a6.stays (get_none_of_ge hLsz), .inl fun q => by rw [← hL] at q; rw [q] at low; exact absurd low (by unfold sysModules; lia)⟩
      · exact ⟨base_none a6.stays (get_none_of_ge (cge _ hk1)), .inl fun q => by have := cge _ hk1; dsimp only at this; rw [q] at this; exact absurd low (by unfold sysModules at this; lia)⟩
      · exact a6.fresh _ _ e
    · rcases na with rfl | ⟨o, q⟩
      · show layC (cellsFrom (_ + 1) scope.names []) (names.zip ps) H _ = none
        rw [layC_at hLc]; exact hBL.2
      · have hb : H a = none := hfree _ _ q
        rw [layC_at fun hm => by
          obtain ⟨x, hx, e2⟩ := List.mem_map.mp hm
          have := (oB _ (cge x hx)).1
          rw [e2] at this
          have q' : B.lookup a = some o := q
          rw [this] at q'; cases q']
        exact hb
    · rcases List.mem_cons.mp he with rfl | he
      · exact ⟨by show scope.kind ≠ .module; rw [hk]; decide, L, false, _, rfl, FX.full_self⟩
      · obtain ⟨b1, L', u, mm, b2, b3⟩ := a7 e he
        exact ⟨b1, L', u, mm, b2, back _ _ b3⟩
    · rcases a5 with z | ⟨e, o, ws, e1, e2, e3⟩
      · exact .inl z
      · exact .inr ⟨e, o, ws, e1, back _ _ e2, e3⟩
  have hL2 : ∀ {H' : AH}, (fxOf G A (envOfC qual scope L f cdv) outer n nn B).Free H' → over B H' L = none := fun l => by rw [over_at hBL.1]; exact l L (.inl rfl)
  have fr : ∀ {m' : Loc} {H' : AH}, (fxOf G A (envOfC qual scope L f cdv) outer n nn B).Free H' → ∀ a o, over B H' a = some o → (fxOf G A (envOfC qual scope L f cdv) outer n nn B).full m' H' a = some o := fun {m' H'} l a o q => by
    rw [fe, upd_ne fun z => by rw [z, hL2 l] at q; cases q]; exact q
  have fb : ∀ {H' : AH}, (fxOf G A (envOfC qual scope L f cdv) outer n nn B).Free H' → FreeB B H' := fun l a o q => l a (.inr ⟨o, q⟩)
  have kc : KeepH H (layC (cellsFrom (L + 1) scope.names []) (names.zip ps) H) := fun a o e f => by
    rw [layC_at fun hm => by
      obtain ⟨x, hx, e2⟩ := List.mem_map.mp hm
      have := hcn x hx
      rw [e2, e] at this; cases this]
    exact e
  have kb : ∀ {H' : AH}, FreeB B H' → KeepH (layC (cellsFrom (L + 1) scope.names []) (names.zip ps) H) H' → KeepH (over B H) (over B H') := fun {H'} fb' k a o e f => by
    cases q : B.lookup a with
    | some o' => unfold over at e ⊢; rw [q] at e ⊢; exact e
    | none => rw [over_at q] at e ⊢; exact k a o (kc a o e f) f
  refine wpAny_mono (h ⟨A, outer, L, B⟩ O hcn h₁ tk₁ R) (fun fl s' hs => ?_) fun v s' hs => ?_
  · obtain ⟨h', tk', m', H', rfl, R', P', K', p, hf, q⟩ := hs
    exact ⟨h', tk', retOf p, over B H', rfl, R'.r.sub (fr R'.l), P1.trans P', kb (fb R'.l) K', (by cases fl <;> cases p <;> first | exact hf | exact hf.elim | exact VR.none), H', rfl, fb R'.l, q⟩
  · obtain ⟨h', tk', m', H', e, rfl, R', P', K', rfl, fl, q⟩ := hs
    refine leave_X O R' fl fun h2 R2 P2 F2 => ?_
    refine ⟨h2, tk', over B H', e, rfl, R2.r.sub (fr R2.l), (P1.trans P').trans P2, kb (fb R2.l) K', rfl, F2.sub fun a z => ?_, H', rfl, fb R2.l, q⟩
    cases z2 : over B H' a with
    | none => rfl
    | some o => rw [fr (m' := m') R2.l a o z2] at z; cases z
end Mine

namespace Mine

theorem VRs.of_ints {h : Heap} : ∀ {vs : List Value} {ns : List Int}, IntsAre vs ns → VRs h vs (ns.map PV.int)
  | _, _, .nil => VRs.nil
  | _, _, .cons n t r => VRs.cons VR.int (VRs.of_ints r)
theorem intsAre_of : ∀ {vs : List Value} {ns : List Int}, vs.length = ns.length → (∀ (j : Nat) (v : Value), vs[j]? = some v → ∃ t m, ns[j]? = some m ∧ v = .int m t) → IntsAre vs ns
  | [], [], _, _ => .nil
  | v :: vs, n :: ns, e, f => by
    obtain ⟨t, m, h1, rfl⟩ := f 0 v rfl
    simp at h1; subst h1
    exact .cons n t (intsAre_of (by simpa using e) fun j w hw => by simpa using f (j + 1) w (by simpa using hw))
  | [], _ :: _, e, _ => by simp at e
  | _ :: _, [], e, _ => by simp at e

section
variable {prog : Program} {w : World} {A : Around} {E : Value → Shared → Prop} {s : Shared} {T : String} {r d : Addr} {n : Nat} {P : Nat → Value → Prop} {OK : Heap → Prop}
theorem sorted_src {ns : List Int} {Q : Value → Shared → Prop} (K : KdlSrc prog w T r d n P OK) (hh : A.handled = none) (hok : OK s.heap) (hn : n < 64) (hl : ns.length = n) (hP : ∀ j v, P j v → ∃ t m, ns[j]? = some m ∧ v = .int m t)
    (h : ∀ (h1 h' : Heap) tk vs' ns' e, (∀ b o, s.heap.get? b = some o → h1.get? b = some o) → (∀ b o, h1.get? b = some o → h'.get? b = some o) → h'.get? h1.objs.size = some (seqObj "list" (List.toArray vs') e) → IntsAre vs' ns' → ns'.Perm ns → ns'.Pairwise (· ≤ ·) → Q (.ref h1.objs.size) { s with heap := h', toks := tk }) :
    wpAny (model prog w) A (PySem.call (.builtin "sorted") [.ref r]) Q E s := by
  refine call_function_entry kind_sorted plain_sorted entry_sorted (args_sorted1 _) ?_
  unfold Builtin.«sorted»
  refine wpAny_bind (m := checkCount "sorted" 1 1 _) (wpAny_pure ?_)
  have hn' : n ≤ sizeLine := by rw [sizeLine_eq]; lia
  refine wpAny_bind (kdu_collect (A := A.in1) K hh hok hn' fun h' tk acc hk hacc => ?_)
  have hal : acc.toList.length = n := by rw [Array.length_toList]; exact hacc.1
  refine wpAny_bind (wpAny_newList ?_ (by rw [hal]; exact hn'))
  have hI : IntsAre acc.toList ns := intsAre_of (by rw [hal, hl]) fun j v e => hP j v (hacc.2 j v (by rw [← Array.getElem?_toList]; exact e))
  have hoL : (h'.push (seqObj "list" acc.toList.toArray 0)).get? h'.objs.size = some (seqObj "list" acc.toList.toArray 0) := Heap.get?_push_size _ rfl
  refine wpAny_bind (wpAny_holding (wpAny_call_entry slot_list_sort ⟨_, hoL, rfl⟩ entry_list_sort (list_sort_tree hoL hI (by rw [hal]; exact hn) fun out ns' a1 a2 a3 => ⟨_, rfl, ?_⟩) (args_list_sort _)))
  refine wpAny_pure ⟨_, rfl, ?_⟩
  obtain ⟨e, he⟩ := sortedHeap_at (vs := acc.toList) (out := out) hoL
  refine h h' _ tk out.toList ns' e hk (fun b o hb' => ?_) (by rw [Array.toArray_toList]; exact he) a1 a2 a3
  have hlt := Heap.lt_size hb'
  rw [sortedHeap_old (Nat.ne_of_lt hlt) (by rw [Heap.size_push]; exact Nat.lt_succ_of_lt hlt), Heap.get?_push_of_some _ hb']
end

section
variable {X : FX} {m : Loc} {H : AH} {Q : PV → Loc → AH → Prop} {E : Loc → AH → Prop} {h : Heap} {tk : Nat}
theorem Rel.sorted {h1 h' : Heap} {tk' : Nat} {vs' : List Value} {ns' : List Int} {e : Nat} {Q' : Value → Shared → Prop} {Q : PV → AH → Prop} (R : Rel X m H h) (k1 : ∀ b o, h.get? b = some o → h1.get? b = some o) (k2 : ∀ b o, h1.get? b = some o → h'.get? b = some o)
    (hg : h'.get? h1.objs.size = some (seqObj "list" (List.toArray vs') e)) (hI : IntsAre vs' ns')
    (k : ∀ h' tk' r p H', Rel X m H' h' → Pers h h' → KeepH H H' → VR h' r p → Q p H' → Q' r (X.G.S h' tk')) (q : ∀ b, H b = none → Q (.ref b) (upd H b (.list (ns'.map .int)))) : Q' (.ref h1.objs.size) (X.G.S h' tk') := by
  have R1 := R.keeps k1
  obtain ⟨R2, K2, P2, e⟩ := R1.new (a := h1.objs.size) (o := .list (ns'.map .int)) k2 (Nat.le_refl _) ⟨vs', _, hg, VRs.of_ints hI⟩
  exact k _ tk' _ _ _ R2 ((Pers.of_keeps k1).trans P2) K2 VR.ref (q _ e)

theorem BCall.sorted_dict {a : Addr} {es : List (Int × PV)} {ep : Nat} {Q : PV → AH → Prop} (O : X.Ok) (hn : X.hn = true) (hv : H a = some (.dict es ep)) (hz : (es.map (·.1)).Nodup → es.length < 64)
    (q : ∀ b (ns : List Int), H b = none → ns.Perm (es.map (·.1)) → ns.Pairwise (· ≤ ·) → (es.map (·.1)).Nodup → Q (.ref b) (upd H b (.list (ns.map .int)))) : BCall X (.builtin "sorted") [.ref a] H Q := fun m h tk vs Q' E' R V k => by
  obtain ⟨v, ws, rfl, V1, V2⟩ := V.inv_cons
  obtain rfl := V2.inv_nil
  obtain rfl := V1.inv_ref
  obtain ⟨⟨xs, d1, d2, d3⟩, _, fe⟩ := R.at hv
  have hl : xs.length = es.length := by have := congrArg List.length d2; simpa using this
  have nd := d2 ▸ d1.nodup
  have hz := hz nd
  refine sorted_src (kdl_dict (knd := intKind X.G.prog X.G.w) (kvs := xs) (ep := ep) (by simpa using R.r.notMods fe)) (O.hand hn) d1 (by lia) (ns := es.map (·.1)) (by rw [List.length_map, hl]) (fun j v hv => ?_) fun h1 h' tk' vs' ns' e k1 k2 hg hI hp hs => Rel.sorted R k1 k2 hg hI k fun b hb => q b ns' hb hp hs nd
  obtain ⟨kk, x, h1, h2⟩ := hv
  obtain ⟨t, rfl⟩ := Value.isInt_shape h2
  refine ⟨t, kk, ?_, rfl⟩
  rw [← d2, List.getElem?_map, h1]; rfl
theorem BCall.sorted_vals {a r : Addr} {o : Obj} {es : List (Int × PV)} {ep : Nat} {Q : PV → AH → Prop} {zs : List Int} (O : X.Ok) (hn : X.hn = true) (hr : H r = some (.raw o)) (ho : o.cls = .type "dict_values" ∧ o.data = .fields #[.ref a]) (hv : H a = some (.dict es ep)) (hz : (es.map (·.1)).Nodup → es.length < 64) (hzs : es.map (·.2) = zs.map PV.int)
    (q : ∀ b (ns : List Int), H b = none → ns.Perm zs → ns.Pairwise (· ≤ ·) → Q (.ref b) (upd H b (.list (ns.map .int)))) : BCall X (.builtin "sorted") [.ref r] H Q := fun m h tk vs Q' E' R V k => by
  obtain ⟨v, ws, rfl, V1, V2⟩ := V.inv_cons
  obtain rfl := V2.inv_nil
  obtain rfl := V1.inv_ref
  obtain ⟨⟨xs, d1, d2, d3⟩, _, fe⟩ := R.at hv
  obtain ⟨⟨r1, _⟩, _⟩ := R.at hr
  have hl : xs.length = es.length := by have := congrArg List.length d2; simpa using this
  have hz := hz (d2 ▸ d1.nodup)
  have hzl : zs.length = es.length := by have := congrArg List.length hzs; simpa using this.symm
  refine sorted_src (kdl_values (knd := intKind X.G.prog X.G.w) (kvs := xs) (ep := ep)) (O.hand hn) ⟨⟨o, r1, ho⟩, d1⟩ (by lia) (ns := zs) (by rw [hzl, hl]) (fun j v hv => ?_) fun h1 h' tk' vs' ns' e k1 k2 hg hI hp hs => Rel.sorted R k1 k2 hg hI k fun b hb => q b ns' hb hp hs
  obtain ⟨kk, h1⟩ := hv
  rw [hzs] at d3
  have hj : (xs.map (·.2))[j]? = some v := by rw [List.getElem?_map, h1]; rfl
  have hlt : j < zs.length := by have := (List.getElem?_eq_some_iff.mp h1).1; lia
  obtain ⟨v', e1, e2⟩ := VRs.get d3 (i := j) (p := .int zs[j]) (by rw [List.getElem?_map, List.getElem?_eq_getElem hlt]; rfl)
  rw [hj] at e1; cases e1
  obtain ⟨t, rfl⟩ := e2.inv_int
  exact ⟨t, zs[j], List.getElem?_eq_getElem hlt, rfl⟩

/-! views of a dict -/
theorem EV.values {o : Expr} {apos pos : Pos} (x : EV X o m H (fun p m1 H1 => ∃ a es ep, p = .ref a ∧ H1 a = some (.dict es ep) ∧ ∀ r ob, H1 r = none → (ob.cls = .type "dict_values" ∧ ob.data = .fields #[.ref a]) → Q (.ref r) m1 (upd H1 r (.raw ob))) E)
    (hb : attributeBase o "values" X.env (eval o X.env) = eval o X.env := by with_unfolding_all rfl)
    (hl : (apos.endLine == pos.line) = true := by rfl) : EV X (.Call (.Attribute o "values" apos) [] [] pos) m H Q E := fun h tk R => by
  show wpAny _ _ _ _ _ _
  rw [arm_eval_Call, hb]
  refine wpAny_bind (x.run R (.refl _) (.refl _) fun h1 tk1 v p m1 H1 R1 P1 P1' K1 V1 q1 => ?_)
  obtain ⟨a, es, ep, rfl, ha, q⟩ := q1
  obtain rfl := V1.inv_ref
  obtain ⟨⟨xs, d1, _, _⟩, _, fe⟩ := R1.at ha
  refine wpAny_bind (wpAny_standAt (methodCall_plain (es := []) hl rfl (by show 0 < 20; decide) fun pl => ?_))
  refine getMethod_builtin d1.dictOf.typeIs PySem.F.plainAttrs_dict PySem.F.slot_dict_values PySem.F.type_dict_values d1.dictOf.mapOf.noDict ?_
  refine callWith_builtin plain_any (evalArgs_es (spliced_nil ?_))
  refine call_meetsIn PySem.F.slot_dict_values d1.dictOf.typeIs PySem.F.entry_dict_values (PySem.F.args_dict_values_1 _) (meets_dict_values (intKind X.G.prog X.G.w) a (by simpa using R1.r.notMods fe)) ⟨⟨_, d1.dictOf⟩, ?_⟩
  have k : ∀ b o, h1.get? b = some o → (h1.push { cls := .type "dict_values", data := .fields #[.ref a] }).get? b = some o := fun b o e => Heap.get?_push_of_some _ e
  obtain ⟨R2, K2, P2, e⟩ := R1.new (a := h1.objs.size) (o := .raw { cls := .type "dict_values", data := .fields #[.ref a] }) k (Nat.le_refl _) ⟨Heap.get?_push_size _ rfl, by intro q; exact absurd (Value.type.inj q) (by decide)⟩
  exact OKP.at (tk' := tk1) (Q := fun h' v m' H' => ∃ p, VR h' v p ∧ Q p m' H') R2 (P1'.trans P2) (K1.trans K2) ⟨_, VR.ref, q _ _ e ⟨rfl, rfl⟩⟩
theorem EV.items {o : Expr} {apos pos : Pos} (x : EV X o m H (fun p m1 H1 => ∃ a es ep, p = .ref a ∧ H1 a = some (.dict es ep) ∧ ∀ r ob, H1 r = none → (ob.cls = .type "dict_items" ∧ ob.data = .fields #[.ref a]) → Q (.ref r) m1 (upd H1 r (.raw ob))) E)
    (hb : attributeBase o "items" X.env (eval o X.env) = eval o X.env := by with_unfolding_all rfl)
    (hl : (apos.endLine == pos.line) = true := by rfl) : EV X (.Call (.Attribute o "items" apos) [] [] pos) m H Q E := fun h tk R => by
  show wpAny _ _ _ _ _ _
  rw [arm_eval_Call, hb]
  refine wpAny_bind (x.run R (.refl _) (.refl _) fun h1 tk1 v p m1 H1 R1 P1 P1' K1 V1 q1 => ?_)
  obtain ⟨a, es, ep, rfl, ha, q⟩ := q1
  obtain rfl := V1.inv_ref
  obtain ⟨⟨xs, d1, _, _⟩, _, fe⟩ := R1.at ha
  refine wpAny_bind (wpAny_standAt (methodCall_plain (es := []) hl rfl (by show 0 < 20; decide) fun pl => ?_))
  refine getMethod_builtin d1.dictOf.typeIs PySem.F.plainAttrs_dict PySem.F.slot_dict_items PySem.F.type_dict_items d1.dictOf.mapOf.noDict ?_
  refine callWith_builtin plain_any (evalArgs_es (spliced_nil ?_))
  refine call_meetsIn PySem.F.slot_dict_items d1.dictOf.typeIs PySem.F.entry_dict_items (PySem.F.args_dict_items_1 _) (meets_dict_items (intKind X.G.prog X.G.w) a (by simpa using R1.r.notMods fe)) ⟨⟨_, d1.dictOf⟩, ?_⟩
  have k : ∀ b o, h1.get? b = some o → (h1.push { cls := .type "dict_items", data := .fields #[.ref a] }).get? b = some o := fun b o e => Heap.get?_push_of_some _ e
  obtain ⟨R2, K2, P2, e⟩ := R1.new (a := h1.objs.size) (o := .raw { cls := .type "dict_items", data := .fields #[.ref a] }) k (Nat.le_refl _) ⟨Heap.get?_push_size _ rfl, by intro q; exact absurd (Value.type.inj q) (by decide)⟩
  exact OKP.at (tk' := tk1) (Q := fun h' v m' H' => ∃ p, VR h' v p ∧ Q p m' H') R2 (P1'.trans P2) (K1.trans K2) ⟨_, VR.ref, q _ _ e ⟨rfl, rfl⟩⟩
end
end Mine

namespace Mine

section
variable {X : FX} {e l r : Expr} {m : Loc} {H : AH} {Q : PV → Loc → AH → Prop} {E : Loc → AH → Prop} {h : Heap} {tk : Nat}

/-! ## Comprehensions over an iterator that keeps its tuple -/
structure IterG (G : GS) (elts : List Expr) (x1 : Nat) (tp : Pos) (nn : Bool) (it : Addr) (ps : List PV) (src : Option (Addr × AO)) (St : Nat → Obj → Prop) (Mid : Nat → Obj → Value → Prop) : Prop where
  cls : ∀ i o, St i o → o.cls ≠ .type "tuple"
  clsM : ∀ i o v, Mid i o v → o.cls ≠ .type "tuple"
  item : ∀ (i : Nat) (p : PV) (A : Around) (h : Heap) (tk : Nat) (o : Obj) (H : AH) (Q : Option Value → Shared → Prop) (E' : Value → Shared → Prop), ps[i]? = some p → RelH G H h → srcIn src H → h.get? it = some o → St i o → H it = some (.raw o) →
    (∀ h' tk' o' v, Heap.ExtBut it h h' → h'.get? it = some o' → Mid (i + 1) o' v → VR h' v p → Q (some v) (G.S h' tk')) → wpAny G.M A (pyNext (.ref it)) Q E' (G.S h tk)
  go : ∀ (i : Nat) (A : Around) (h : Heap) (tk : Nat) (o : Obj) (v : Value) (Q : Unit → Shared → Prop) (E' : Value → Shared → Prop), h.get? it = some o → Mid i o v → (∀ h' o', Heap.ExtBut it h h' → h'.get? it = some o' → St i o' → Q () (G.S h' tk)) → wpAny G.M A (letOwnedTupleGo (.Tuple elts x1 tp) (.ref it) v) Q E' (G.S h tk)
  done : ∀ (i : Nat) (A : Around) (h : Heap) (tk : Nat) (o : Obj) (H : AH) (Q : Option Value → Shared → Prop) (E' : Value → Shared → Prop), ps[i]? = none → HandIs h A.handled → (nn = true → A.handled = none) → (∀ e, A.handled = some (.ref e) → e ≠ it) →
    RelH G H h → srcIn src H → h.get? it = some o → St i o → H it = some (.raw o) → (∀ h' tk', Heap.ExtBut it h h' → Q none (G.S h' tk')) → wpAny G.M A (pyNext (.ref it)) Q E' (G.S h tk)
  self : ∀ (i : Nat) (A : Around) (h : Heap) (tk : Nat) (o : Obj) (Q : Value → Shared → Prop) (E' : Value → Shared → Prop), h.get? it = some o → St i o → Q (.ref it) (G.S h tk) → wpAny G.M A (pyIter (.ref it)) Q E' (G.S h tk)

noncomputable def IterOfG (X : FX) (elts : List Expr) (x1 : Nat) (tp : Pos) (p : PV) (H : AH) (ps : List PV) (src : Option (Addr × AO)) : Prop :=
  ∀ (m : Loc) (h : Heap) (tk : Nat) (v : Value) (Q : Value → Shared → Prop) (E' : Value → Shared → Prop), Rel X m H h → VR h v p →
    (∀ it h' tk' o St Mid, (∀ b ob, h.get? b = some ob → h'.get? b = some ob) → h.objs.size ≤ it → h'.get? it = some o → St 0 o → IterG X.G elts x1 tp X.hn it ps src St Mid → Q (.ref it) (X.G.S h' tk')) → wpAny X.M X.A (pyIter v) Q E' (X.G.S h tk)

theorem entry_itemiter_iter : entryFor table "dict_itemiterator.__iter__" = some Builtin.«dict_keyiterator.__iter__» :=
  entryFor_alias (id' := "dict_keyiterator.__iter__") ((fastTable_eq_tree _).trans (by kernel_rfl)) (by decide +kernel) (by decide +kernel) ((fastTable_eq_tree _).trans (by kernel_rfl))
theorem wpAny_pyIter_itemiter {prog : Program} {w : World} {A : Around} {E' : Value → Shared → Prop} {s : Shared} {it : Addr} {Q : Value → Shared → Prop} (hT : s.TypeIs (.ref it) "dict_itemiterator") (h : Q (.ref it) s) : wpAny (model prog w) A (pyIter (.ref it)) Q E' s := by
  refine wpAny_pyIter_slot hT F.slot_dict_itemiterator_iter (wpAny_call_entry F.slot_dict_itemiterator_iter hT entry_itemiter_iter ?_ (F.args_dict_itemiterator_iter_1 _))
  show wpAny _ _ (ret (.ref it)) _ _ s
  exact wpAny_pure ⟨_, rfl, "dict_itemiterator", _, hT, F.slot_dict_itemiterator_next.lookup, h⟩

theorem IterOfG.items {elts : List Expr} {x1 : Nat} {tp : Pos} {a r : Addr} {ob : Obj} {es : List (Int × PV)} {ep : Nat} (hn : X.hn = true) (hr : H r = some (.raw ob)) (ho : ob.cls = .type "dict_items" ∧ ob.data = .fields #[.ref a]) (hv : H a = some (.dict es ep)) :
    IterOfG X elts x1 tp (.ref r) H (es.map fun kv => .tup [.int kv.1, kv.2]) (some (a, .dict es ep)) := fun m h tk v Q E' R V k => by
  obtain rfl := V.inv_ref
  obtain ⟨⟨xs, d1, d2, d3⟩, _, fe⟩ := R.at hv
  obtain ⟨⟨r1, _⟩, _⟩ := R.at hr
  have hl : xs.length = es.length := by have := congrArg List.length d2; simpa using this
  refine wpAny_pyIter_items (knd := intKind X.G.prog X.G.w) ⟨ob, r1, ho⟩ d1 ?_
  refine k h.objs.size _ tk _ (fun i o => ∃ ok ov, o = { cls := .type "dict_itemiterator", dict := none, data := .fields #[.none, .bool false, .ref a, .int i 0, .int es.length 0, .int ep 0, ok, ov], slots := #[] })
    (fun i o v => ∃ ok ov b, v = .ref b ∧ o = { cls := .type "dict_itemiterator", dict := none, data := .fields #[rawInt b, .bool false, .ref a, .int i 0, .int es.length 0, .int ep 0, ok, ov], slots := #[] })
    (fun b ob e => Heap.get?_push_of_some _ e) (Nat.le_refl _) (Heap.get?_push_size _ rfl) ⟨.none, .none, by rw [hl]; rfl⟩ ?_
  have ncls : ((.type "dict_itemiterator" : Value)) ≠ .type "tuple" := by intro q; exact absurd (Value.type.inj q) (by decide)
  refine ⟨fun i o s => ?_, fun i o v s => ?_, fun i p A h tk o H Q E' hx R src ho s hH q => ?_, fun i A h tk o v Q E' ho s q => ?_, fun i A h tk o H Q E' hx hh hn' hni R src ho s hH q => ?_, fun i A h tk o Q E' ho s q => ?_⟩
  · obtain ⟨_, _, rfl⟩ := s; exact ncls
  · obtain ⟨_, _, _, _, rfl⟩ := s; exact ncls
  · obtain ⟨ok, ov, rfl⟩ := s
    have hs : H a = some (.dict es ep) := src
    obtain ⟨xs, d1, d2, d3⟩ := R.real _ _ hs
    have hl : xs.length = es.length := by have := congrArg List.length d2; simpa using this
    have raw := R.real _ _ hH
    rw [List.getElem?_map] at hx
    obtain ⟨⟨kk, pv⟩, hk, rfl⟩ : ∃ kv, es[i]? = some kv ∧ p = .tup [.int kv.1, kv.2] := by
      cases z : es[i]? with
      | none => rw [z] at hx; cases hx
      | some kv => rw [z] at hx; cases hx; exact ⟨kv, rfl, rfl⟩
    have hlt : i < xs.length := by rw [hl]; exact (List.getElem?_eq_some_iff.mp hk).1
    obtain ⟨⟨kx, vx⟩, hkx⟩ : ∃ kv, xs[i]? = some kv := ⟨_, List.getElem?_eq_getElem hlt⟩
    have e1 : kx = kk := by
      have e1 : (xs.map (·.1))[i]? = (es.map (·.1))[i]? := by rw [d2]
      rw [List.getElem?_map, List.getElem?_map, hkx, hk] at e1
      simpa using e1
    subst e1
    obtain ⟨v', g1, g2⟩ := VRs.get d3 (i := i) (p := pv) (by rw [List.getElem?_map, hk]; rfl)
    rw [List.getElem?_map, hkx] at g1
    simp at g1; subst g1
    refine wpAny_pyNext_items_item (knd := intKind X.G.prog X.G.w) (kvs := xs) (by rw [hl]; exact ho) d1 hkx fun key h' hkey hit ht hsz hk' => ?_
    obtain ⟨t, rfl⟩ := Value.isInt_shape hkey
    have P : Pers h h' := Pers.of_extBut hk' raw.notTup
    refine q h' tk _ (.ref h.objs.size) hk' hit ⟨_, _, _, rfl, by rw [hl]⟩ (VR.tup (vs := [.int kx t, vx]) ⟨_, ht, rfl, _, rfl⟩ (VRs.cons VR.int (VRs.cons (g2.mono P) VRs.nil)))
  · obtain ⟨ok, ov, b, rfl, rfl⟩ := s
    exact wpAny_letOwnedTupleGo_items ho fun h' hi hs => q h' _ hs.extBut hi ⟨_, _, rfl⟩
  · obtain ⟨ok, ov, rfl⟩ := s
    have hs : H a = some (.dict es ep) := src
    obtain ⟨xs, d1, d2, d3⟩ := R.real _ _ hs
    have hl : xs.length = es.length := by have := congrArg List.length d2; simpa using this
    refine wpAny_pyNext_items_end (knd := intKind X.G.prog X.G.w) (kvs := xs) (hn' hn) (by rw [hl]; exact ho) d1 ?_ fun h' x => q h' tk x
    rw [List.getElem?_eq_none_iff] at hx ⊢
    rw [hl]; simpa using hx
  · obtain ⟨ok, ov, rfl⟩ := s
    exact wpAny_pyIter_itemiter ⟨_, ho, rfl⟩ q

inductive CompRG (X : FX) (elts : List Expr) (x1 : Nat) (tp : Pos) (elt : Expr) (scope : Scope) (cl : List (Str × Addr)) (p : PV) (m1 : Loc) (H1 : AH) (F : Addr → List PV → AH → Prop) (E : Loc → AH → Prop) : Prop
  | mk (ps : List PV) (src : Option (Addr × AO)) (h : IterOfG X elts x1 tp p H1 ps src) (hz : ps.length ≤ sizeLine) (d : ∀ D, H1 D = none → CompD X (.Tuple elts x1 tp) [] elt scope cl ps src m1 H1 D (F D) E)
theorem comp_coreG {elt iter : Expr} {elts : List Expr} {x1} {tp : Pos} {scope : Scope} {pos : Pos} {cl : List (Str × Addr)} {use : Option (Value → Sem Unit)} {Q' : Value → Shared → Prop} {Fin : Addr → List PV → Loc → AH → Prop} (O : X.Ok) (R : Rel X m H h)
    (hclos : closureFor scope X.env = pure cl) (hcell : ∀ y ∈ scope.names, y.2 ≠ .cell) (hkind : scope.kind = .function) (hnames : ∀ y ∈ scope.names, y.2 = .local → scope.names.lookup y.1 = some .local)
    (x : EV X iter m H (fun p m1 H1 => CompRG X elts x1 tp elt scope cl p m1 H1 (fun D acc H2 => Fin D acc m1 H2) E) E)
    (fin : ∀ D C acc m1 H2 h2 tk2 mm, Rel X m1 H2 h2 → Pers h h2 → KeepH H H2 → H2 D = some (.list acc) → Fin D acc m1 H2 → X.full m1 H2 C = none → X.G.base.get? C = none → h2.Ns C mm →
      match use with
      | none => ∀ h', Heap.SameBut C h2 h' → Q' (.ref D) (X.G.S h' tk2)
      | some u => wpAny X.M X.A (u (.ref D)) (fun _ s'' => ∃ m, s''.heap.Ns C m ∧ ∀ h', Heap.SameBut C s''.heap h' → Q' .none { s'' with heap := h' }) (ERP X h H E) (X.G.S h2 tk2))
    (hs : ∀ x, foldedSetIterable iter X.env x = pure x := by intro _; rfl) :
    wpAny X.M X.A (comprehension (.ListComp elt [⟨.Tuple elts x1 tp, iter, [], 0⟩] scope pos) scope X.env (firstIterPos [⟨.Tuple elts x1 tp, iter, [], 0⟩] pos) (newList []) false (eval iter X.env) use) Q' (ERP X h H E) (X.G.S h tk) := by
  refine wpAny_comprehension_free (use := use) rfl hs hclos hkind hnames ?_
  refine x.run R (.refl _) (.refl _) fun h1 tk1 v p m1 H1 R1 P1 _ K1 V1 q1 => ?_
  obtain ⟨ps, src, hit, hpz, q1⟩ := q1
  refine hit m1 h1 tk1 v _ _ R1 V1 fun it h2 tk2 o St Mid k2 hsz hio ho0 W => ?_
  obtain ⟨en, no⟩ := R1.none_of_get (get_none_of_ge hsz)
  have ef : X.full m1 H1 it = none := by rw [FX.full_at no]; exact en
  have hni := hide_ne R1 ef
  have raw : ∀ {i o hh}, St i o → hh.get? it = some o → Real X.G hh it (.raw o) := fun s e => ⟨e, W.cls _ _ s⟩
  have rawM : ∀ {i o v hh}, Mid i o v → hh.get? it = some o → Real X.G hh it (.raw o) := fun s e => ⟨e, W.clsM _ _ _ s⟩
  have R2 : Rel (X.hide it o) m1 H1 h2 := R1.hide k2 hsz (raw ho0 hio)
  -- the list
  refine wpAny_newObj_type ?_
  have k3 : ∀ b o, h2.get? b = some o → (h2.push { cls := .type "list", data := .seq ([] : List Value).toArray }).get? b = some o := fun b o e => Heap.get?_push_of_some _ e
  obtain ⟨R3, K3, P3, eD⟩ := R2.new (a := h2.objs.size) (o := .list []) k3 (Nat.le_refl _) ⟨[], 0, Heap.get?_push_size _ rfl, VRs.nil⟩
  generalize hD : h2.objs.size = D at R3 K3 eD
  have hg3 : (h2.push { cls := .type "list", data := .seq ([] : List Value).toArray }).get? it = some o := k3 _ _ hio
  generalize hh3 : h2.push { cls := .type "list", data := .seq ([] : List Value).toArray } = h3 at R3 P3 k3 hg3 ⊢
  obtain ⟨I, i0, isrc, turn, hfin⟩ := q1 D eD
  -- the frame
  refine wpAny_newFunctionEnv hcell (by intro y hy; simp at hy) (fun h4 hns4 hsb4 => ?_) hkind
  dsimp only at hns4 hsb4 ⊢
  generalize hC : h3.objs.size = C at hns4 hsb4 ⊢
  have hCsz : h3.objs.size ≤ C := by rw [hC]; exact Nat.le_refl _
  have k4 : ∀ b o, h3.get? b = some o → h4.get? b = some o := fun b o e => hsb4.extBut b o (by rw [← hC]; exact Nat.ne_of_lt (Heap.lt_size e)) (Heap.get?_push_of_some _ e)
  have hCi : C ≠ it := by rw [← hC]; exact (Nat.ne_of_lt (Heap.lt_size hg3)).symm
  have R4 : Rel (compFX X scope cl C it o m1) [] (upd H1 D (.list [])) h4 := Rel.comp no R3 k4 hCsz ⟨_, hns4, (fun z => by cases z), fun x p z => by cases z⟩
  have nC : ¬ X.Own C := fun z => (R3.none_of_get (get_none_of_ge hCsz)).2 (own_hide.mpr (.inr z))
  have P14 : Pers h1 h4 := ((Pers.of_keeps k2).trans P3).trans (Pers.of_keeps k4)
  have Keq : KeepH H1 (upd H1 D (.list [])) := K3
  show codeAny X.M X.A (.compStart (.ListComp elt [⟨.Tuple elts x1 tp, iter, [], 0⟩] scope pos) 0 (.ref it) (.ref D) (compEnvC scope cl C X.env)) _ (X.G.S h4 (tk2 + 0))
  have hio4 := k4 _ _ hg3
  -- an exception leaves
  have lift : ∀ (o' : Obj) (h5 : Heap) (H5 : AH) v s', Pers h h5 → KeepH H H5 → KeepH H1 H5 → ERP (compFX X scope cl C it o' m1) h5 H5 (fun _ H' => E m1 H') v s' →
      notedBy X.M X.A (compEnvC scope cl C X.env) (fun e s'' => compPost X.M X.A (ERP X h H E) use Q' (.ref D) C (.error e) s'') v s' :=
    fun o' h5 H5 v s' P5 K5 K15 hv => comp_leave O hkind no nC R1 P5 K5 K15 hv
  have loop : ∀ tk5, codeAny X.M X.A (.compLoop (.ListComp elt [⟨.Tuple elts x1 tp, iter, [], 0⟩] scope pos) 0 (.ref it) (.ref D) (compEnvC scope cl C X.env)) (compPost X.M X.A (ERP X h H E) use Q' (.ref D) C) (X.G.S h4 tk5) := by
    intro tk5
    refine LCp.codeAny_compLoop_pair (A := X.A) (I := CI X scope cl C it m1 St ps.length h1 H1 I) (CI.elim fun k acc h5 tk5 m5 H5 o5 hk hacc R5 hio5 ho5 P5 K5 i5 => ?_) ps.length
      ⟨0, [], h4, tk5, [], _, o, rfl, Nat.zero_le _, Nat.zero_le _, rfl, R4, hio4, ho0, P14, Keq, i0⟩
    obtain ⟨hsrc0, hD5⟩ := isrc _ _ _ i5
    have fe : (compFX X scope cl C it o5 m1).full m5 H5 = upd (upd (X.full m1 H5) it (.raw o5)) C (.frame false m5) := by rw [full_comp no, full_hide no]
    have at_it : (compFX X scope cl C it o5 m1).full m5 H5 it = some (.raw o5) := by rw [fe, upd_ne (Ne.symm hCi), upd_self]
    have hsrc : srcIn src ((compFX X scope cl C it o5 m1).full m5 H5) := by
      cases src with
      | none => trivial
      | some s => exact (R5.at hsrc0).2.2
    cases hx : ps[k]? with
    | none =>
      refine W.done k X.A h5 tk5 o5 _ _ _ hx (HandIs.of (X := compFX X scope cl C it o5 m1) R5) O.hand hni R5.r hsrc hio5 ho5 at_it fun h6 tk6 x6 => ?_
      have hkN : k = ps.length := Nat.le_antisymm hk (List.getElem?_eq_none_iff.mp hx)
      obtain ⟨mm, hns6, RX6, p56, hCn, hbC⟩ := comp_done no nC hCi R1 K5 R5 (raw ho5 hio5) x6
      have := fin D C acc m1 H5 h6 tk6 mm RX6 ((P1.trans P5).trans p56) (K1.trans K5) hD5 (hfin _ _ (hkN ▸ i5)) hCn hbC hns6
      cases use with
      | none => exact ⟨mm, hns6, this⟩
      | some u => exact this
    | some p =>
      refine W.item k p X.A h5 tk5 o5 _ _ _ hx R5.r hsrc hio5 ho5 at_it fun h6a tk6 o6a v6 x6a hio6a ho6a V6a => ?_
      obtain ⟨R6a, P56a⟩ := R5.advanceC no hCi hni x6a (rawM ho6a hio6a)
      refine W.go _ X.A h6a tk6 o6a v6 _ _ hio6a ho6a fun h6 o6 x6 hio6 ho6 => ?_
      obtain ⟨R6, P66⟩ := R6a.advanceC no hCi hni x6 (raw ho6 hio6)
      have V6 := V6a.mono P66
      have P56 := P56a.trans P66
      have O6 : (compFX X scope cl C it o6 m1).Ok := O.comp hkind
      have R6 := R6.weaken (m' := []) fun x p z => by cases z
      have liftH : ∀ v s', ERP (compFX X scope cl C it o6 m1) h6 H5 (fun _ H' => E m1 H') v s' → notedBy X.M X.A (compEnvC scope cl C X.env) (fun e s'' => compPost X.M X.A (ERP X h H E) use Q' (.ref D) C (.error e) s'') v s' :=
        fun v s' hv => lift o6 h6 H5 v s' ((P1.trans P5).trans P56) (K1.trans K5) K5 hv
      refine wpAny_mono (AT.run (turn C it o6 k p acc H5 O6 hx i5) R6 V6 (.refl _) (.refl _) fun h8 tk8 m8 H8 R8 P8 P8' K8 q8 => (?_ : _)) (fun _ s hs => hs) liftH
      have hlt : k < ps.length := (List.getElem?_eq_some_iff.mp hx).1
      show wpAny _ _ (eval elt (compEnvC scope cl C X.env)) _ _ _
      refine wpAny_mono ((q8.1 rfl).run R8 P8' K8 fun h9 tk9 v9 q m9 H9 R9 P9 P9' K9 V9 q9 => (?_ : _)) (fun b s hs => hs) liftH
      exact comp_push no hCi hpz hlt hacc R9 ho6 ((P5.trans P56).trans P9') (K5.trans K9) V9 q9 fun _ z => z
  exact codeAny_compStart_list (loop _) (W.self 0 X.A h4 _ o _ _ hio4 ho0 (loop _))

/-- a list comprehension over such an iterator -/
theorem EV.compG {elt iter : Expr} {elts : List Expr} {x1} {tp : Pos} {scope : Scope} {pos : Pos} (cl : List (Str × Addr)) (O : X.Ok)
    (x : EV X iter m H (fun p m1 H1 => CompRG X elts x1 tp elt scope cl p m1 H1 (fun D acc H2 => Q (.ref D) m1 H2) E) E)
    (hclos : closureFor scope X.env = pure cl := by rfl) (hcell : ∀ y ∈ scope.names, y.2 ≠ .cell := by decide) (hkind : scope.kind = .function := by rfl) (hnames : ∀ y ∈ scope.names, y.2 = .local → scope.names.lookup y.1 = some .local := by decide)
    (hs : ∀ x, foldedSetIterable iter X.env x = pure x := by intro _; rfl) :
    EV X (.ListComp elt [⟨.Tuple elts x1 tp, iter, [], 0⟩] scope pos) m H Q E := fun h tk R => by
  show wpAny _ _ _ _ _ _
  rw [eval_ListComp]
  refine comp_coreG (use := none) (Fin := fun D acc m1 H2 => Q (.ref D) m1 H2) O R hclos hcell hkind hnames x (fun D C acc m1 H2 h2 tk2 mm R2 P2 K2 hD f hCn hbC hns => ?_) hs
  intro h' hs'
  obtain ⟨R3, P3⟩ := R2.butOne hCn hbC hns hs'.extBut
  exact OKP.at (Q := fun h' v m' H' => ∃ p, VR h' v p ∧ Q p m' H') R3 (P2.trans P3) K2 ⟨_, VR.ref, f⟩
end
end Mine

namespace Mine

/-! ## list(zip(a, b)) -/
section
variable {prog : Program} {w : World} {A : Around} {E : Value → Shared → Prop} {s : Shared}
theorem wpAny_loadIfAlive {M : Model} {a : Addr} {Q : Option Obj → Shared → Prop} (h : Q (s.heap.get? a) s) : wpAny M A (loadIfAlive a) Q E s := fun Γ p hΓ => by
  unfold loadIfAlive
  rw [Sem.wp_loadIfAlive]
  exact h

noncomputable abbrev IsZipB (h : Heap) (z TI TO T : Addr) (b : Bool) : Prop :=
  h.get? z = some { cls := .type "zip", dict := none, data := .fields #[rawInt T, .bool b, .bool false, .ref TI, .ref TO], slots := #[] }

theorem zip_busy {z TI TO T : Addr} {b : Bool} {oT : Obj} {Q : Bool → Shared → Prop} (hz : IsZipB s.heap z TI TO T b) (hT : s.heap.get? T = some oT)
    (q : ∀ h', IsZipB h' z TI TO T true → Heap.ExtBut z s.heap h' → h'.objs.size = s.heap.objs.size → Q false { s with heap := h' }) : wpAny (model prog w) A (Builtin.SmallTypes.ownedTupleIsFree (.ref z)) Q E s := by
  unfold Builtin.SmallTypes.ownedTupleIsFree
  refine wpAny_bind (wpAny_field hz rfl (x := rawInt T) rfl ?_)
  show wpAny _ _ (loadIfAlive (Int.toNat (T : Nat)) >>= _) _ _ _
  refine wpAny_bind (wpAny_loadIfAlive ?_)
  rw [Int.toNat_natCast, hT]
  show wpAny _ _ (field (.ref z) 1 >>= _) _ _ _
  refine wpAny_bind (wpAny_field hz rfl (x := .bool b) rfl ?_)
  cases b with
  | false =>
    rw [if_pos (by decide)]
    refine wpAny_bind (wpAny_setField_rec hz (by simp) fun h₁ hz₁ hs₁ => ?_)
    exact wpAny_pure (q h₁ hz₁ hs₁.extBut hs₁.1)
  | true =>
    rw [if_neg (by decide)]
    exact wpAny_pure (q _ hz (fun _ _ _ e => e) rfl)

theorem zip_busy_item {z TI TO i1 i2 l1 l2 T : Addr} {bb : Bool} {oT : Obj} {k1 k2 : Nat} {xs ys : Array Value} {x y : Value} {Q : Option Value → Shared → Prop} (D : ZipApart z TI TO i1 i2 l1 l2)
    (hz : IsZipB s.heap z TI TO T bb) (hT : s.heap.get? T = some oT) (hTI : IsPair s.heap TI (.ref i1) (.ref i2))
    (h1 : s.heap.IsListIter i1 l1 k1) (h2 : s.heap.IsListIter i2 l2 k2) (hl1 : s.heap.IsList l1 xs) (hl2 : s.heap.IsList l2 ys) (hx : xs[k1]? = some x) (hy : ys[k2]? = some y)
    (hQ : ∀ h' t, IsZipB h' z TI TO T true → h'.IsListIter i1 l1 (k1 + 1) → h'.IsListIter i2 l2 (k2 + 1) → IsPair h' t x y → s.heap.objs.size ≤ t →
      (∀ c o, c ≠ z → c ≠ i1 → c ≠ i2 → s.heap.get? c = some o → h'.get? c = some o) → Q (some (.ref t)) { s with heap := h' }) :
    wpAny (model prog w) A (pyNext (.ref z)) Q E s := by
  have hTy : s.TypeIs (.ref z) "zip" := ⟨_, hz, rfl⟩
  unfold pyNext
  refine wpAny_bind (wpAny_attempt (wpAny_callSpecial?_slot (name := Str.ofString "__next__") hTy F.slot_zip_next
    (wpAny_call_entry F.slot_zip_next hTy F.entry_zip_next ?_ (F.args_zip_next_1 _))))
  show wpAny _ _ (field (.ref z) 2 >>= _) _ _ _
  refine wpAny_bind (wpAny_field hz rfl (x := .bool false) rfl ?_)
  show wpAny _ _ (field (.ref z) 3 >>= _) _ _ _
  refine wpAny_bind (wpAny_field hz rfl (x := .ref TI) rfl ?_)
  refine wpAny_bind (wpAny_seqItems hTI rfl ?_)
  show wpAny _ _ (Builtin.SmallTypes.ownedTupleIsFree (.ref z) >>= _) _ _ _
  refine wpAny_bind (zip_busy hz hT fun h₁ hz₁ hs₁ hsz₁ => ?_)
  simp only [Bool.false_eq_true, if_false]
  refine wpAny_bind ?_
  simp only [← Array.forIn_toList, List.forIn_cons, List.forIn_nil]
  refine wpAny_bind (wpAny_bind (wpAny_holding ?_))
  show wpAny _ _ (Builtin.SmallTypes.nextOf (.ref i1) >>= _) _ _ _
  refine wpAny_bind (wpAny_nextOf_list_item (h1.extBut hs₁ D.i1z) (hl1.extBut hs₁ D.l1z) hx fun h₂ h1₂ hs₂ => wpAny_pure ?_)
  refine wpAny_pure ?_
  refine wpAny_bind (wpAny_bind (wpAny_holding ?_))
  show wpAny _ _ (Builtin.SmallTypes.nextOf (.ref i2) >>= _) _ _ _
  refine wpAny_bind (wpAny_nextOf_list_item (((h2.extBut hs₁ D.i2z).extBut hs₂.extBut D.i12.symm)) (((hl2.extBut hs₁ D.l2z).extBut hs₂.extBut D.l2i1)) hy fun h₃ h2₃ hs₃ => wpAny_pure ?_)
  refine wpAny_pure (wpAny_pure ?_)
  refine wpAny_bind (wpAny_newTuple ?_ (by show 2 ≤ sizeLine; decide))
  refine wpAny_pure ⟨_, rfl, wpAny_pure ?_⟩
  have up : ∀ c o, c ≠ z → c ≠ i1 → c ≠ i2 → s.heap.get? c = some o → h₃.get? c = some o := fun c o c1 c2 c3 e => hs₃.extBut _ _ c3 (hs₂.extBut _ _ c2 (hs₁ _ _ c1 e))
  have hsz : h₃.objs.size = s.heap.objs.size := by rw [hs₃.1, hs₂.1, hsz₁]
  refine hQ _ h₃.objs.size (Heap.get?_push_of_some _ (hs₃.extBut _ _ D.i2z.symm (hs₂.extBut _ _ D.i1z.symm hz₁))) ((h1₂.extBut hs₃.extBut D.i12).at fun o e => Heap.get?_push_of_some _ e) (h2₃.at fun o e => Heap.get?_push_of_some _ e) (Heap.get?_push_size _ rfl) (by rw [hsz]; exact Nat.le_refl _) fun c o c1 c2 c3 e => Heap.get?_push_of_some _ (up c o c1 c2 c3 e)

theorem zip_busy_end {z TI TO i1 i2 l1 l2 T : Addr} {bb : Bool} {oT : Obj} {k1 : Nat} {xs : Array Value} {Q : Option Value → Shared → Prop} (hh : A.handled = none) (D : ZipApart z TI TO i1 i2 l1 l2)
    (hz : IsZipB s.heap z TI TO T bb) (hT : s.heap.get? T = some oT) (hTI : IsPair s.heap TI (.ref i1) (.ref i2))
    (h1 : s.heap.IsListIter i1 l1 k1) (hl1 : s.heap.IsList l1 xs) (hx : xs[k1]? = none)
    (hQ : ∀ h', (∀ c o, c ≠ z → c ≠ i1 → s.heap.get? c = some o → h'.get? c = some o) → Q none { s with heap := h' }) :
    wpAny (model prog w) A (pyNext (.ref z)) Q E s := by
  have hTy : s.TypeIs (.ref z) "zip" := ⟨_, hz, rfl⟩
  unfold pyNext
  refine wpAny_bind (wpAny_attempt (wpAny_callSpecial?_slot (name := Str.ofString "__next__") hTy F.slot_zip_next
    (wpAny_call_entry F.slot_zip_next hTy F.entry_zip_next ?_ (F.args_zip_next_1 _))))
  show wpAny _ _ (field (.ref z) 2 >>= _) _ _ _
  refine wpAny_bind (wpAny_field hz rfl (x := .bool false) rfl ?_)
  show wpAny _ _ (field (.ref z) 3 >>= _) _ _ _
  refine wpAny_bind (wpAny_field hz rfl (x := .ref TI) rfl ?_)
  refine wpAny_bind (wpAny_seqItems hTI rfl ?_)
  show wpAny _ _ (Builtin.SmallTypes.ownedTupleIsFree (.ref z) >>= _) _ _ _
  refine wpAny_bind (zip_busy hz hT fun h₁ hz₁ hs₁ hsz₁ => ?_)
  simp only [Bool.false_eq_true, if_false]
  refine wpAny_bind ?_
  simp only [← Array.forIn_toList, List.forIn_cons, List.forIn_nil]
  refine wpAny_bind (wpAny_bind (wpAny_holding ?_))
  show wpAny _ _ (Builtin.SmallTypes.nextOf (.ref i1) >>= _) _ _ _
  refine wpAny_bind (wpAny_nextOf_list_end hh (h1.extBut hs₁ D.i1z) (hl1.extBut hs₁ D.l1z) hx fun h₂ e hs₂ he => ?_)
  obtain ⟨o, ho, hc⟩ := he
  refine wpAny_bind (wpAny_isInstance (T := "StopIteration") (b := true) ⟨o, ho, hc⟩ isSubtype_stop ?_)
  exact wpAny_pure (hQ _ fun c o c1 c2 e => hs₂ _ _ c2 (hs₁ _ _ c1 e))

noncomputable def PairsOf (h : Heap) (xs ys acc : Array Value) (i : Nat) (F : List Addr) : Prop := acc.size = i ∧ ∀ (j : Nat) (v : Value), acc[j]? = some v → ∃ t x y, v = .ref t ∧ IsPair h t x y ∧ xs[j]? = some x ∧ ys[j]? = some y ∧ t ∉ F
structure ZSt (h0 h : Heap) (z TI TO i1 i2 l1 l2 S : Addr) (xs ys acc : Array Value) (c i : Nat) : Prop where
  keep : ∀ b o, h0.get? b = some o → h.get? b = some o
  st : (i = 0 ∧ IsZip h z TI TO .none ∧ IsPair h TO .none .none) ∨ (∃ T b oT, IsZipB h z TI TO T b ∧ h.get? T = some oT ∧ T ∉ [z, i1, i2, S])
  to : ∃ a b, IsPair h TO a b
  ti : IsPair h TI (.ref i1) (.ref i2)
  a : h.IsListIter i1 l1 i
  b : h.IsListIter i2 l2 i
  x : h.IsList l1 xs
  y : h.IsList l2 ys
  s : h.get? S = some { cls := .type "list", dict := none, data := .seq acc c, slots := #[] }
  p : PairsOf h xs ys acc i [z, TO, i1, i2, S]

set_option tactic.hygienic true in
theorem zip_loop {s₀ : Shared} {R : Result → Shared → Prop} {h0 : Heap} {z TI TO i1 i2 l1 l2 S : Addr} {xs ys : Array Value} {res : Value} (D : ZipApart z TI TO i1 i2 l1 l2) (hh : A.handled = none) (heq : xs.size = ys.size) (hz : xs.size ≤ sizeLine)
    (hF : ∀ b ∈ [z, TI, TO, i1, i2, S], h0.objs.size ≤ b) (hS : S ≠ z ∧ S ≠ TI ∧ S ≠ TO ∧ S ≠ i1 ∧ S ≠ i2 ∧ S ≠ l1 ∧ S ≠ l2)
    (hR : ∀ h' acc c, (∀ b o, h0.get? b = some o → h'.get? b = some o) → h'.get? S = some { cls := .type "list", dict := none, data := .seq acc c, slots := #[] } → PairsOf h' xs ys acc xs.size [z, TO, i1, i2, S] → R (.ok (.ret res)) { s₀ with heap := h' }) :
    ∀ (k i : Nat) (s : Shared) (acc : Array Value) (c : Nat), xs.size - i = k → i ≤ xs.size → (∃ hp, s = { s₀ with heap := hp }) → ZSt h0 s.heap z TI TO i1 i2 l1 l2 S xs ys acc c i → codeAny (model prog w) A (.builtin "list.extend.loop" ⟨[.ref S, .ref z, res], []⟩) R s := by
  obtain ⟨S1, S2, S3, S4, S5, S6, S7⟩ := hS
  have low : ∀ {b o}, h0.get? b = some o → b ∉ [z, TI, TO, i1, i2, S] := fun e hm => absurd (Heap.lt_size e) (Nat.not_lt.mpr (hF _ hm))
  intro k
  induction k with
  | zero =>
    intro i s acc c hk hi hs Z
    obtain ⟨hp, rfl⟩ := hs
    have hin : i = xs.size := by lia
    subst hin
    refine codeAny_builtin F.entry_extend_loop ?_
    rw [Around.under_plainId F.plain_extend_loop _]
    show wpAny _ A.in1 (pyNext (.ref z) >>= _) _ _ _
    have hx : xs[xs.size]? = none := by simp
    have fin : ∀ h', (∀ c o, c ≠ z → c ≠ TO → c ≠ i1 → c ≠ i2 → hp.get? c = some o → h'.get? c = some o) → R (.ok (.ret res)) { s₀ with heap := h' } := fun h' hk => by
      refine hR h' acc c (fun b o e => ?_) (hk _ _ S1 S3 S4 S5 Z.s) ⟨Z.p.1, fun j v e => ?_⟩
      · have := low e
        simp only [List.mem_cons, List.not_mem_nil, or_false, not_or] at this
        exact hk b o this.1 this.2.2.1 this.2.2.2.1 this.2.2.2.2.1 (Z.keep b o e)
      · obtain ⟨t, x, y, e1, e2, e3, e4, e5⟩ := Z.p.2 j v e
        have e5' := e5
        simp only [List.mem_cons, List.not_mem_nil, or_false, not_or] at e5
        exact ⟨t, x, y, e1, hk _ _ e5.1 e5.2.1 e5.2.2.1 e5.2.2.2.1 e2, e3, e4, e5'⟩
    rcases Z.st with ⟨_, hzz, hto⟩ | ⟨T, b, oT, hzz, hT, _⟩
    · exact wpAny_bind (wpAny_pyNext_zip_end hh D hzz Z.ti hto Z.a Z.b Z.x Z.y (.inl hx) fun h' hk => wpAny_pure (fin h' hk))
    · exact wpAny_bind (zip_busy_end hh D hzz hT Z.ti Z.a Z.x hx fun h' hk => wpAny_pure (fin h' fun c o c1 _ c3 _ e => hk c o c1 c3 e))
  | succ k ih =>
    intro i s acc c hk hi hs Z
    obtain ⟨hp, rfl⟩ := hs
    have hlt : i < xs.size := by lia
    have hx : xs[i]? = some xs[i] := Array.getElem?_eq_getElem hlt
    have hy : ys[i]? = some (ys[i]'(by lia)) := Array.getElem?_eq_getElem (by lia)
    refine codeAny_builtin F.entry_extend_loop ?_
    rw [Around.under_plainId F.plain_extend_loop _]
    show wpAny _ A.in1 (pyNext (.ref z) >>= _) _ _ _
    -- what follows an item
    have next : ∀ h' t T b oT, IsZipB h' z TI TO T b → h'.get? T = some oT → T ∉ [z, i1, i2, S] → (∃ a b, IsPair h' TO a b) → h'.IsListIter i1 l1 (i + 1) → h'.IsListIter i2 l2 (i + 1) → IsPair h' t xs[i] (ys[i]'(by lia)) → t ∉ [z, TO, i1, i2, S] →
        (∀ c o, c ≠ z → c ≠ TO → c ≠ i1 → c ≠ i2 → hp.get? c = some o → h'.get? c = some o) →
        wpAny (model prog w) A.in1 (updateSeq S (·.push (.ref t)) >>= fun w9 => again (.builtin "list.extend.loop" ⟨[.ref S, .ref z, res], []⟩)) (fun fin s' => match fin with | .done f => R (.ok f) s' | .again c' => c'.quiet = true ∧ codeAny (model prog w) A c' R s') (fun e s' => R (.error e) s') { s₀ with heap := h' } := by
      intro h' t T b oT hzz hT hTn hto' h1 h2 ht htn hk'
      have hS' := hk' _ _ S1 S3 S4 S5 Z.s
      obtain ⟨e1, hup⟩ : ∃ e1, (h'.update S (Obj.mapSeq (·.push (.ref t)))).get? S = some (seqObj "list" (acc.push (.ref t)) e1) := ⟨_, get?_update_seq hS' (·.push (.ref t))⟩
      refine wpAny_bind ?_
      refine wpAny_updateSeq hS' rfl (wpAny_pure ⟨plainId_quiet F.plain_extend_loop _, ih (i + 1) _ (acc.push (.ref t)) e1 (by lia) hlt ⟨_, rfl⟩ ?_⟩) (by rw [Z.p.1]; lia) (by show (acc.push _).size ≤ sizeLine + 1; rw [Array.size_push, Z.p.1]; lia)

      have up : ∀ b o, b ≠ S → h'.get? b = some o → (h'.update S (Obj.mapSeq (·.push (.ref t)))).get? b = some o := fun b o hb e => (Heap.get?_update_other _ _ (Ne.symm hb)).trans e
      have hTn' := hTn
      simp only [List.mem_cons, List.not_mem_nil, or_false, not_or] at hTn'
      have htn' := htn
      simp only [List.mem_cons, List.not_mem_nil, or_false, not_or] at htn'
      refine ⟨fun b o e => ?_, .inr ⟨T, b, oT, up _ _ S1.symm hzz, up _ _ hTn'.2.2.2 hT, hTn⟩, (let ⟨a, b, e⟩ := hto'; ⟨a, b, up _ _ S3.symm e⟩), up _ _ S2.symm (hk' _ _ D.TIz D.TITO D.TIi1 D.TIi2 Z.ti), h1.at fun o e => up _ o S4.symm e, h2.at fun o e => up _ o S5.symm e,
        (Z.x.at fun o e => hk' _ o D.l1z D.l1TO D.l1i1 D.l1i2 e).at fun o e => up _ o S6.symm e, (Z.y.at fun o e => hk' _ o D.l2z D.l2TO D.l2i1 D.l2i2 e).at fun o e => up _ o S7.symm e, hup, ?_, fun j v e => ?_⟩
      · have := low e
        simp only [List.mem_cons, List.not_mem_nil, or_false, not_or] at this
        exact up _ _ this.2.2.2.2.2 (hk' b o this.1 this.2.2.1 this.2.2.2.1 this.2.2.2.2.1 (Z.keep b o e))
      · rw [Array.size_push, Z.p.1]
      · rw [Array.getElem?_push] at e
        split at e
        · rename_i hj
          cases e
          rw [Z.p.1] at hj; subst hj
          exact ⟨t, _, _, rfl, up _ _ htn'.2.2.2.2 ht, hx, hy, htn⟩
        · obtain ⟨t', x, y, e1, e2, e3, e4, e5⟩ := Z.p.2 j v e
          have e5' := e5
          simp only [List.mem_cons, List.not_mem_nil, or_false, not_or] at e5
          exact ⟨t', x, y, e1, up _ _ e5.2.2.2.2 (hk' _ _ e5.1 e5.2.1 e5.2.2.1 e5.2.2.2.1 e2), e3, e4, e5'⟩
    have lt : ∀ {c o t}, hp.get? c = some o → hp.objs.size ≤ t → t ≠ c := fun {c o t} e ht q => absurd (Heap.lt_size e) (Nat.not_lt.mpr (by rw [← q]; exact ht))
    obtain ⟨oa, ha, _⟩ := id Z.a
    obtain ⟨ob, hb, _⟩ := id Z.b
    rcases Z.st with ⟨_, hzz, hto⟩ | ⟨T, b, oT, hzz, hT, hTn⟩
    · refine wpAny_bind (wpAny_pyNext_zip_item D hzz Z.ti hto Z.a Z.b Z.x Z.y hx hy fun h' a1 a2 a3 a4 a5 a6 hk => ?_)
      have tn : hp.objs.size ∉ [z, TO, i1, i2, S] := by
        simp only [List.mem_cons, List.not_mem_nil, or_false, not_or]
        exact ⟨lt hzz (Nat.le_refl _), lt hto (Nat.le_refl _), lt ha (Nat.le_refl _), lt hb (Nat.le_refl _), lt Z.s (Nat.le_refl _)⟩
      have tn' := tn
      simp only [List.mem_cons, List.not_mem_nil, or_false, not_or] at tn'
      exact next h' hp.objs.size hp.objs.size false _ a1 a5 (by simp only [List.mem_cons, List.not_mem_nil, or_false, not_or]; exact ⟨tn'.1, tn'.2.2.1, tn'.2.2.2.1, tn'.2.2.2.2⟩) ⟨_, _, a2⟩ a3 a4 a5 tn hk
    · refine wpAny_bind (zip_busy_item D hzz hT Z.ti Z.a Z.b Z.x Z.y hx hy fun h' t a1 a3 a4 a5 hle hk => ?_)
      obtain ⟨ta, tb, hto⟩ := Z.to
      have hTn' := hTn
      simp only [List.mem_cons, List.not_mem_nil, or_false, not_or] at hTn'
      have tn : t ∉ [z, TO, i1, i2, S] := by
        simp only [List.mem_cons, List.not_mem_nil, or_false, not_or]
        exact ⟨lt hzz hle, lt hto hle, lt ha hle, lt hb hle, lt Z.s hle⟩
      exact next h' t T true oT a1 (hk _ _ hTn'.1 hTn'.2.1 hTn'.2.2.1 hT) hTn ⟨_, _, hk _ _ D.TOz D.TOi1 D.TOi2 hto⟩ a3 a4 a5 tn fun c o c1 _ c3 c4 e => hk c o c1 c3 c4 e

theorem zip_nolen : typeLookup (.type "zip") "__len__" = pure none := by rw [typeLookup_type, builtinLookup_eq_fast]; kernel_rfl
theorem zip_nohint : typeLookup (.type "zip") "__length_hint__" = pure none := by rw [typeLookup_type, builtinLookup_eq_fast]; kernel_rfl
theorem zip_hint {z : Addr} {Q : Bool → Shared → Prop} (hT : s.TypeIs (.ref z) "zip") (h : Q true s) : wpAny (model prog w) A (Builtin.List.listLengthHint (.ref z)) Q E s := by
  unfold Builtin.List.listLengthHint
  refine wpAny_bind (wpAny_specialOf hT zip_nolen ?_)
  show wpAny _ _ (specialOf (.ref z) "__length_hint__" >>= _) _ _ _
  refine wpAny_bind (wpAny_specialOf hT zip_nohint ?_)
  exact wpAny_pure h

theorem list_zip {l1 l2 : Addr} {xs ys : Array Value} {Q : Value → Shared → Prop} (hh : A.handled = none) (hl1 : s.heap.IsList l1 xs) (hl2 : s.heap.IsList l2 ys) (heq : xs.size = ys.size) (hz : xs.size ≤ sizeLine)
    (h : ∀ h' S acc c F, (∀ b o, s.heap.get? b = some o → h'.get? b = some o) → s.heap.objs.size ≤ S → h'.get? S = some (seqObj "list" acc c) → PairsOf h' xs ys acc xs.size F → Q (.ref S) { s with heap := h' }) :
    wpAny (model prog w) A (PySem.call (.type "zip") [.ref l1, .ref l2]) (fun v s' => wpAny (model prog w) A (PySem.call (.type "list") [v]) Q E s') E s := by
  obtain ⟨o1, ho1, _⟩ := id hl1
  obtain ⟨o2, ho2, _⟩ := id hl2
  have L1 := Heap.lt_size ho1
  have L2 := Heap.lt_size ho2
  refine call_zip_2 hl1 hl2 fun h1 hzz hTI hTO hi1 hi2 hsz hk => ?_
  generalize hn : s.heap.objs.size = n at *
  have D : ZipApart (n + 4) (n + 2) (n + 3) n (n + 1) l1 l2 := zipApart_new L1 L2
  refine callType_codes (Q₁ := fun obj s₁ => obj = .ref h1.objs.size ∧ s₁ = { s with heap := h1.push { cls := .type "list", data := .seq #[] } }) PySem.F.called_list (PySem.F.typeCall_list_1 _) PySem.F.entry_list_init
    (code_list_new _ ⟨rfl, rfl⟩) fun obj s₁ h₁ => ?_
  obtain ⟨rfl, rfl⟩ := h₁
  have hS : (h1.push { cls := .type "list", data := .seq #[] }).get? h1.objs.size = some { cls := .type "list", data := .seq #[] } := Heap.get?_push_size _ rfl
  have hk2 : ∀ b o, h1.get? b = some o → (h1.push { cls := .type "list", data := .seq #[] }).get? b = some o := fun b o e => Heap.get?_push_of_some _ e
  generalize hSS : h1.objs.size = S at *
  generalize hh2 : h1.push { cls := .type "list", data := .seq #[] } = h2 at hS hk2 ⊢
  refine ⟨⟨_, hS, rfl⟩, PySem.F.args_list_init_2 _ _, ?_⟩
  show wpAny _ _ (do let old ← Builtin.List.listItems (.ref S); Builtin.List.listUpdate (.ref S) (fun w9 => #[]); letGo old.toList.reverse; Builtin.List.listExtendWith (.ref S) (.ref (n + 4)) .none) _ _ _
  refine wpAny_bind ?_
  unfold Builtin.List.listItems
  refine wpAny_bind (wpAny_seqItems hS rfl (wpAny_pure ?_))
  show wpAny _ _ (updateSeq S (fun w9 => #[]) >>= fun w9 => letGo (#[] : Array Value).toList.reverse >>= fun w9 => Builtin.List.listExtendWith (.ref S) (.ref (n + 4)) .none) _ _ _
  refine wpAny_bind (wpAny_updateSeq hS rfl ?_)
  obtain ⟨e3, hS3⟩ : ∃ e1, (h2.update S (Obj.mapSeq (fun w9 => (#[] : Array Value)))).get? S = some (seqObj "list" #[] e1) := ⟨_, get?_update_seq hS (fun w9 => #[])⟩
  have up3 : ∀ b o, b ≠ S → h2.get? b = some o → (h2.update S (Obj.mapSeq (fun w9 => (#[] : Array Value)))).get? b = some o := fun b o hb e => (Heap.get?_update_other _ _ (Ne.symm hb)).trans e
  generalize h2.update S (Obj.mapSeq (fun w9 => (#[] : Array Value))) = h3 at hS3 up3 ⊢
  refine wpAny_bind (wpAny_letGo ?_)
  have nS : ∀ k, k < 5 → n + k ≠ S := fun k hk' => by lia
  have hz3 : h3.get? (n + 4) = _ := up3 _ _ (nS 4 (by decide)) (hk2 _ _ hzz)
  unfold Builtin.List.listExtendWith
  refine wpAny_bind (wpAny_typeOf (T := "zip") ⟨_, hz3, rfl⟩ ?_)
  have hsr : Builtin.List.listSameRef (.ref S) (.ref (n + 4)) = false := by simp [Builtin.List.listSameRef, (nS 4 (by decide)).symm]
  have t1 : (Value.type "zip" == Value.type "list") = false := by decide
  have t2 : (Value.type "zip" == Value.type "tuple") = false := by decide
  simp only [hsr, t1, t2, Bool.or_false, Bool.false_eq_true, if_false]
  refine wpAny_bind (wpAny_pyIter_zip hz3 ?_)
  refine wpAny_bind (wpAny_holding (zip_hint ⟨_, hz3, rfl⟩ ?_))
  rw [Bool.true_or, if_pos rfl]
  refine wpAny_bind (wpAny_rule ?_)
  refine wpAny_bind ?_
  show wpAny _ _ (updateSeq S (·.push .none) >>= fun w9 => updateSeq S (·.pop)) _ _ _
  refine wpAny_bind (wpAny_updateSeq hS3 rfl ?_)
  obtain ⟨e4, hS4⟩ : ∃ e1, (h3.update S (Obj.mapSeq (·.push Value.none))).get? S = some (seqObj "list" #[.none] e1) := ⟨_, get?_update_seq hS3 (·.push Value.none)⟩
  refine wpAny_updateSeq (hz := by seq_fits) hS4 rfl ?_
  obtain ⟨e5, hS5⟩ : ∃ e1, ((h3.update S (Obj.mapSeq (·.push Value.none))).update S (Obj.mapSeq (·.pop))).get? S = some (seqObj "list" #[] e1) := ⟨_, get?_update_seq hS4 (·.pop)⟩
  have up5 : ∀ b o, b ≠ S → h3.get? b = some o → ((h3.update S (Obj.mapSeq (·.push Value.none))).update S (Obj.mapSeq (·.pop))).get? b = some o := fun b o hb e => (Heap.get?_update_other _ _ (Ne.symm hb)).trans ((Heap.get?_update_other _ _ (Ne.symm hb)).trans e)
  have all : ∀ b o, b ≠ S → h1.get? b = some o → ((h3.update S (Obj.mapSeq (·.push Value.none))).update S (Obj.mapSeq (·.pop))).get? b = some o := fun b o hb e => up5 _ _ hb (up3 _ _ hb (hk2 _ _ e))
  have nl : ∀ {l : Addr}, l < n → l ≠ S := fun hl q => absurd hl (by rw [q, hsz]; exact Nat.not_lt.mpr (Nat.le_add_right _ _))
  have old : ∀ b o, s.heap.get? b = some o → ((h3.update S (Obj.mapSeq (·.push Value.none))).update S (Obj.mapSeq (·.pop))).get? b = some o := fun b o e => all b o (nl (by rw [← hn]; exact Heap.lt_size e)) (hk _ _ e)
  refine wpAny_pure ⟨plainId_quiet F.plain_extend_loop _, zip_loop (A := A.in1) (s₀ := s) (h0 := s.heap) D hh heq hz ?_ ⟨(nS 4 (by decide)).symm, (nS 2 (by decide)).symm, (nS 3 (by decide)).symm, (nS 0 (by decide)).symm, (nS 1 (by decide)).symm, (nl L1).symm, (nl L2).symm⟩ (fun h' acc c k1 k2 k3 => ?_) _ 0 _ #[] e5 rfl (Nat.zero_le _) ⟨_, rfl⟩ ?_⟩
  · intro b hb
    rw [hn]
    simp only [List.mem_cons, List.not_mem_nil, or_false] at hb
    rcases hb with rfl | rfl | rfl | rfl | rfl | rfl <;> lia
  · exact ⟨rfl, h h' S acc c _ k1 (by have := nS 0 (by decide); lia) k2 k3⟩
  · exact ⟨old, .inl ⟨rfl, all _ _ (nS 4 (by decide)) hzz, all _ _ (nS 3 (by decide)) hTO⟩, ⟨_, _, all _ _ (nS 3 (by decide)) hTO⟩, all _ _ (nS 2 (by decide)) hTI, hi1.at fun o e => all _ o (nS 0 (by decide)) e, hi2.at fun o e => all _ o (nS 1 (by decide)) e,
      hl1.at fun o e => old _ o e, hl2.at fun o e => old _ o e, hS5, rfl, fun j v e => by simp at e⟩
end
end Mine

namespace Mine

theorem VRs.of_get {h : Heap} : ∀ {vs : List Value} {ps : List PV}, vs.length = ps.length → (∀ (j : Nat) (v : Value), vs[j]? = some v → ∃ p, ps[j]? = some p ∧ VR h v p) → VRs h vs ps
  | [], [], _, _ => VRs.nil
  | v :: vs, p :: ps, e, f => by
    obtain ⟨q, h1, h2⟩ := f 0 v rfl
    simp at h1; subst h1
    exact VRs.cons h2 (VRs.of_get (by simpa using e) fun j w hw => by simpa using f (j + 1) w (by simpa using hw))
  | [], _ :: _, e, _ => by simp at e
  | _ :: _, [], e, _ => by simp at e

section
variable {X : FX} {m : Loc} {H : AH} {Q : PV → Loc → AH → Prop} {E : Loc → AH → Prop} {h : Heap} {tk : Nat}

theorem EV.listzip {pl pz p1 p2 : Pos} {e1 e2 : Expr} (O : X.Ok) (GG : X.G.Ok) (k1 : X.env.kindOf ("list" : Str) = some .globalImplicit) (k2 : X.env.kindOf ("zip" : Str) = some .globalImplicit) (n1 : nsIn X.G.K mainGlobals "list" = some none) (n2 : nsIn X.G.K mainGlobals "zip" = some none) (hn : X.hn = true)
    (y : EVs X [e1, e2] m H (fun ps m1 H1 => ∃ a b qs rs, ps = [.ref a, .ref b] ∧ H1 a = some (.list qs) ∧ H1 b = some (.list rs) ∧ qs.length = rs.length ∧ qs.length ≤ sizeLine ∧ ∀ c, H1 c = none → Q (.ref c) m1 (upd H1 c (.list ((qs.zip rs).map fun x => .tup [x.1, x.2])))) E)
    (hp : [e1, e2].all plainArg = true := by rfl)
    (he1 : eval (.Call (.Name "list" pl) [.Call (.Name "zip" pz) [e1, e2] [] p2] [] p1) X.env = (do callWith p1 (← eval (.Name "list" pl) X.env) [] (backTo p1 (starEach [.Call (.Name "zip" pz) [e1, e2] [] p2] X.env)) (backToKw p1 (keywordEach [] X.env))) := by with_unfolding_all rfl)
    (he2 : eval (.Call (.Name "zip" pz) [e1, e2] [] p2) X.env = (do callWith p2 (← eval (.Name "zip" pz) X.env) [] (backTo p2 (starEach [e1, e2] X.env)) (backToKw p2 (keywordEach [] X.env))) := by with_unfolding_all rfl) :
    EV X (.Call (.Name "list" pl) [.Call (.Name "zip" pz) [e1, e2] [] p2] [] p1) m H Q E := fun h tk R => by
  show wpAny _ _ _ _ _ _
  rw [he1, starEach_plain rfl]
  refine wpAny_bind (name_builtin O GG R k1 n1 PyProof.Rows.Boot.«list» (by decide) ?_)
  refine PyProof.Rows.callWith_type plain_any (evalArgs_es ?_)
  rw [List.map_cons, List.map_nil]
  refine spliced_cons ?_
  rw [he2, starEach_plain hp]
  refine wpAny_bind (name_builtin O GG R k2 n2 PyProof.Rows.Boot.«zip» (by decide) ?_)
  refine PyProof.Rows.callWith_type plain_any (evalArgs_es (y.run R (.refl _) (.refl _) fun h1 tk1 vs ps m1 H1 R1 P1 P1' K1 V1 q1 => ?_))
  obtain ⟨a, b, qs, rs, rfl, ha, hb, hl, hz, q⟩ := q1
  obtain ⟨v1, ws, rfl, W1, V2⟩ := V1.inv_cons
  obtain ⟨v2, ws2, rfl, W2, V3⟩ := V2.inv_cons
  obtain rfl := V3.inv_nil
  obtain rfl := W1.inv_ref
  obtain rfl := W2.inv_ref
  obtain ⟨⟨xs, n, l1, vx⟩, _⟩ := R1.at ha
  obtain ⟨⟨ys, n', l2, vy⟩, _⟩ := R1.at hb
  have ex : xs.toArray.size = qs.length := by rw [List.size_toArray, vx.length]
  have ey : ys.toArray.size = rs.length := by rw [List.size_toArray, vy.length]
  refine wpAny_mono (list_zip (Q := OKP X h H (fun h' v m' H' => ∃ p, VR h' v p ∧ Q p m' H')) (E := ERP X h H E) (O.hand hn) l1.isList l2.isList (by rw [ex, ey, hl]) (by rw [ex]; exact hz) fun h' S acc c F kp hS hg pp => ?_) (fun v s' hs => spliced_nil hs) fun _ _ z => z
  have P2 : Pers h1 h' := Pers.of_keeps kp
  have V : VRs h' acc.toList ((qs.zip rs).map fun x => .tup [x.1, x.2]) := by
    refine VRs.of_get (by rw [Array.length_toList, pp.1, ex, List.length_map, List.length_zip, hl, Nat.min_self]) fun j v hv => ?_
    obtain ⟨t, x, y, rfl, ht, hx, hy, _⟩ := pp.2 j v (by rw [← Array.getElem?_toList]; exact hv)
    have hjx : xs[j]? = some x := by simpa using hx
    have hjy : ys[j]? = some y := by simpa using hy
    have ltx : j < qs.length := by rw [← vx.length]; exact (List.getElem?_eq_some_iff.mp hjx).1
    have lty : j < rs.length := by rw [← hl]; exact ltx
    obtain ⟨x', g1, g2⟩ := vx.get (List.getElem?_eq_getElem ltx)
    obtain ⟨y', g3, g4⟩ := vy.get (List.getElem?_eq_getElem lty)
    rw [hjx] at g1; cases g1
    rw [hjy] at g3; cases g3
    have hzip : (qs.zip rs)[j]? = some (qs[j], rs[j]) := List.getElem?_zip_eq_some.mpr ⟨List.getElem?_eq_getElem ltx, List.getElem?_eq_getElem lty⟩
    refine ⟨.tup [qs[j], rs[j]], by rw [List.getElem?_map, hzip]; rfl, ?_⟩
    exact VR.tup (vs := [x, y]) ⟨_, ht, rfl, _, rfl⟩ (VRs.cons (g2.mono P2) (VRs.cons (g4.mono P2) VRs.nil))
  obtain ⟨R2, K2, P2', e⟩ := R1.new (a := S) (o := .list ((qs.zip rs).map fun x => .tup [x.1, x.2])) kp hS ⟨acc.toList, c, by rw [Array.toArray_toList]; exact hg, V⟩
  exact OKP.at (tk' := tk1) R2 (P1'.trans P2) (K1.trans K2) ⟨_, VR.ref, q _ e⟩
end

/-! ## dict(list of pairs) -/
section
variable {prog : Program} {w : World} {A : Around} {E : Value → Shared → Prop} {s : Shared}
theorem list_nokeys : typeLookup (.type "list") "keys" = pure none := by rw [typeLookup_type, builtinLookup_eq_fast]; kernel_rfl
theorem getAttr?_nokeys {a : Addr} {xs : Array Value} {k : Nat} {Q : Option Value → Shared → Prop} (hx : s.heap.get? a = some (seqObj "list" xs k)) (hA : A.handled = none)
    (h : ∀ h' tk, (∀ b o, s.heap.get? b = some o → h'.get? b = some o) → Q none { s with heap := h', toks := tk }) :
    wpAny (model prog w) A (getAttr? (.ref a) "keys") Q E s := by
  obtain ⟨hp, g, d, tk, os⟩ := s
  have hT : ∀ tk', (⟨hp, g, d, tk', os⟩ : Shared).TypeIs (.ref a) "list" := fun w9 => ⟨_, hx, rfl⟩
  have f1 := sub_AttributeError
  have f3 := F.slot_list_getattribute.lookup
  have f4 := F.slot_list_getattribute.bind (.ref a)
  have f5 := am_list_getattr_none
  unfold getAttr? getAttrBy? getAttrBy
  repeat (any_goals (first | assumption | exact hT _ | ((with_reducible show wpAny _ _ (call (Value.builtin "list.__getattribute__") _ _) _ _ _); refine call_meets F.slot_list_getattribute (hT _) am_entry_list_getattribute (F.args_list_getattribute_2 _ _) (meets_getattribute_miss_list a xs k #[] "keys" _ list_nokeys (by decide +kernel) (by show 4 + 100 ≤ sizeLine; decide)) ⟨hx, hA, fun h' tk' e hx' => ?_⟩) | wp_step))
  obtain ⟨t', u', he⟩ := hx'.there
  show wpAny _ _ (getattributeRaised _ _ _ _ _ _ _) _ _ _
  unfold getattributeRaised
  repeat (any_goals (first | assumption | wp_step))
  exact h _ _ hx'.keeps

theorem entry_dict_update_loop : entryFor table "dict.update.loop" = some Builtin.«dict.update.loop» := entryFor_of_tree (by kernel_rfl)
theorem plain_dict_update_loop : plainId "dict.update.loop" = true := by decide +kernel

noncomputable def putAll (es : List (Int × PV)) (l : List (Int × PV)) : List (Int × PV) := l.foldl (fun es kv => putI es kv.1 kv.2) es
theorem putI_len {es : List (Int × PV)} {k : Int} {p : PV} : (putI es k p).length ≤ es.length + 1 := by
  unfold putI
  split
  · rw [List.length_map]; exact Nat.le_succ _
  · rw [List.length_append]; exact Nat.le_refl _

theorem dict_loop {s₀ : Shared} {R : Result → Shared → Prop} {h0 : Heap} {D it l : Addr} {vs : List Value} {kvs : List (Int × PV)} (hh : A.handled = none) (hl : h0.IsList l vs.toArray) (hlen : vs.length = kvs.length) (hz : vs.length ≤ sizeLine)
    (hvs : ∀ (j : Nat) kv, kvs[j]? = some kv → ∃ t v1 v2, vs[j]? = some (.ref t) ∧ IsTup h0 t #[v1, v2] ∧ VR h0 v1 (.int kv.1) ∧ VR h0 v2 kv.2) (hit : h0.objs.size ≤ it) (hD : h0.objs.size ≤ D) (hne : it ≠ D)
    (hR : ∀ h' tk xs, (∀ b o, h0.get? b = some o → h'.get? b = some o) → h'.DictOf (intKind prog w) D xs → xs.map (·.1) = (putAll [] kvs).map (·.1) → VRs h' (xs.map (·.2)) ((putAll [] kvs).map (·.2)) → R (.ok (.ret .none)) { s₀ with heap := h', toks := tk }) :
    ∀ (k i : Nat) (s : Shared) (xs : List (Int × Value)), vs.length - i = k → i ≤ vs.length → (∃ hp tk, s = { s₀ with heap := hp, toks := tk }) → (∀ b o, h0.get? b = some o → s.heap.get? b = some o) → s.heap.IsListIter it l i → s.heap.DictOf (intKind prog w) D xs →
      xs.map (·.1) = (putAll [] (kvs.take i)).map (·.1) → VRs s.heap (xs.map (·.2)) ((putAll [] (kvs.take i)).map (·.2)) → xs.length ≤ i →
      codeAny (model prog w) A (.builtin "dict.update.loop" ⟨[.ref D, .ref it, rawInt (i : Nat), .none], []⟩) R s := by
  have old : ∀ {b o}, h0.get? b = some o → b ≠ it ∧ b ≠ D := fun e => ⟨fun q => absurd (Heap.lt_size e) (Nat.not_lt.mpr (q ▸ hit)), fun q => absurd (Heap.lt_size e) (Nat.not_lt.mpr (q ▸ hD))⟩
  intro k
  induction k with
  | zero =>
    intro i s xs hk hi hs keep hiter hdict e1 e2 hx
    obtain ⟨hp, tk, rfl⟩ := hs
    have hin : i = vs.length := by lia
    subst hin
    refine codeAny_builtin entry_dict_update_loop ?_
    rw [Around.under_plainId plain_dict_update_loop _]
    show wpAny _ A.in1 (pyNext (.ref it) >>= _) _ _ _
    refine wpAny_bind (wpAny_pyNext_list_end hh hiter (hl.at fun o e => keep l o e) (by simp) fun h' hb => ?_)
    have et : kvs.take vs.length = kvs := List.take_of_length_le (by lia)
    rw [et] at e1 e2
    have nt : ∀ ws, ¬ IsTup hp it ws := fun ws ⟨o, q1, q2, _⟩ => by
      obtain ⟨o', w1, w2, _⟩ := hiter
      rw [show hp.get? it = some o' from w1] at q1; cases q1; rw [w2] at q2; exact absurd (Value.type.inj q2) (by decide)
    exact wpAny_pure (hR h' tk xs (fun b o e => hb b o (old e).1 (keep b o e)) (hdict.extBut hb hne.symm) e1 (e2.mono (Pers.of_extBut hb nt)))
  | succ k ih =>
    intro i s xs hk hi hs keep hiter hdict e1 e2 hx
    obtain ⟨hp, tk, rfl⟩ := hs
    have hlt : i < kvs.length := by lia
    obtain ⟨t, v1, v2, g1, g2, g3, g4⟩ := hvs i kvs[i] (List.getElem?_eq_getElem hlt)
    refine codeAny_builtin entry_dict_update_loop ?_
    rw [Around.under_plainId plain_dict_update_loop _]
    show wpAny _ A.in1 (pyNext (.ref it) >>= _) _ _ _
    have nt : ∀ ws, ¬ IsTup hp it ws := fun ws ⟨o, q1, q2, _⟩ => by
      obtain ⟨o', w1, w2, _⟩ := hiter
      rw [show hp.get? it = some o' from w1] at q1; cases q1; rw [w2] at q2; exact absurd (Value.type.inj q2) (by decide)
    refine wpAny_bind (wpAny_pyNext_list_item (x := .ref t) hiter (hl.at fun o e => keep l o e) (by simpa using g1) fun h1 hit1 hs1 => ?_)
    have keep1 : ∀ b o, h0.get? b = some o → h1.get? b = some o := fun b o e => hs1.extBut b o (old e).1 (keep b o e)
    have P1 : Pers hp h1 := Pers.of_extBut hs1.extBut nt
    have P0 : Pers h0 h1 := Pers.of_keeps keep1
    obtain ⟨ot, q1, q2, nn, q3⟩ := P0 _ _ g2
    have hdict1 : h1.DictOf (intKind prog w) D xs := hdict.extBut hs1.extBut hne.symm
    obtain ⟨t1, rfl⟩ := g3.inv_int
    refine wpAny_bind (wpAny_holding ?_)
    refine wpAny_bind (wpAny_tryCatch ?_)
    unfold Builtin.Dict.pairItems
    refine wpAny_bind (wpAny_typeOf (T := "tuple") ⟨ot, q1, q2⟩ ?_)
    rw [if_pos (by decide)]
    refine wpAny_bind (wpAny_seqItems q1 q3 (wpAny_pure ?_))
    refine wpAny_holding (wpAny_dictSet_pairs (hsz := by lia) (k := kvs[i].1) (knd := intKind prog w) (intKind_is _ _ _ t1) hdict1 fun h2 hd2 hs2 => ?_)
    have ndt : ∀ ws, ¬ IsTup h1 D ws := fun ws ⟨o, w1, w2, n, w3⟩ => by
      obtain ⟨o', es, ep, w4, w5, w6, _⟩ := hdict1
      rw [w1] at w4; cases w4; rw [w3] at w6; cases w6
    have P2 : Pers h1 h2 := Pers.of_extBut hs2.extBut ndt
    obtain ⟨f1, f2⟩ := putI_stored (k := kvs[i].1) e1 ((e2.mono P1).mono P2) ((g4.mono P0).mono P2)
    have et : putAll [] (kvs.take (i + 1)) = putI (putAll [] (kvs.take i)) kvs[i].1 kvs[i].2 := by
      unfold putAll
      rw [List.take_add_one, List.getElem?_eq_getElem hlt, List.foldl_append]; rfl
    refine wpAny_pure ⟨plainId_quiet plain_dict_update_loop _, ?_⟩
    have := ih (i + 1) { s₀ with heap := h2, toks := tk + 1 } (stored xs kvs[i].1 v2) (by lia) (by lia) ⟨_, _, rfl⟩ (fun b o e => hs2.extBut b o (old e).2 (keep1 b o e)) (hit1.extBut hs2.extBut hne) hd2 (by rw [et]; exact f1) (by rw [et]; exact f2) ?_
    · exact this
    · have h3 := congrArg List.length f1
      have h4 := congrArg List.length e1
      simp only [List.length_map] at h3 h4
      have := putI_len (es := putAll [] (kvs.take i)) (k := kvs[i].1) (p := kvs[i].2)
      lia
end

section
variable {X : FX} {m : Loc} {H : AH} {Q : PV → Loc → AH → Prop} {E : Loc → AH → Prop} {h : Heap} {tk : Nat}
theorem BCall.dict_pairs {a : Addr} {kvs : List (Int × PV)} {Q : PV → AH → Prop} (O : X.Ok) (hn : X.hn = true) (hv : H a = some (.list (kvs.map fun kv => .tup [.int kv.1, kv.2]))) (hz : kvs.length ≤ sizeLine)
    (q : ∀ b ep, H b = none → Q (.ref b) (upd H b (.dict (putAll [] kvs) ep))) : BCall X (.type "dict") [.ref a] H Q := fun m h tk vs Q' E' R V k => by
  obtain ⟨v, ws, rfl, V1, V2⟩ := V.inv_cons
  obtain rfl := V2.inv_nil
  obtain rfl := V1.inv_ref
  obtain ⟨⟨vs, n, l1, v1⟩, _⟩ := R.at hv
  have hvl : vs.length = kvs.length := by rw [v1.length, List.length_map]
  refine callType_codes (Q₁ := fun obj s₁ => obj = .ref h.objs.size ∧ s₁ = { X.G.S h tk with heap := h.push { cls := .type "dict", data := .dict #[] } }) F.kt_called_dict (F.kt_typeCall_dict_1 _) F.entry_dict_init (kt_code_dict_new _ ⟨rfl, rfl⟩) ?_
  rintro obj s₁ ⟨rfl, rfl⟩
  have hnew : (h.push { cls := .type "dict", data := .dict #[] }).DictOf (intKind X.G.prog X.G.w) h.objs.size [] := Heap.DictOf.new h
  refine ⟨hnew.typeIs, F.args_dict_init_2 _ _, ?_⟩
  unfold Builtin.«dict.__init__»
  refine wpAny_bind ?_
  unfold Builtin.Dict.selfAndRest
  refine wpAny_bind (wpAny_notOrdered_dict hnew.typeIs ?_)
  show wpAny _ _ (pure (h.objs.size, [Value.ref a])) _ _ _
  refine wpAny_pure ?_
  show wpAny _ _ (Builtin.Dict.updateFrom "dict.__init__" h.objs.size (.ref a) [] .none) _ _ _
  unfold Builtin.Dict.updateFrom
  have l2 : (h.push { cls := .type "dict", data := .dict #[] }).get? a = some (seqObj "list" vs.toArray n) := Heap.get?_push_of_some _ l1
  have k1 : ∀ b o, h.get? b = some o → (h.push { cls := .type "dict", data := .dict #[] }).get? b = some o := fun b o e => Heap.get?_push_of_some _ e
  have hsz1 : (h.push { cls := .type "dict", data := .dict #[] }).objs.size = h.objs.size + 1 := Heap.size_push ..
  have hDl : h.objs.size < (h.push { cls := .type "dict", data := .dict #[] }).objs.size := by rw [hsz1]; exact Nat.lt_succ_self _
  generalize h.push { cls := .type "dict", data := .dict #[] } = h1 at hnew l2 k1 hDl ⊢
  refine wpAny_bind (wpAny_typeOf (T := "list") ⟨_, l2, rfl⟩ ?_)
  rw [if_pos (by decide)]
  refine wpAny_bind (getAttr?_nokeys l2 (O.hand hn) fun h2 tk2 k2 => ?_)
  rw [Option.isNone_none, if_pos rfl]
  refine wpAny_bind (wpAny_rule ?_)
  have l3 : h2.IsList a vs.toArray := ⟨_, k2 _ _ l2, rfl, n, rfl⟩
  refine wpAny_bind (wpAny_pyIter_list l3 ?_)
  have k3 : ∀ b o, h2.get? b = some o → (h2.push { cls := .type "list_iterator", data := .fields #[.ref a, .int 0 0] }).get? b = some o := fun b o e => Heap.get?_push_of_some _ e
  have hDk : ∃ o, h1.get? h.objs.size = some o := let ⟨o, es, ep, w, _⟩ := hnew; ⟨o, w⟩
  obtain ⟨oD, hoD⟩ := hDk
  have hD2 := k2 _ _ hoD
  have hitD : h2.objs.size ≠ h.objs.size := fun q => absurd (Heap.lt_size hD2) (by rw [q]; exact Nat.lt_irrefl _)
  have hnew2 : h2.DictOf (intKind X.G.prog X.G.w) h.objs.size [] := let ⟨o, es, ep, w, r⟩ := hnew; ⟨o, es, ep, k2 _ _ w, r⟩
  have keep : ∀ b o, h.get? b = some o → (h2.push { cls := .type "list_iterator", data := .fields #[.ref a, .int 0 0] }).get? b = some o := fun b o e => k3 _ _ (k2 _ _ (k1 _ _ e))
  refine wpAny_pure ⟨plainId_quiet plain_dict_update_loop _, ?_⟩
  refine dict_loop (s₀ := X.G.S h tk) (h0 := h) (A := X.A.in1) (l := a) (vs := vs) (kvs := kvs) (O.hand hn) l1.isList hvl (by lia) (fun j kv hj => ?_) (Nat.le_of_lt (by have := Heap.lt_size hD2; exact this)) (Nat.le_refl _) hitD (fun h' tk' xs kp hd e1 e2 => ?_) _ 0 _ [] rfl (Nat.zero_le _) ⟨_, _, rfl⟩ keep ⟨_, Heap.get?_push_size _ rfl, rfl, rfl⟩ (hnew2.push _) rfl VRs.nil (Nat.le_refl _)
  · obtain ⟨v, g1, g2⟩ := v1.get (i := j) (p := .tup [.int kv.1, kv.2]) (by rw [List.getElem?_map, hj]; rfl)
    obtain ⟨t, us, rfl, ht, U⟩ := g2.inv_tup
    obtain ⟨u1, us, rfl, U1, U⟩ := U.inv_cons
    obtain ⟨u2, us, rfl, U2, U⟩ := U.inv_cons
    obtain rfl := U.inv_nil
    exact ⟨t, u1, u2, g1, ht, U1, U2⟩
  · obtain ⟨ep, hat⟩ := hd.dictAt
    obtain ⟨R2, K2, P2, e⟩ := R.new (a := h.objs.size) (o := .dict (putAll [] kvs) ep) kp (Nat.le_refl _) ⟨xs, hat, e1, e2⟩
    exact ⟨rfl, k h' tk' _ _ _ R2 P2 K2 VR.ref (q _ ep e)⟩
end
end Mine

namespace Mine

/-! ## A dict by written strings -/
/-- an object that is a dict by strings -/
noncomputable def SDict (G : GS) (o : Obj) (kvs : List (Str × Addr)) : Prop := o.cls ≠ .type "tuple" ∧ o.IsDictOf (PySem.strKind G.prog G.w) (kvs.map fun kv => (kv.1, .ref kv.2))

section
variable {X : FX} {m : Loc} {H : AH} {Q : PV → Loc → AH → Prop} {E : Loc → AH → Prop} {h : Heap} {tk : Nat}

inductive CKeys (X : FX) : List (Option Expr) → List Expr → List (Str × Addr) → Prop
  | nil : CKeys X [] [] []
  | cons {k x : Str} {kk : Nat} {kp xp : Pos} {a : Addr} {ks vs kvs} : X.env.kindOf x = some .globalImplicit → nsIn X.G.K mainGlobals x = some (some (.ref a)) → (x == ("__debug__" : Str)) = false → CKeys X ks vs kvs → CKeys X (some (.Constant (.str k) kk kp) :: ks) (.Name x xp :: vs) ((k, a) :: kvs)
theorem CKeys.all {ks vs kvs} (c : CKeys X ks vs kvs) : ks.all (·.isSome) = true ∧ ks.length = vs.length ∧ ks.length = kvs.length := by
  induction c with
  | nil => exact ⟨rfl, rfl, rfl⟩
  | cons _ _ _ _ ih => exact ⟨by simp [ih.1], by simp [ih.2.1], by simp [ih.2.2]⟩
theorem CKeys.run {ks vs kvs} (c : CKeys X ks vs kvs) (O : X.Ok) (GG : X.G.Ok) (R : Rel X m H h) {pos : Pos} {E' : Value → Shared → Prop} : ∀ {tk : Nat} {Q' : List (Value × Value) → Shared → Prop},
    (∀ tk' ws, Carries (PySem.strKind X.G.prog X.G.w) ws (kvs.map fun kv => (kv.1, .ref kv.2)) → Q' ws (X.G.S h tk')) → wpAny X.M X.A (evalPairs (pairTrees ks vs X.env pos)) Q' E' (X.G.S h tk) := by
  induction c with
  | nil => intro tk Q' q; exact pairTrees_nil_walk (q _ _ trivial)
  | cons h1 h2 h3 _ ih =>
    intro tk Q' q
    refine pairTrees_cons_walk (Constant_str (name_global O GG R h1 h2 (ih (tk := tk + 1) fun tk' ws c => q tk' _ ⟨?_, rfl, c⟩) h3))
    exact strKind_is _ _ _ _

theorem EV.sdict {ks : List (Option Expr)} {vs : List Expr} {pos : Pos} {kvs : List (Str × Addr)} (O : X.Ok) (GG : X.G.Ok) (c : CKeys X ks vs kvs) (hnd : (kvs.map (·.1)).Nodup) (h0 : ks ≠ []) (hlen : ks.length ≤ 15)
    (q : ∀ a o, H a = none → SDict X.G o kvs → a ≠ sysModules → Q (.ref a) m (upd H a (.raw o))) : EV X (.Dict ks vs pos) m H Q E := fun h tk R => by
  have k1 : ∀ b o, h.get? b = some o → (h.push { cls := .type "dict", data := .dict #[] }).get? b = some o := fun b o e => Heap.get?_push_of_some _ e
  refine wpAny_Dict_walk (knd := PySem.strKind X.G.prog X.G.w) c.all.1 c.all.2.1 h0 hlen (c.run O GG (R.keeps k1) (tk := tk) fun tk' ws cr => ⟨_, cr, Heap.DictOf.new h, fun h' hd hs => ?_⟩)
  rw [merged_nil_of_nodup _ (by rw [List.map_map]; exact hnd)] at hd
  obtain ⟨o, ho, hi⟩ := Heap.dictOf_iff.mp hd
  have kp : ∀ b o, h.get? b = some o → h'.get? b = some o := fun b o e => hs.extBut b o (Nat.ne_of_lt (Heap.lt_size e)) (k1 b o e)
  have hc : o.cls ≠ .type "tuple" := by
    obtain ⟨es, ep, ⟨hc, _⟩, _⟩ := hi
    rw [hc]; intro q; exact absurd (Value.type.inj q) (by decide)
  obtain ⟨R2, K2, P2, e⟩ := R.new (a := h.objs.size) (o := .raw o) kp (Nat.le_refl _) ⟨ho, hc⟩
  exact OKP.at (tk' := tk' + ws.length) (Q := fun h' v m' H' => ∃ p, VR h' v p ∧ Q p m' H') R2 P2 K2 ⟨_, VR.ref, q _ o e ⟨hc, hi⟩ fun q => by have := R.r.low; rw [q] at this; exact absurd this (by unfold sysModules; lia)⟩

theorem sd_find {kvs : List (Str × Addr)} {k : Str} : valueAt (kvs.map fun kv => (kv.1, Value.ref kv.2)) k = (kvs.lookup k).map Value.ref := by
  induction kvs with
  | nil => rfl
  | cons x r ih =>
    obtain ⟨a, b⟩ := x
    rw [List.map_cons, List.lookup_cons]
    by_cases z : k = a
    · subst z; simp [valueAt]
    · have z' : (k == a) = false := by simpa using z
      have z2 : ¬ a = k := fun q => z q.symm
      rw [z', ← ih]; simp [valueAt, z2]

theorem ET.inSD {l r : Expr} {pos : Pos} {Q : Bool → Loc → AH → Prop} (x : EV X l m H (fun p m1 H1 => EV X r m1 H1 (fun q m2 H2 => ∃ s a o kvs, p = .str s ∧ q = .ref a ∧ H2 a = some (.raw o) ∧ SDict X.G o kvs ∧ a ≠ sysModules ∧ Q (kvs.lookup s).isSome m2 H2) E) E)
    (hm : behindInMarks .In r = false := by with_unfolding_all rfl) : ET X (.Compare l [.In] [r] pos) m H Q E := fun h tk R => by
  refine wpAny_isTrue_Compare1 (x.run R (.refl _) (.refl _) fun h1 tk1 a p m1 H1 R1 P1 P1' K1 V1 q1 => ?_) hm
  refine q1.run R1 P1' K1 fun h2 tk2 b q m2 H2 R2 P2 P2' K2 V2 q2 => ?_
  obtain ⟨s, a, o, kvs, rfl, rfl, ha, hs, hne, z⟩ := q2
  obtain ⟨t, rfl⟩ := V1.inv_str
  obtain rfl := V2.inv_ref
  obtain ⟨⟨r1, _⟩, _⟩ := R2.at ha
  have hd : h2.DictOf (PySem.strKind X.G.prog X.G.w) a _ := Heap.dictOf_iff.mpr ⟨o, r1, hs.2⟩
  refine wpAny_in_of (knd := PySem.strKind X.G.prog X.G.w) (strKind_is _ _ s t) (by simpa using hne) hd.mapOf ?_
  rw [sd_find, Option.isSome_map]
  exact wpAny_truthy_bool (OKP.at (Q := fun _ b m' H' => Q b m' H') R2 P2' K2 z)

theorem EV.subSD {value slice : Expr} {pos} (x : EV X value m H (fun po m1 H1 => EV X slice m1 H1 (fun pi m2 H2 => ∃ s a o kvs c, pi = .str s ∧ po = .ref a ∧ H2 a = some (.raw o) ∧ SDict X.G o kvs ∧ kvs.lookup s = some c ∧ Q (.ref c) m2 H2) E) E)
    (hs : ∀ o i, ∃ ops, subscripted slice false o i = operate ops (getItem o i) := by intro o i; exact ⟨_, rfl⟩) : EV X (.Subscript value slice pos) m H Q E := fun h tk R => by
  refine Subscript_ (x.run R (.refl _) (.refl _) fun h1 tk1 ov po m1 H1 R1 P1 P1' K1 V1 q1 => ?_)
  refine q1.run R1 P1' K1 fun h2 tk2 iv pi m2 H2 R2 P2 P2' K2 V2 q2 => ?_
  obtain ⟨ops, hops⟩ := hs ov iv
  obtain ⟨s, a, o, kvs, c, rfl, rfl, ha, hs, hc, z⟩ := q2
  obtain ⟨t, rfl⟩ := V2.inv_str
  obtain rfl := V1.inv_ref
  obtain ⟨⟨r1, _⟩, _⟩ := R2.at ha
  have hd : h2.DictOf (PySem.strKind X.G.prog X.G.w) a _ := Heap.dictOf_iff.mpr ⟨o, r1, hs.2⟩
  exact tail_any hd.typeIs slot_dict_getitem.lookup (wpAny_getItem_of (knd := PySem.strKind X.G.prog X.G.w) (v := .ref c) (strKind_is _ _ s t) hd.mapOf (by rw [sd_find, hc]; rfl) (OKP.at (tk' := tk2 + 1) (Q := fun h' v m' H' => ∃ p, VR h' v p ∧ Q p m' H') R2 P2' K2 ⟨_, VR.ref, z⟩)) hops
end
end Mine

namespace Mine.HD
/-! ## The head, written out: the objects at the top's end -/
noncomputable abbrev pg : Program := PySem.Challenge.pw_pq0600_01
noncomputable def sT (i : Nat) : Stmt := match pg.main.body[i]? with | some s => s | none => .Pass default
noncomputable def sC (i j : Nat) : Stmt := match sT i with
  | .ClassDef _ _ _ b .. => (match b[j]? with | some s => s | none => .Pass default)
  | s => s
noncomputable def fA : Stmt → Arguments
  | .FunctionDef _ a .. => a
  | _ => ⟨[], [], none, [], [], none, []⟩
noncomputable def fB : Stmt → List Stmt
  | .FunctionDef _ _ b .. => b
  | _ => []
noncomputable def fS : Stmt → Scope
  | .FunctionDef _ _ _ _ _ _ s .. => s
  | _ => default
noncomputable abbrev fn (name qual : Str) (a : Arguments) (b : FuncBody) (s : Scope) (g : Addr) (cl : List (Str × Addr)) (dV kV doc pm : Value) (an : Option Addr) (cd ct : Value) (bt : Addr) : FuncData := ⟨name, qual, a, b, s, g, cl, dV, kV, doc, pm, an, cd, ct, bt⟩
noncomputable abbrev en (P : Params) (x : Str) (t : Nat) (v : Value) : DictEntry := ⟨PyData.keyHash P x, .str x t, v⟩
/-- the first n objects of a tree -/
noncomputable def cut (n : Nat) : BT → Nat → Nat → BT
  | .nil, _, _ => .nil
  | .node v l r, a, b => match Nat.blt b n with
    | true => .node v (cut n l (2 * a) (a + b)) (cut n r (2 * a) (2 * a + b))
    | false => .nil
noncomputable def o2 (P : Params) : Obj := ⟨.none, none, .dict #[en P "type.__subclasses__.Exception.0" 216 (.int 32 0), en P "type.__subclasses__.Exception.n" 217 (.int 1 0)] 2, #[]⟩
noncomputable def o3 (P : Params) : Obj := ⟨.type "dict", none, .dict #[en P "__name__" 165 (.str "law_pq0600_01" 613), en P "__doc__" 166 .none, en P "__package__" 167 .none, en P "__loader__" 168 (.builtin "__main__.__loader__#opaque"), en P "__spec__" 169 .none, en P "__annotations__" 170 (.ref 6), en P "__builtins__" 171 (.ref 4), en P "__file__" 173 (.str "/claim/cut.py" 172), en P "__cached__" 174 .none, en P "LazyError" 219 (.ref 32), en P "MachineError" 235 (.ref 45), en P "Function" 268 (.ref 64), en P "Partial" 299 (.ref 85), en P "Thunk" 330 (.ref 106), en P "Hole" 350 (.ref 120), en P "Link" 379 (.ref 141), en P "Plain" 408 (.ref 162), en P "Data" 439 (.ref 183), en P "Heap" 501 (.ref 232), en P "value_moved" 511 (.ref 243), en P "values_moved" 517 (.ref 248), en P "Collector" 602 (.ref 305), en P "collected" 612 (.ref 316), en P "_law_bin" 624 (.ref 323), en P "_law_dip" 633 (.ref 330), en P "_law_values" 644 (.ref 337), en P "_law_rows" 657 (.ref 344), en P "_law_cell" 668 (.ref 351), en P "_law_row" 675 (.ref 358), en P "_law_end" 684 (.ref 365), en P "_law_pairs" 690 (.ref 370), en P "_law_is_whole" 696 (.ref 375), en P "_law_laid" 705 (.ref 382), en P "_law_gone_on_right" 711 (.ref 387), en P "_law_right" 717 (.ref 392), en P "law" 723 (.ref 397)] 36, #[]⟩
noncomputable def o11 : Obj := ⟨.type "tuple", none, .seq #[] 0, #[]⟩
noncomputable def o12 : Obj := ⟨.none, none, .fields #[.int 2 0, .int 0 0, .ref 20, .int 8 0, .int 0 0, .ref 41, .int 11 0, .int 0 0, .ref 53, .int 16 0, .int 0 0, .ref 74, .int 21 0, .int 0 0, .ref 95, .int 26 0, .int 0 0, .ref 116, .int 28 0, .int 0 0, .ref 130, .int 32 0, .int 0 0, .ref 151, .int 36 0, .int 0 0, .ref 172, .int 41 0, .int 0 0, .ref 193, .int 64 0, .int 0 0, .ref 242, .int 68 0, .int 0 0, .ref 247, .int 70 0, .int 0 0, .ref 254, .int 130 0, .int 0 0, .ref 315, .int 137 0, .int 0 0, .ref 322, .int 141 0, .int 0 0, .ref 329, .int 148 0, .int 0 0, .ref 336, .int 154 0, .int 0 0, .ref 343, .int 164 0, .int 0 0, .ref 350, .int 170 0, .int 0 0, .ref 357, .int 182 0, .int 0 0, .ref 364, .int 190 0, .int 0 0, .ref 369, .int 209 0, .int 0 0, .ref 374, .int 219 0, .int 0 0, .ref 381, .int 224 0, .int 0 0, .ref 386, .int 236 0, .int 0 0, .ref 391, .int 257 0, .int 0 0, .ref 396], #[]⟩
noncomputable def o13 : Obj := ⟨.type "code", none, .fields #[.str "<module>" 182, .str "<module>" 183, .str "/claim/cut.py" 184, .int 1 0, .int 0 0, .int 0 0, .int 0 0, .int 0 0, .ref 11, .bool false, .int 181 0, .ref 12, .none, .none, .none, .none, .int 185 0, .int 1 0, .str "/claim/cut.py" 186], #[]⟩
noncomputable def o14 : Obj := ⟨.type "frame", none, .plain, #[some (.ref 13), some (.ref 3), some (.ref 3), none, some (.str "__main__" 164), none, some (.ref 0)]⟩
noncomputable def o15 : Obj := ⟨.type "tuple", none, .seq #[.type "Exception"] 0, #[]⟩
noncomputable def o16 : Obj := ⟨.type "builtin_function_or_method", none, .fields #[.builtin "type.__prepare__", .type "type"], #[]⟩
noncomputable def o17 (P : Params) : Obj := ⟨.type "dict", none, .dict #[en P "__module__" 196 (.str "lazycore.errors" 187), en P "__qualname__" 198 (.str "LazyError" 197), en P "__firstlineno__" 200 (.int 2 199), en P "__init__" 209 (.ref 29), en P "__static_attributes__" 212 (.ref 30)] 5, #[]⟩
noncomputable def o18 : Obj := ⟨.type "tuple", none, .seq #[] 0, #[]⟩
noncomputable def o19 : Obj := ⟨.none, none, .fields #[.int 4 0, .int 4 0, .ref 28], #[]⟩
noncomputable def o20 : Obj := ⟨.type "code", none, .fields #[.str "LazyError" 191, .str "LazyError" 192, .str "/claim/cut.py" 193, .int 2 0, .int 0 0, .int 0 0, .int 0 0, .int 0 0, .ref 18, .bool false, .int 181 0, .ref 19, .none, .none, .none, .none, .int 194 0, .int 2 0, .str "/claim/cut.py" 195], #[]⟩
noncomputable def o21 : Obj := ⟨.type "frame", none, .plain, #[some (.ref 20), some (.ref 3), some (.ref 17), none, some (.str "lazycore.errors" 187), none, some (.ref 0)]⟩
noncomputable def o22 : Obj := ⟨.type "tuple", none, .seq #[.none] 0, #[]⟩
noncomputable def o23 : Obj := ⟨.type "tuple", none, .seq #[] 0, #[]⟩
noncomputable def o24 : Obj := ⟨.none, none, .fields #[], #[]⟩
noncomputable def o25 : Obj := ⟨.type "tuple", none, .seq #[.str "self" 204, .str "message" 205, .str "place" 206] 0, #[]⟩
noncomputable def o26 : Obj := ⟨.type "tuple", none, .seq #[] 0, #[]⟩
noncomputable def o27 : Obj := ⟨.none, none, .func (fn "__init__" "LazyError.__init__" (fA (sC 1 0)) (.stmts (fB (sC 1 0))) (fS (sC 1 0)) 0 [] .none .none .none .none none .none .none 0), #[]⟩
noncomputable def o28 : Obj := ⟨.type "code", none, .fields #[.str "__init__" 201, .str "LazyError.__init__" 202, .str "/claim/cut.py" 203, .int 4 0, .int 3 0, .int 0 0, .int 0 0, .int 3 0, .ref 23, .bool true, .int 181 0, .ref 24, .none, .ref 25, .ref 26, .ref 27, .int 207 0, .int 4 0, .str "/claim/cut.py" 208], #[]⟩
noncomputable def o29 : Obj := ⟨.type "function", none, .func (fn "__init__" "LazyError.__init__" (fA (sC 1 0)) (.stmts (fB (sC 1 0))) (fS (sC 1 0)) 3 [] (.ref 22) .none .none (.str "lazycore.errors" 187) none (.ref 28) .none 0), #[]⟩
noncomputable def o30 : Obj := ⟨.type "tuple", none, .seq #[.str "message" 210, .str "place" 211] 0, #[]⟩
noncomputable def o31 (P : Params) : Obj := ⟨.type "dict", none, .dict #[en P "__module__" 196 (.str "lazycore.errors" 187), en P "__firstlineno__" 200 (.int 2 199), en P "__init__" 209 (.ref 29), en P "__static_attributes__" 212 (.ref 30), en P "__weakref__" 214 (.ref 33), en P "__doc__" 215 .none] 3, #[]⟩
noncomputable def o32 : Obj := ⟨.type "type", none, .cls ⟨"LazyError", [.type "Exception"], [.ref 32, .type "Exception", .type "BaseException", .type "object"], 31, "LazyError", true, [], [.ref 45], false, none, false⟩, #[some (.ref 15), none, some (.str "LazyError" 189), some (.str "LazyError" 197), some (.builtin "Exception.__new__"), some (.bool true)]⟩
noncomputable def o33 : Obj := ⟨.type "getset_descriptor", none, .fields #[.str "__weakref__" 213, .ref 32, .builtin "ExceptionGroup.__weakref__", .none], #[]⟩
noncomputable def o34 : Obj := ⟨.type "super", none, .fields #[.ref 32, .ref 32, .ref 32], #[]⟩
noncomputable def o35 : Obj := ⟨.type "builtin_function_or_method", none, .fields #[.builtin "object.__init_subclass__", .ref 32], #[]⟩
noncomputable def o36 : Obj := ⟨.type "tuple", none, .seq #[.ref 32] 0, #[]⟩
noncomputable def o37 : Obj := ⟨.type "builtin_function_or_method", none, .fields #[.builtin "type.__prepare__", .type "type"], #[]⟩
noncomputable def o38 (P : Params) : Obj := ⟨.type "dict", none, .dict #[en P "__module__" 227 (.str "lazycore.errors" 187), en P "__qualname__" 229 (.str "MachineError" 228), en P "__firstlineno__" 231 (.int 8 230), en P "__static_attributes__" 232 (.ref 43)] 4, #[]⟩
noncomputable def o39 : Obj := ⟨.type "tuple", none, .seq #[] 0, #[]⟩
noncomputable def o40 : Obj := ⟨.none, none, .fields #[], #[]⟩
noncomputable def o41 : Obj := ⟨.type "code", none, .fields #[.str "MachineError" 222, .str "MachineError" 223, .str "/claim/cut.py" 224, .int 8 0, .int 0 0, .int 0 0, .int 0 0, .int 0 0, .ref 39, .bool false, .int 181 0, .ref 40, .none, .none, .none, .none, .int 225 0, .int 8 0, .str "/claim/cut.py" 226], #[]⟩
noncomputable def o42 : Obj := ⟨.type "frame", none, .plain, #[some (.ref 41), some (.ref 3), some (.ref 38), none, some (.str "lazycore.errors" 187), none, some (.ref 0)]⟩
noncomputable def o43 : Obj := ⟨.type "tuple", none, .seq #[] 0, #[]⟩
noncomputable def o44 (P : Params) : Obj := ⟨.type "dict", none, .dict #[en P "__module__" 227 (.str "lazycore.errors" 187), en P "__firstlineno__" 231 (.int 8 230), en P "__static_attributes__" 232 (.ref 43), en P "__doc__" 233 .none] 2, #[]⟩
noncomputable def o45 : Obj := ⟨.type "type", none, .cls ⟨"MachineError", [.ref 32], [.ref 45, .ref 32, .type "Exception", .type "BaseException", .type "object"], 44, "MachineError", true, [], [], false, none, false⟩, #[some (.ref 36), none, some (.str "MachineError" 220), some (.str "MachineError" 228), some (.builtin "Exception.__new__"), some (.bool true)]⟩
noncomputable def o46 : Obj := ⟨.type "super", none, .fields #[.ref 45, .ref 45, .ref 45], #[]⟩
noncomputable def o47 : Obj := ⟨.type "builtin_function_or_method", none, .fields #[.builtin "object.__init_subclass__", .ref 45], #[]⟩
noncomputable def o48 : Obj := ⟨.type "tuple", none, .seq #[] 0, #[]⟩
noncomputable def o49 : Obj := ⟨.type "builtin_function_or_method", none, .fields #[.builtin "type.__prepare__", .type "type"], #[]⟩
noncomputable def o50 (P : Params) : Obj := ⟨.type "dict", none, .dict #[en P "__module__" 245 (.str "lazycore.heap" 236), en P "__qualname__" 247 (.str "Function" 246), en P "__firstlineno__" 249 (.int 11 248), en P "__init__" 258 (.ref 61), en P "__static_attributes__" 261 (.ref 62)] 5, #[]⟩
noncomputable def o51 : Obj := ⟨.type "tuple", none, .seq #[] 0, #[]⟩
noncomputable def o52 : Obj := ⟨.none, none, .fields #[.int 13 0, .int 4 0, .ref 60], #[]⟩
noncomputable def o53 : Obj := ⟨.type "code", none, .fields #[.str "Function" 240, .str "Function" 241, .str "/claim/cut.py" 242, .int 11 0, .int 0 0, .int 0 0, .int 0 0, .int 0 0, .ref 51, .bool false, .int 181 0, .ref 52, .none, .none, .none, .none, .int 243 0, .int 11 0, .str "/claim/cut.py" 244], #[]⟩
noncomputable def o54 : Obj := ⟨.type "frame", none, .plain, #[some (.ref 53), some (.ref 3), some (.ref 50), none, some (.str "lazycore.heap" 236), none, some (.ref 0)]⟩
noncomputable def o55 : Obj := ⟨.type "tuple", none, .seq #[] 0, #[]⟩
noncomputable def o56 : Obj := ⟨.none, none, .fields #[], #[]⟩
noncomputable def o57 : Obj := ⟨.type "tuple", none, .seq #[.str "self" 253, .str "code" 254, .str "captured" 255] 0, #[]⟩
noncomputable def o58 : Obj := ⟨.type "tuple", none, .seq #[] 0, #[]⟩
noncomputable def o59 : Obj := ⟨.none, none, .func (fn "__init__" "Function.__init__" (fA (sC 4 0)) (.stmts (fB (sC 4 0))) (fS (sC 4 0)) 0 [] .none .none .none .none none .none .none 0), #[]⟩
noncomputable def o60 : Obj := ⟨.type "code", none, .fields #[.str "__init__" 250, .str "Function.__init__" 251, .str "/claim/cut.py" 252, .int 13 0, .int 3 0, .int 0 0, .int 0 0, .int 3 0, .ref 55, .bool true, .int 181 0, .ref 56, .none, .ref 57, .ref 58, .ref 59, .int 256 0, .int 13 0, .str "/claim/cut.py" 257], #[]⟩
noncomputable def o61 : Obj := ⟨.type "function", none, .func (fn "__init__" "Function.__init__" (fA (sC 4 0)) (.stmts (fB (sC 4 0))) (fS (sC 4 0)) 3 [] .none .none .none (.str "lazycore.heap" 236) none (.ref 60) .none 0), #[]⟩
noncomputable def o62 : Obj := ⟨.type "tuple", none, .seq #[.str "captured" 259, .str "code" 260] 0, #[]⟩
noncomputable def o63 (P : Params) : Obj := ⟨.type "dict", none, .dict #[en P "__module__" 245 (.str "lazycore.heap" 236), en P "__firstlineno__" 249 (.int 11 248), en P "__init__" 258 (.ref 61), en P "__static_attributes__" 261 (.ref 62), en P "__dict__" 263 (.ref 65), en P "__weakref__" 265 (.ref 66), en P "__doc__" 266 .none] 4, #[]⟩
noncomputable def o64 : Obj := ⟨.type "type", none, .cls ⟨"Function", [.type "object"], [.ref 64, .type "object"], 63, "Function", true, [], [], false, none, false⟩, #[none, none, some (.str "Function" 238), some (.str "Function" 246), some (.builtin "object.__new__"), some (.bool true)]⟩
noncomputable def o65 : Obj := ⟨.type "getset_descriptor", none, .fields #[.str "__dict__" 262, .ref 64, .builtin "function.__dict__", .builtin "function.__dict__#set"], #[]⟩
noncomputable def o66 : Obj := ⟨.type "getset_descriptor", none, .fields #[.str "__weakref__" 264, .ref 64, .builtin "ExceptionGroup.__weakref__", .none], #[]⟩
noncomputable def o67 : Obj := ⟨.type "super", none, .fields #[.ref 64, .ref 64, .ref 64], #[]⟩
noncomputable def o68 : Obj := ⟨.type "builtin_function_or_method", none, .fields #[.builtin "object.__init_subclass__", .ref 64], #[]⟩
noncomputable def o69 : Obj := ⟨.type "tuple", none, .seq #[] 0, #[]⟩
noncomputable def o70 : Obj := ⟨.type "builtin_function_or_method", none, .fields #[.builtin "type.__prepare__", .type "type"], #[]⟩
noncomputable def o71 (P : Params) : Obj := ⟨.type "dict", none, .dict #[en P "__module__" 276 (.str "lazycore.heap" 236), en P "__qualname__" 278 (.str "Partial" 277), en P "__firstlineno__" 280 (.int 16 279), en P "__init__" 289 (.ref 82), en P "__static_attributes__" 292 (.ref 83)] 5, #[]⟩
noncomputable def o72 : Obj := ⟨.type "tuple", none, .seq #[] 0, #[]⟩
noncomputable def o73 : Obj := ⟨.none, none, .fields #[.int 18 0, .int 4 0, .ref 81], #[]⟩
noncomputable def o74 : Obj := ⟨.type "code", none, .fields #[.str "Partial" 271, .str "Partial" 272, .str "/claim/cut.py" 273, .int 16 0, .int 0 0, .int 0 0, .int 0 0, .int 0 0, .ref 72, .bool false, .int 181 0, .ref 73, .none, .none, .none, .none, .int 274 0, .int 16 0, .str "/claim/cut.py" 275], #[]⟩
noncomputable def o75 : Obj := ⟨.type "frame", none, .plain, #[some (.ref 74), some (.ref 3), some (.ref 71), none, some (.str "lazycore.heap" 236), none, some (.ref 0)]⟩
noncomputable def o76 : Obj := ⟨.type "tuple", none, .seq #[] 0, #[]⟩
noncomputable def o77 : Obj := ⟨.none, none, .fields #[], #[]⟩
noncomputable def o78 : Obj := ⟨.type "tuple", none, .seq #[.str "self" 284, .str "address" 285, .str "values" 286] 0, #[]⟩
noncomputable def o79 : Obj := ⟨.type "tuple", none, .seq #[] 0, #[]⟩
noncomputable def o80 : Obj := ⟨.none, none, .func (fn "__init__" "Partial.__init__" (fA (sC 5 0)) (.stmts (fB (sC 5 0))) (fS (sC 5 0)) 0 [] .none .none .none .none none .none .none 0), #[]⟩
noncomputable def o81 : Obj := ⟨.type "code", none, .fields #[.str "__init__" 281, .str "Partial.__init__" 282, .str "/claim/cut.py" 283, .int 18 0, .int 3 0, .int 0 0, .int 0 0, .int 3 0, .ref 76, .bool true, .int 181 0, .ref 77, .none, .ref 78, .ref 79, .ref 80, .int 287 0, .int 18 0, .str "/claim/cut.py" 288], #[]⟩
noncomputable def o82 : Obj := ⟨.type "function", none, .func (fn "__init__" "Partial.__init__" (fA (sC 5 0)) (.stmts (fB (sC 5 0))) (fS (sC 5 0)) 3 [] .none .none .none (.str "lazycore.heap" 236) none (.ref 81) .none 0), #[]⟩
noncomputable def o83 : Obj := ⟨.type "tuple", none, .seq #[.str "address" 290, .str "values" 291] 0, #[]⟩
noncomputable def o84 (P : Params) : Obj := ⟨.type "dict", none, .dict #[en P "__module__" 276 (.str "lazycore.heap" 236), en P "__firstlineno__" 280 (.int 16 279), en P "__init__" 289 (.ref 82), en P "__static_attributes__" 292 (.ref 83), en P "__dict__" 294 (.ref 86), en P "__weakref__" 296 (.ref 87), en P "__doc__" 297 .none] 4, #[]⟩
noncomputable def o85 : Obj := ⟨.type "type", none, .cls ⟨"Partial", [.type "object"], [.ref 85, .type "object"], 84, "Partial", true, [], [], false, none, false⟩, #[none, none, some (.str "Partial" 269), some (.str "Partial" 277), some (.builtin "object.__new__"), some (.bool true)]⟩
noncomputable def o86 : Obj := ⟨.type "getset_descriptor", none, .fields #[.str "__dict__" 293, .ref 85, .builtin "function.__dict__", .builtin "function.__dict__#set"], #[]⟩
noncomputable def o87 : Obj := ⟨.type "getset_descriptor", none, .fields #[.str "__weakref__" 295, .ref 85, .builtin "ExceptionGroup.__weakref__", .none], #[]⟩
noncomputable def o88 : Obj := ⟨.type "super", none, .fields #[.ref 85, .ref 85, .ref 85], #[]⟩
noncomputable def o89 : Obj := ⟨.type "builtin_function_or_method", none, .fields #[.builtin "object.__init_subclass__", .ref 85], #[]⟩
noncomputable def o90 : Obj := ⟨.type "tuple", none, .seq #[] 0, #[]⟩
noncomputable def o91 : Obj := ⟨.type "builtin_function_or_method", none, .fields #[.builtin "type.__prepare__", .type "type"], #[]⟩
noncomputable def o92 (P : Params) : Obj := ⟨.type "dict", none, .dict #[en P "__module__" 307 (.str "lazycore.heap" 236), en P "__qualname__" 309 (.str "Thunk" 308), en P "__firstlineno__" 311 (.int 21 310), en P "__init__" 320 (.ref 103), en P "__static_attributes__" 323 (.ref 104)] 5, #[]⟩
noncomputable def o93 : Obj := ⟨.type "tuple", none, .seq #[] 0, #[]⟩
noncomputable def o94 : Obj := ⟨.none, none, .fields #[.int 23 0, .int 4 0, .ref 102], #[]⟩
noncomputable def o95 : Obj := ⟨.type "code", none, .fields #[.str "Thunk" 302, .str "Thunk" 303, .str "/claim/cut.py" 304, .int 21 0, .int 0 0, .int 0 0, .int 0 0, .int 0 0, .ref 93, .bool false, .int 181 0, .ref 94, .none, .none, .none, .none, .int 305 0, .int 21 0, .str "/claim/cut.py" 306], #[]⟩
noncomputable def o96 : Obj := ⟨.type "frame", none, .plain, #[some (.ref 95), some (.ref 3), some (.ref 92), none, some (.str "lazycore.heap" 236), none, some (.ref 0)]⟩
noncomputable def o97 : Obj := ⟨.type "tuple", none, .seq #[] 0, #[]⟩
noncomputable def o98 : Obj := ⟨.none, none, .fields #[], #[]⟩
noncomputable def o99 : Obj := ⟨.type "tuple", none, .seq #[.str "self" 315, .str "code" 316, .str "captured" 317] 0, #[]⟩
noncomputable def o100 : Obj := ⟨.type "tuple", none, .seq #[] 0, #[]⟩
noncomputable def o101 : Obj := ⟨.none, none, .func (fn "__init__" "Thunk.__init__" (fA (sC 6 0)) (.stmts (fB (sC 6 0))) (fS (sC 6 0)) 0 [] .none .none .none .none none .none .none 0), #[]⟩
noncomputable def o102 : Obj := ⟨.type "code", none, .fields #[.str "__init__" 312, .str "Thunk.__init__" 313, .str "/claim/cut.py" 314, .int 23 0, .int 3 0, .int 0 0, .int 0 0, .int 3 0, .ref 97, .bool true, .int 181 0, .ref 98, .none, .ref 99, .ref 100, .ref 101, .int 318 0, .int 23 0, .str "/claim/cut.py" 319], #[]⟩
noncomputable def o103 : Obj := ⟨.type "function", none, .func (fn "__init__" "Thunk.__init__" (fA (sC 6 0)) (.stmts (fB (sC 6 0))) (fS (sC 6 0)) 3 [] .none .none .none (.str "lazycore.heap" 236) none (.ref 102) .none 0), #[]⟩
noncomputable def o104 : Obj := ⟨.type "tuple", none, .seq #[.str "captured" 321, .str "code" 322] 0, #[]⟩
noncomputable def o105 (P : Params) : Obj := ⟨.type "dict", none, .dict #[en P "__module__" 307 (.str "lazycore.heap" 236), en P "__firstlineno__" 311 (.int 21 310), en P "__init__" 320 (.ref 103), en P "__static_attributes__" 323 (.ref 104), en P "__dict__" 325 (.ref 107), en P "__weakref__" 327 (.ref 108), en P "__doc__" 328 .none] 4, #[]⟩
noncomputable def o106 : Obj := ⟨.type "type", none, .cls ⟨"Thunk", [.type "object"], [.ref 106, .type "object"], 105, "Thunk", true, [], [], false, none, false⟩, #[none, none, some (.str "Thunk" 300), some (.str "Thunk" 308), some (.builtin "object.__new__"), some (.bool true)]⟩
noncomputable def o107 : Obj := ⟨.type "getset_descriptor", none, .fields #[.str "__dict__" 324, .ref 106, .builtin "function.__dict__", .builtin "function.__dict__#set"], #[]⟩
noncomputable def o108 : Obj := ⟨.type "getset_descriptor", none, .fields #[.str "__weakref__" 326, .ref 106, .builtin "ExceptionGroup.__weakref__", .none], #[]⟩
noncomputable def o109 : Obj := ⟨.type "super", none, .fields #[.ref 106, .ref 106, .ref 106], #[]⟩
noncomputable def o110 : Obj := ⟨.type "builtin_function_or_method", none, .fields #[.builtin "object.__init_subclass__", .ref 106], #[]⟩
noncomputable def o111 : Obj := ⟨.type "tuple", none, .seq #[] 0, #[]⟩
noncomputable def o112 : Obj := ⟨.type "builtin_function_or_method", none, .fields #[.builtin "type.__prepare__", .type "type"], #[]⟩
noncomputable def o113 (P : Params) : Obj := ⟨.type "dict", none, .dict #[en P "__module__" 338 (.str "lazycore.heap" 236), en P "__qualname__" 340 (.str "Hole" 339), en P "__firstlineno__" 342 (.int 26 341), en P "__static_attributes__" 343 (.ref 118)] 4, #[]⟩
noncomputable def o114 : Obj := ⟨.type "tuple", none, .seq #[] 0, #[]⟩
noncomputable def o115 : Obj := ⟨.none, none, .fields #[], #[]⟩
noncomputable def o116 : Obj := ⟨.type "code", none, .fields #[.str "Hole" 333, .str "Hole" 334, .str "/claim/cut.py" 335, .int 26 0, .int 0 0, .int 0 0, .int 0 0, .int 0 0, .ref 114, .bool false, .int 181 0, .ref 115, .none, .none, .none, .none, .int 336 0, .int 26 0, .str "/claim/cut.py" 337], #[]⟩
noncomputable def o117 : Obj := ⟨.type "frame", none, .plain, #[some (.ref 116), some (.ref 3), some (.ref 113), none, some (.str "lazycore.heap" 236), none, some (.ref 0)]⟩
noncomputable def o118 : Obj := ⟨.type "tuple", none, .seq #[] 0, #[]⟩
noncomputable def o119 (P : Params) : Obj := ⟨.type "dict", none, .dict #[en P "__module__" 338 (.str "lazycore.heap" 236), en P "__firstlineno__" 342 (.int 26 341), en P "__static_attributes__" 343 (.ref 118), en P "__dict__" 345 (.ref 121), en P "__weakref__" 347 (.ref 122), en P "__doc__" 348 .none] 4, #[]⟩
noncomputable def o120 : Obj := ⟨.type "type", none, .cls ⟨"Hole", [.type "object"], [.ref 120, .type "object"], 119, "Hole", true, [], [], false, none, false⟩, #[none, none, some (.str "Hole" 331), some (.str "Hole" 339), some (.builtin "object.__new__"), some (.bool true)]⟩
noncomputable def o121 : Obj := ⟨.type "getset_descriptor", none, .fields #[.str "__dict__" 344, .ref 120, .builtin "function.__dict__", .builtin "function.__dict__#set"], #[]⟩
noncomputable def o122 : Obj := ⟨.type "getset_descriptor", none, .fields #[.str "__weakref__" 346, .ref 120, .builtin "ExceptionGroup.__weakref__", .none], #[]⟩
noncomputable def o123 : Obj := ⟨.type "super", none, .fields #[.ref 120, .ref 120, .ref 120], #[]⟩
noncomputable def o124 : Obj := ⟨.type "builtin_function_or_method", none, .fields #[.builtin "object.__init_subclass__", .ref 120], #[]⟩
noncomputable def o125 : Obj := ⟨.type "tuple", none, .seq #[] 0, #[]⟩
noncomputable def o126 : Obj := ⟨.type "builtin_function_or_method", none, .fields #[.builtin "type.__prepare__", .type "type"], #[]⟩
noncomputable def o127 (P : Params) : Obj := ⟨.type "dict", none, .dict #[en P "__module__" 358 (.str "lazycore.heap" 236), en P "__qualname__" 360 (.str "Link" 359), en P "__firstlineno__" 362 (.int 28 361), en P "__init__" 370 (.ref 138), en P "__static_attributes__" 372 (.ref 139)] 5, #[]⟩
noncomputable def o128 : Obj := ⟨.type "tuple", none, .seq #[] 0, #[]⟩
noncomputable def o129 : Obj := ⟨.none, none, .fields #[.int 30 0, .int 4 0, .ref 137], #[]⟩
noncomputable def o130 : Obj := ⟨.type "code", none, .fields #[.str "Link" 353, .str "Link" 354, .str "/claim/cut.py" 355, .int 28 0, .int 0 0, .int 0 0, .int 0 0, .int 0 0, .ref 128, .bool false, .int 181 0, .ref 129, .none, .none, .none, .none, .int 356 0, .int 28 0, .str "/claim/cut.py" 357], #[]⟩
noncomputable def o131 : Obj := ⟨.type "frame", none, .plain, #[some (.ref 130), some (.ref 3), some (.ref 127), none, some (.str "lazycore.heap" 236), none, some (.ref 0)]⟩
noncomputable def o132 : Obj := ⟨.type "tuple", none, .seq #[] 0, #[]⟩
noncomputable def o133 : Obj := ⟨.none, none, .fields #[], #[]⟩
noncomputable def o134 : Obj := ⟨.type "tuple", none, .seq #[.str "self" 366, .str "address" 367] 0, #[]⟩
noncomputable def o135 : Obj := ⟨.type "tuple", none, .seq #[] 0, #[]⟩
noncomputable def o136 : Obj := ⟨.none, none, .func (fn "__init__" "Link.__init__" (fA (sC 8 0)) (.stmts (fB (sC 8 0))) (fS (sC 8 0)) 0 [] .none .none .none .none none .none .none 0), #[]⟩
noncomputable def o137 : Obj := ⟨.type "code", none, .fields #[.str "__init__" 363, .str "Link.__init__" 364, .str "/claim/cut.py" 365, .int 30 0, .int 2 0, .int 0 0, .int 0 0, .int 3 0, .ref 132, .bool true, .int 181 0, .ref 133, .none, .ref 134, .ref 135, .ref 136, .int 368 0, .int 30 0, .str "/claim/cut.py" 369], #[]⟩
noncomputable def o138 : Obj := ⟨.type "function", none, .func (fn "__init__" "Link.__init__" (fA (sC 8 0)) (.stmts (fB (sC 8 0))) (fS (sC 8 0)) 3 [] .none .none .none (.str "lazycore.heap" 236) none (.ref 137) .none 0), #[]⟩
noncomputable def o139 : Obj := ⟨.type "tuple", none, .seq #[.str "address" 371] 0, #[]⟩
noncomputable def o140 (P : Params) : Obj := ⟨.type "dict", none, .dict #[en P "__module__" 358 (.str "lazycore.heap" 236), en P "__firstlineno__" 362 (.int 28 361), en P "__init__" 370 (.ref 138), en P "__static_attributes__" 372 (.ref 139), en P "__dict__" 374 (.ref 142), en P "__weakref__" 376 (.ref 143), en P "__doc__" 377 .none] 4, #[]⟩
noncomputable def o141 : Obj := ⟨.type "type", none, .cls ⟨"Link", [.type "object"], [.ref 141, .type "object"], 140, "Link", true, [], [], false, none, false⟩, #[none, none, some (.str "Link" 351), some (.str "Link" 359), some (.builtin "object.__new__"), some (.bool true)]⟩
noncomputable def o142 : Obj := ⟨.type "getset_descriptor", none, .fields #[.str "__dict__" 373, .ref 141, .builtin "function.__dict__", .builtin "function.__dict__#set"], #[]⟩
noncomputable def o143 : Obj := ⟨.type "getset_descriptor", none, .fields #[.str "__weakref__" 375, .ref 141, .builtin "ExceptionGroup.__weakref__", .none], #[]⟩
noncomputable def o144 : Obj := ⟨.type "super", none, .fields #[.ref 141, .ref 141, .ref 141], #[]⟩
noncomputable def o145 : Obj := ⟨.type "builtin_function_or_method", none, .fields #[.builtin "object.__init_subclass__", .ref 141], #[]⟩
noncomputable def o146 : Obj := ⟨.type "tuple", none, .seq #[] 0, #[]⟩
noncomputable def o147 : Obj := ⟨.type "builtin_function_or_method", none, .fields #[.builtin "type.__prepare__", .type "type"], #[]⟩
noncomputable def o148 (P : Params) : Obj := ⟨.type "dict", none, .dict #[en P "__module__" 387 (.str "lazycore.heap" 236), en P "__qualname__" 389 (.str "Plain" 388), en P "__firstlineno__" 391 (.int 32 390), en P "__init__" 399 (.ref 159), en P "__static_attributes__" 401 (.ref 160)] 5, #[]⟩
noncomputable def o149 : Obj := ⟨.type "tuple", none, .seq #[] 0, #[]⟩
noncomputable def o150 : Obj := ⟨.none, none, .fields #[.int 34 0, .int 4 0, .ref 158], #[]⟩
noncomputable def o151 : Obj := ⟨.type "code", none, .fields #[.str "Plain" 382, .str "Plain" 383, .str "/claim/cut.py" 384, .int 32 0, .int 0 0, .int 0 0, .int 0 0, .int 0 0, .ref 149, .bool false, .int 181 0, .ref 150, .none, .none, .none, .none, .int 385 0, .int 32 0, .str "/claim/cut.py" 386], #[]⟩
noncomputable def o152 : Obj := ⟨.type "frame", none, .plain, #[some (.ref 151), some (.ref 3), some (.ref 148), none, some (.str "lazycore.heap" 236), none, some (.ref 0)]⟩
noncomputable def o153 : Obj := ⟨.type "tuple", none, .seq #[] 0, #[]⟩
noncomputable def o154 : Obj := ⟨.none, none, .fields #[], #[]⟩
noncomputable def o155 : Obj := ⟨.type "tuple", none, .seq #[.str "self" 395, .str "value" 396] 0, #[]⟩
noncomputable def o156 : Obj := ⟨.type "tuple", none, .seq #[] 0, #[]⟩
noncomputable def o157 : Obj := ⟨.none, none, .func (fn "__init__" "Plain.__init__" (fA (sC 9 0)) (.stmts (fB (sC 9 0))) (fS (sC 9 0)) 0 [] .none .none .none .none none .none .none 0), #[]⟩
noncomputable def o158 : Obj := ⟨.type "code", none, .fields #[.str "__init__" 392, .str "Plain.__init__" 393, .str "/claim/cut.py" 394, .int 34 0, .int 2 0, .int 0 0, .int 0 0, .int 3 0, .ref 153, .bool true, .int 181 0, .ref 154, .none, .ref 155, .ref 156, .ref 157, .int 397 0, .int 34 0, .str "/claim/cut.py" 398], #[]⟩
noncomputable def o159 : Obj := ⟨.type "function", none, .func (fn "__init__" "Plain.__init__" (fA (sC 9 0)) (.stmts (fB (sC 9 0))) (fS (sC 9 0)) 3 [] .none .none .none (.str "lazycore.heap" 236) none (.ref 158) .none 0), #[]⟩
noncomputable def o160 : Obj := ⟨.type "tuple", none, .seq #[.str "value" 400] 0, #[]⟩
noncomputable def o161 (P : Params) : Obj := ⟨.type "dict", none, .dict #[en P "__module__" 387 (.str "lazycore.heap" 236), en P "__firstlineno__" 391 (.int 32 390), en P "__init__" 399 (.ref 159), en P "__static_attributes__" 401 (.ref 160), en P "__dict__" 403 (.ref 163), en P "__weakref__" 405 (.ref 164), en P "__doc__" 406 .none] 4, #[]⟩
noncomputable def o162 : Obj := ⟨.type "type", none, .cls ⟨"Plain", [.type "object"], [.ref 162, .type "object"], 161, "Plain", true, [], [], false, none, false⟩, #[none, none, some (.str "Plain" 380), some (.str "Plain" 388), some (.builtin "object.__new__"), some (.bool true)]⟩
noncomputable def o163 : Obj := ⟨.type "getset_descriptor", none, .fields #[.str "__dict__" 402, .ref 162, .builtin "function.__dict__", .builtin "function.__dict__#set"], #[]⟩
noncomputable def o164 : Obj := ⟨.type "getset_descriptor", none, .fields #[.str "__weakref__" 404, .ref 162, .builtin "ExceptionGroup.__weakref__", .none], #[]⟩
noncomputable def o165 : Obj := ⟨.type "super", none, .fields #[.ref 162, .ref 162, .ref 162], #[]⟩
noncomputable def o166 : Obj := ⟨.type "builtin_function_or_method", none, .fields #[.builtin "object.__init_subclass__", .ref 162], #[]⟩
noncomputable def o167 : Obj := ⟨.type "tuple", none, .seq #[] 0, #[]⟩
noncomputable def o168 : Obj := ⟨.type "builtin_function_or_method", none, .fields #[.builtin "type.__prepare__", .type "type"], #[]⟩
noncomputable def o169 (P : Params) : Obj := ⟨.type "dict", none, .dict #[en P "__module__" 416 (.str "lazycore.heap" 236), en P "__qualname__" 418 (.str "Data" 417), en P "__firstlineno__" 420 (.int 36 419), en P "__init__" 429 (.ref 180), en P "__static_attributes__" 432 (.ref 181)] 5, #[]⟩
noncomputable def o170 : Obj := ⟨.type "tuple", none, .seq #[] 0, #[]⟩
noncomputable def o171 : Obj := ⟨.none, none, .fields #[.int 38 0, .int 4 0, .ref 179], #[]⟩
noncomputable def o172 : Obj := ⟨.type "code", none, .fields #[.str "Data" 411, .str "Data" 412, .str "/claim/cut.py" 413, .int 36 0, .int 0 0, .int 0 0, .int 0 0, .int 0 0, .ref 170, .bool false, .int 181 0, .ref 171, .none, .none, .none, .none, .int 414 0, .int 36 0, .str "/claim/cut.py" 415], #[]⟩
noncomputable def o173 : Obj := ⟨.type "frame", none, .plain, #[some (.ref 172), some (.ref 3), some (.ref 169), none, some (.str "lazycore.heap" 236), none, some (.ref 0)]⟩
noncomputable def o174 : Obj := ⟨.type "tuple", none, .seq #[] 0, #[]⟩
noncomputable def o175 : Obj := ⟨.none, none, .fields #[], #[]⟩
noncomputable def o176 : Obj := ⟨.type "tuple", none, .seq #[.str "self" 424, .str "con" 425, .str "values" 426] 0, #[]⟩
noncomputable def o177 : Obj := ⟨.type "tuple", none, .seq #[] 0, #[]⟩
noncomputable def o178 : Obj := ⟨.none, none, .func (fn "__init__" "Data.__init__" (fA (sC 10 0)) (.stmts (fB (sC 10 0))) (fS (sC 10 0)) 0 [] .none .none .none .none none .none .none 0), #[]⟩
noncomputable def o179 : Obj := ⟨.type "code", none, .fields #[.str "__init__" 421, .str "Data.__init__" 422, .str "/claim/cut.py" 423, .int 38 0, .int 3 0, .int 0 0, .int 0 0, .int 3 0, .ref 174, .bool true, .int 181 0, .ref 175, .none, .ref 176, .ref 177, .ref 178, .int 427 0, .int 38 0, .str "/claim/cut.py" 428], #[]⟩
noncomputable def o180 : Obj := ⟨.type "function", none, .func (fn "__init__" "Data.__init__" (fA (sC 10 0)) (.stmts (fB (sC 10 0))) (fS (sC 10 0)) 3 [] .none .none .none (.str "lazycore.heap" 236) none (.ref 179) .none 0), #[]⟩
noncomputable def o181 : Obj := ⟨.type "tuple", none, .seq #[.str "con" 430, .str "values" 431] 0, #[]⟩
noncomputable def o182 (P : Params) : Obj := ⟨.type "dict", none, .dict #[en P "__module__" 416 (.str "lazycore.heap" 236), en P "__firstlineno__" 420 (.int 36 419), en P "__init__" 429 (.ref 180), en P "__static_attributes__" 432 (.ref 181), en P "__dict__" 434 (.ref 184), en P "__weakref__" 436 (.ref 185), en P "__doc__" 437 .none] 4, #[]⟩
noncomputable def o183 : Obj := ⟨.type "type", none, .cls ⟨"Data", [.type "object"], [.ref 183, .type "object"], 182, "Data", true, [], [], false, none, false⟩, #[none, none, some (.str "Data" 409), some (.str "Data" 417), some (.builtin "object.__new__"), some (.bool true)]⟩
noncomputable def o184 : Obj := ⟨.type "getset_descriptor", none, .fields #[.str "__dict__" 433, .ref 183, .builtin "function.__dict__", .builtin "function.__dict__#set"], #[]⟩
noncomputable def o185 : Obj := ⟨.type "getset_descriptor", none, .fields #[.str "__weakref__" 435, .ref 183, .builtin "ExceptionGroup.__weakref__", .none], #[]⟩
noncomputable def o186 : Obj := ⟨.type "super", none, .fields #[.ref 183, .ref 183, .ref 183], #[]⟩
noncomputable def o187 : Obj := ⟨.type "builtin_function_or_method", none, .fields #[.builtin "object.__init_subclass__", .ref 183], #[]⟩
noncomputable def o188 : Obj := ⟨.type "tuple", none, .seq #[] 0, #[]⟩
noncomputable def o189 : Obj := ⟨.type "builtin_function_or_method", none, .fields #[.builtin "type.__prepare__", .type "type"], #[]⟩
noncomputable def o190 (P : Params) : Obj := ⟨.type "dict", none, .dict #[en P "__module__" 447 (.str "lazycore.heap" 236), en P "__qualname__" 449 (.str "Heap" 448), en P "__firstlineno__" 451 (.int 41 450), en P "__init__" 458 (.ref 201), en P "new" 467 (.ref 208), en P "get" 475 (.ref 215), en P "put" 484 (.ref 222), en P "many" 491 (.ref 229), en P "__static_attributes__" 494 (.ref 230)] 9, #[]⟩
noncomputable def o191 : Obj := ⟨.type "tuple", none, .seq #[] 0, #[]⟩
noncomputable def o192 : Obj := ⟨.none, none, .fields #[.int 43 0, .int 4 0, .ref 200, .int 47 0, .int 4 0, .ref 207, .int 53 0, .int 4 0, .ref 214, .int 58 0, .int 4 0, .ref 221, .int 61 0, .int 4 0, .ref 228], #[]⟩
noncomputable def o193 : Obj := ⟨.type "code", none, .fields #[.str "Heap" 442, .str "Heap" 443, .str "/claim/cut.py" 444, .int 41 0, .int 0 0, .int 0 0, .int 0 0, .int 0 0, .ref 191, .bool false, .int 181 0, .ref 192, .none, .none, .none, .none, .int 445 0, .int 41 0, .str "/claim/cut.py" 446], #[]⟩
noncomputable def o194 : Obj := ⟨.type "frame", none, .plain, #[some (.ref 193), some (.ref 3), some (.ref 190), none, some (.str "lazycore.heap" 236), none, some (.ref 0)]⟩
noncomputable def o195 : Obj := ⟨.type "tuple", none, .seq #[] 0, #[]⟩
noncomputable def o196 : Obj := ⟨.none, none, .fields #[], #[]⟩
noncomputable def o197 : Obj := ⟨.type "tuple", none, .seq #[.str "self" 455] 0, #[]⟩
noncomputable def o198 : Obj := ⟨.type "tuple", none, .seq #[] 0, #[]⟩
noncomputable def o199 : Obj := ⟨.none, none, .func (fn "__init__" "Heap.__init__" (fA (sC 11 0)) (.stmts (fB (sC 11 0))) (fS (sC 11 0)) 0 [] .none .none .none .none none .none .none 0), #[]⟩
noncomputable def o200 : Obj := ⟨.type "code", none, .fields #[.str "__init__" 452, .str "Heap.__init__" 453, .str "/claim/cut.py" 454, .int 43 0, .int 1 0, .int 0 0, .int 0 0, .int 3 0, .ref 195, .bool true, .int 181 0, .ref 196, .none, .ref 197, .ref 198, .ref 199, .int 456 0, .int 43 0, .str "/claim/cut.py" 457], #[]⟩
noncomputable def o201 : Obj := ⟨.type "function", none, .func (fn "__init__" "Heap.__init__" (fA (sC 11 0)) (.stmts (fB (sC 11 0))) (fS (sC 11 0)) 3 [] .none .none .none (.str "lazycore.heap" 236) none (.ref 200) .none 0), #[]⟩
noncomputable def o202 : Obj := ⟨.type "tuple", none, .seq #[] 0, #[]⟩
noncomputable def o203 : Obj := ⟨.none, none, .fields #[], #[]⟩
noncomputable def o204 : Obj := ⟨.type "tuple", none, .seq #[.str "self" 462, .str "cell" 463, .str "address" 464] 0, #[]⟩
noncomputable def o205 : Obj := ⟨.type "tuple", none, .seq #[] 0, #[]⟩
noncomputable def o206 : Obj := ⟨.none, none, .func (fn "new" "Heap.new" (fA (sC 11 1)) (.stmts (fB (sC 11 1))) (fS (sC 11 1)) 0 [] .none .none .none .none none .none .none 0), #[]⟩
noncomputable def o207 : Obj := ⟨.type "code", none, .fields #[.str "new" 459, .str "Heap.new" 460, .str "/claim/cut.py" 461, .int 47 0, .int 2 0, .int 0 0, .int 0 0, .int 3 0, .ref 202, .bool true, .int 181 0, .ref 203, .none, .ref 204, .ref 205, .ref 206, .int 465 0, .int 47 0, .str "/claim/cut.py" 466], #[]⟩
noncomputable def o208 : Obj := ⟨.type "function", none, .func (fn "new" "Heap.new" (fA (sC 11 1)) (.stmts (fB (sC 11 1))) (fS (sC 11 1)) 3 [] .none .none .none (.str "lazycore.heap" 236) none (.ref 207) .none 0), #[]⟩
noncomputable def o209 : Obj := ⟨.type "tuple", none, .seq #[] 0, #[]⟩
noncomputable def o210 : Obj := ⟨.none, none, .fields #[], #[]⟩
noncomputable def o211 : Obj := ⟨.type "tuple", none, .seq #[.str "self" 471, .str "address" 472] 0, #[]⟩
noncomputable def o212 : Obj := ⟨.type "tuple", none, .seq #[] 0, #[]⟩
noncomputable def o213 : Obj := ⟨.none, none, .func (fn "get" "Heap.get" (fA (sC 11 2)) (.stmts (fB (sC 11 2))) (fS (sC 11 2)) 0 [] .none .none .none .none none .none .none 0), #[]⟩
noncomputable def o214 : Obj := ⟨.type "code", none, .fields #[.str "get" 468, .str "Heap.get" 469, .str "/claim/cut.py" 470, .int 53 0, .int 2 0, .int 0 0, .int 0 0, .int 3 0, .ref 209, .bool true, .int 181 0, .ref 210, .none, .ref 211, .ref 212, .ref 213, .int 473 0, .int 53 0, .str "/claim/cut.py" 474], #[]⟩
noncomputable def o215 : Obj := ⟨.type "function", none, .func (fn "get" "Heap.get" (fA (sC 11 2)) (.stmts (fB (sC 11 2))) (fS (sC 11 2)) 3 [] .none .none .none (.str "lazycore.heap" 236) none (.ref 214) .none 0), #[]⟩
noncomputable def o216 : Obj := ⟨.type "tuple", none, .seq #[] 0, #[]⟩
noncomputable def o217 : Obj := ⟨.none, none, .fields #[], #[]⟩
noncomputable def o218 : Obj := ⟨.type "tuple", none, .seq #[.str "self" 479, .str "address" 480, .str "cell" 481] 0, #[]⟩
noncomputable def o219 : Obj := ⟨.type "tuple", none, .seq #[] 0, #[]⟩
noncomputable def o220 : Obj := ⟨.none, none, .func (fn "put" "Heap.put" (fA (sC 11 3)) (.stmts (fB (sC 11 3))) (fS (sC 11 3)) 0 [] .none .none .none .none none .none .none 0), #[]⟩
noncomputable def o221 : Obj := ⟨.type "code", none, .fields #[.str "put" 476, .str "Heap.put" 477, .str "/claim/cut.py" 478, .int 58 0, .int 3 0, .int 0 0, .int 0 0, .int 3 0, .ref 216, .bool true, .int 181 0, .ref 217, .none, .ref 218, .ref 219, .ref 220, .int 482 0, .int 58 0, .str "/claim/cut.py" 483], #[]⟩
noncomputable def o222 : Obj := ⟨.type "function", none, .func (fn "put" "Heap.put" (fA (sC 11 3)) (.stmts (fB (sC 11 3))) (fS (sC 11 3)) 3 [] .none .none .none (.str "lazycore.heap" 236) none (.ref 221) .none 0), #[]⟩
noncomputable def o223 : Obj := ⟨.type "tuple", none, .seq #[] 0, #[]⟩
noncomputable def o224 : Obj := ⟨.none, none, .fields #[], #[]⟩
noncomputable def o225 : Obj := ⟨.type "tuple", none, .seq #[.str "self" 488] 0, #[]⟩
noncomputable def o226 : Obj := ⟨.type "tuple", none, .seq #[] 0, #[]⟩
noncomputable def o227 : Obj := ⟨.none, none, .func (fn "many" "Heap.many" (fA (sC 11 4)) (.stmts (fB (sC 11 4))) (fS (sC 11 4)) 0 [] .none .none .none .none none .none .none 0), #[]⟩
noncomputable def o228 : Obj := ⟨.type "code", none, .fields #[.str "many" 485, .str "Heap.many" 486, .str "/claim/cut.py" 487, .int 61 0, .int 1 0, .int 0 0, .int 0 0, .int 3 0, .ref 223, .bool true, .int 181 0, .ref 224, .none, .ref 225, .ref 226, .ref 227, .int 489 0, .int 61 0, .str "/claim/cut.py" 490], #[]⟩
noncomputable def o229 : Obj := ⟨.type "function", none, .func (fn "many" "Heap.many" (fA (sC 11 4)) (.stmts (fB (sC 11 4))) (fS (sC 11 4)) 3 [] .none .none .none (.str "lazycore.heap" 236) none (.ref 228) .none 0), #[]⟩
noncomputable def o230 : Obj := ⟨.type "tuple", none, .seq #[.str "cells" 492, .str "next" 493] 0, #[]⟩
noncomputable def o231 (P : Params) : Obj := ⟨.type "dict", none, .dict #[en P "__module__" 447 (.str "lazycore.heap" 236), en P "__firstlineno__" 451 (.int 41 450), en P "__init__" 458 (.ref 201), en P "new" 467 (.ref 208), en P "get" 475 (.ref 215), en P "put" 484 (.ref 222), en P "many" 491 (.ref 229), en P "__static_attributes__" 494 (.ref 230), en P "__dict__" 496 (.ref 233), en P "__weakref__" 498 (.ref 234), en P "__doc__" 499 .none] 4, #[]⟩
noncomputable def o232 : Obj := ⟨.type "type", none, .cls ⟨"Heap", [.type "object"], [.ref 232, .type "object"], 231, "Heap", true, [], [], false, none, false⟩, #[none, none, some (.str "Heap" 440), some (.str "Heap" 448), some (.builtin "object.__new__"), some (.bool true)]⟩
noncomputable def o233 : Obj := ⟨.type "getset_descriptor", none, .fields #[.str "__dict__" 495, .ref 232, .builtin "function.__dict__", .builtin "function.__dict__#set"], #[]⟩
noncomputable def o234 : Obj := ⟨.type "getset_descriptor", none, .fields #[.str "__weakref__" 497, .ref 232, .builtin "ExceptionGroup.__weakref__", .none], #[]⟩
noncomputable def o235 : Obj := ⟨.type "super", none, .fields #[.ref 232, .ref 232, .ref 232], #[]⟩
noncomputable def o236 : Obj := ⟨.type "builtin_function_or_method", none, .fields #[.builtin "object.__init_subclass__", .ref 232], #[]⟩
noncomputable def o237 : Obj := ⟨.type "tuple", none, .seq #[] 0, #[]⟩
noncomputable def o238 : Obj := ⟨.none, none, .fields #[], #[]⟩
noncomputable def o239 : Obj := ⟨.type "tuple", none, .seq #[.str "value" 507, .str "moved" 508] 0, #[]⟩
noncomputable def o240 : Obj := ⟨.type "tuple", none, .seq #[] 0, #[]⟩
noncomputable def o241 : Obj := ⟨.none, none, .func (fn "value_moved" "value_moved" (fA (sT 13)) (.stmts (fB (sT 13))) (fS (sT 13)) 0 [] .none .none .none .none none .none .none 0), #[]⟩
noncomputable def o242 : Obj := ⟨.type "code", none, .fields #[.str "value_moved" 504, .str "value_moved" 505, .str "/claim/cut.py" 506, .int 64 0, .int 2 0, .int 0 0, .int 0 0, .int 3 0, .ref 237, .bool true, .int 181 0, .ref 238, .none, .ref 239, .ref 240, .ref 241, .int 509 0, .int 64 0, .str "/claim/cut.py" 510], #[]⟩
noncomputable def o243 : Obj := ⟨.type "function", none, .func (fn "value_moved" "value_moved" (fA (sT 13)) (.stmts (fB (sT 13))) (fS (sT 13)) 3 [] .none .none .none (.str "lazycore.collector" 502) none (.ref 242) .none 0), #[]⟩
noncomputable def o244 : Obj := ⟨.type "tuple", none, .seq #[] 0, #[]⟩
noncomputable def o245 : Obj := ⟨.none, none, .fields #[], #[]⟩
noncomputable def o246 : Obj := ⟨.none, none, .func (fn "values_moved" "values_moved" (fA (sT 14)) (.stmts (fB (sT 14))) (fS (sT 14)) 0 [] .none .none .none .none none .none .none 0), #[]⟩
noncomputable def o247 : Obj := ⟨.type "code", none, .fields #[.str "values_moved" 512, .str "values_moved" 513, .str "/claim/cut.py" 514, .int 68 0, .int 2 0, .int 0 0, .int 0 0, .int 3 0, .ref 244, .bool true, .int 181 0, .ref 245, .none, .none, .none, .ref 246, .int 515 0, .int 68 0, .str "/claim/cut.py" 516], #[]⟩
noncomputable def o248 : Obj := ⟨.type "function", none, .func (fn "values_moved" "values_moved" (fA (sT 14)) (.stmts (fB (sT 14))) (fS (sT 14)) 3 [] .none .none .none (.str "lazycore.collector" 502) none (.ref 247) .none 0), #[]⟩
noncomputable def o249 : Obj := ⟨.type "tuple", none, .seq #[] 0, #[]⟩
noncomputable def o250 : Obj := ⟨.type "builtin_function_or_method", none, .fields #[.builtin "type.__prepare__", .type "type"], #[]⟩
noncomputable def o251 (P : Params) : Obj := ⟨.type "dict", none, .dict #[en P "__module__" 525 (.str "lazycore.collector" 502), en P "__qualname__" 527 (.str "Collector" 526), en P "__firstlineno__" 529 (.int 70 528), en P "__init__" 537 (.ref 262), en P "links_from" 547 (.ref 269), en P "move" 559 (.ref 276), en P "move_value" 567 (.ref 283), en P "move_values" 573 (.ref 288), en P "copied" 581 (.ref 295), en P "run" 590 (.ref 302), en P "__static_attributes__" 595 (.ref 303)] 11, #[]⟩
noncomputable def o252 : Obj := ⟨.type "tuple", none, .seq #[] 0, #[]⟩
noncomputable def o253 : Obj := ⟨.none, none, .fields #[.int 72 0, .int 4 0, .ref 261, .int 78 0, .int 4 0, .ref 268, .int 89 0, .int 4 0, .ref 275, .int 101 0, .int 4 0, .ref 282, .int 106 0, .int 4 0, .ref 287, .int 109 0, .int 4 0, .ref 294, .int 124 0, .int 4 0, .ref 301], #[]⟩
noncomputable def o254 : Obj := ⟨.type "code", none, .fields #[.str "Collector" 520, .str "Collector" 521, .str "/claim/cut.py" 522, .int 70 0, .int 0 0, .int 0 0, .int 0 0, .int 0 0, .ref 252, .bool false, .int 181 0, .ref 253, .none, .none, .none, .none, .int 523 0, .int 70 0, .str "/claim/cut.py" 524], #[]⟩
noncomputable def o255 : Obj := ⟨.type "frame", none, .plain, #[some (.ref 254), some (.ref 3), some (.ref 251), none, some (.str "lazycore.collector" 502), none, some (.ref 0)]⟩
noncomputable def o256 : Obj := ⟨.type "tuple", none, .seq #[] 0, #[]⟩
noncomputable def o257 : Obj := ⟨.none, none, .fields #[], #[]⟩
noncomputable def o258 : Obj := ⟨.type "tuple", none, .seq #[.str "self" 533, .str "heap" 534] 0, #[]⟩
noncomputable def o259 : Obj := ⟨.type "tuple", none, .seq #[] 0, #[]⟩
noncomputable def o260 : Obj := ⟨.none, none, .func (fn "__init__" "Collector.__init__" (fA (sC 15 0)) (.stmts (fB (sC 15 0))) (fS (sC 15 0)) 0 [] .none .none .none .none none .none .none 0), #[]⟩
noncomputable def o261 : Obj := ⟨.type "code", none, .fields #[.str "__init__" 530, .str "Collector.__init__" 531, .str "/claim/cut.py" 532, .int 72 0, .int 2 0, .int 0 0, .int 0 0, .int 3 0, .ref 256, .bool true, .int 181 0, .ref 257, .none, .ref 258, .ref 259, .ref 260, .int 535 0, .int 72 0, .str "/claim/cut.py" 536], #[]⟩
noncomputable def o262 : Obj := ⟨.type "function", none, .func (fn "__init__" "Collector.__init__" (fA (sC 15 0)) (.stmts (fB (sC 15 0))) (fS (sC 15 0)) 3 [] .none .none .none (.str "lazycore.collector" 502) none (.ref 261) .none 0), #[]⟩
noncomputable def o263 : Obj := ⟨.type "tuple", none, .seq #[] 0, #[]⟩
noncomputable def o264 : Obj := ⟨.none, none, .fields #[], #[]⟩
noncomputable def o265 : Obj := ⟨.type "tuple", none, .seq #[.str "self" 541, .str "address" 542, .str "passed" 543, .str "cell" 544] 0, #[]⟩
noncomputable def o266 : Obj := ⟨.type "tuple", none, .seq #[] 0, #[]⟩
noncomputable def o267 : Obj := ⟨.none, none, .func (fn "links_from" "Collector.links_from" (fA (sC 15 1)) (.stmts (fB (sC 15 1))) (fS (sC 15 1)) 0 [] .none .none .none .none none .none .none 0), #[]⟩
noncomputable def o268 : Obj := ⟨.type "code", none, .fields #[.str "links_from" 538, .str "Collector.links_from" 539, .str "/claim/cut.py" 540, .int 78 0, .int 2 0, .int 0 0, .int 0 0, .int 3 0, .ref 263, .bool true, .int 181 0, .ref 264, .none, .ref 265, .ref 266, .ref 267, .int 545 0, .int 78 0, .str "/claim/cut.py" 546], #[]⟩
noncomputable def o269 : Obj := ⟨.type "function", none, .func (fn "links_from" "Collector.links_from" (fA (sC 15 1)) (.stmts (fB (sC 15 1))) (fS (sC 15 1)) 3 [] .none .none .none (.str "lazycore.collector" 502) none (.ref 268) .none 0), #[]⟩
noncomputable def o270 : Obj := ⟨.type "tuple", none, .seq #[] 0, #[]⟩
noncomputable def o271 : Obj := ⟨.none, none, .fields #[], #[]⟩
noncomputable def o272 : Obj := ⟨.type "tuple", none, .seq #[.str "self" 551, .str "address" 552, .str "passed" 553, .str "end" 554, .str "cell" 555, .str "link" 556] 0, #[]⟩
noncomputable def o273 : Obj := ⟨.type "tuple", none, .seq #[] 0, #[]⟩
noncomputable def o274 : Obj := ⟨.none, none, .func (fn "move" "Collector.move" (fA (sC 15 2)) (.stmts (fB (sC 15 2))) (fS (sC 15 2)) 0 [] .none .none .none .none none .none .none 0), #[]⟩
noncomputable def o275 : Obj := ⟨.type "code", none, .fields #[.str "move" 548, .str "Collector.move" 549, .str "/claim/cut.py" 550, .int 89 0, .int 2 0, .int 0 0, .int 0 0, .int 3 0, .ref 270, .bool true, .int 181 0, .ref 271, .none, .ref 272, .ref 273, .ref 274, .int 557 0, .int 89 0, .str "/claim/cut.py" 558], #[]⟩
noncomputable def o276 : Obj := ⟨.type "function", none, .func (fn "move" "Collector.move" (fA (sC 15 2)) (.stmts (fB (sC 15 2))) (fS (sC 15 2)) 3 [] .none .none .none (.str "lazycore.collector" 502) none (.ref 275) .none 0), #[]⟩
noncomputable def o277 : Obj := ⟨.type "tuple", none, .seq #[] 0, #[]⟩
noncomputable def o278 : Obj := ⟨.none, none, .fields #[], #[]⟩
noncomputable def o279 : Obj := ⟨.type "tuple", none, .seq #[.str "self" 563, .str "value" 564] 0, #[]⟩
noncomputable def o280 : Obj := ⟨.type "tuple", none, .seq #[] 0, #[]⟩
noncomputable def o281 : Obj := ⟨.none, none, .func (fn "move_value" "Collector.move_value" (fA (sC 15 3)) (.stmts (fB (sC 15 3))) (fS (sC 15 3)) 0 [] .none .none .none .none none .none .none 0), #[]⟩
noncomputable def o282 : Obj := ⟨.type "code", none, .fields #[.str "move_value" 560, .str "Collector.move_value" 561, .str "/claim/cut.py" 562, .int 101 0, .int 2 0, .int 0 0, .int 0 0, .int 3 0, .ref 277, .bool true, .int 181 0, .ref 278, .none, .ref 279, .ref 280, .ref 281, .int 565 0, .int 101 0, .str "/claim/cut.py" 566], #[]⟩
noncomputable def o283 : Obj := ⟨.type "function", none, .func (fn "move_value" "Collector.move_value" (fA (sC 15 3)) (.stmts (fB (sC 15 3))) (fS (sC 15 3)) 3 [] .none .none .none (.str "lazycore.collector" 502) none (.ref 282) .none 0), #[]⟩
noncomputable def o284 : Obj := ⟨.type "tuple", none, .seq #[] 0, #[]⟩
noncomputable def o285 : Obj := ⟨.none, none, .fields #[], #[]⟩
noncomputable def o286 : Obj := ⟨.none, none, .func (fn "move_values" "Collector.move_values" (fA (sC 15 4)) (.stmts (fB (sC 15 4))) (fS (sC 15 4)) 0 [] .none .none .none .none none .none .none 0), #[]⟩
noncomputable def o287 : Obj := ⟨.type "code", none, .fields #[.str "move_values" 568, .str "Collector.move_values" 569, .str "/claim/cut.py" 570, .int 106 0, .int 2 0, .int 0 0, .int 0 0, .int 3 0, .ref 284, .bool true, .int 181 0, .ref 285, .none, .none, .none, .ref 286, .int 571 0, .int 106 0, .str "/claim/cut.py" 572], #[]⟩
noncomputable def o288 : Obj := ⟨.type "function", none, .func (fn "move_values" "Collector.move_values" (fA (sC 15 4)) (.stmts (fB (sC 15 4))) (fS (sC 15 4)) 3 [] .none .none .none (.str "lazycore.collector" 502) none (.ref 287) .none 0), #[]⟩
noncomputable def o289 : Obj := ⟨.type "tuple", none, .seq #[] 0, #[]⟩
noncomputable def o290 : Obj := ⟨.none, none, .fields #[], #[]⟩
noncomputable def o291 : Obj := ⟨.type "tuple", none, .seq #[.str "self" 577, .str "cell" 578] 0, #[]⟩
noncomputable def o292 : Obj := ⟨.type "tuple", none, .seq #[] 0, #[]⟩
noncomputable def o293 : Obj := ⟨.none, none, .func (fn "copied" "Collector.copied" (fA (sC 15 5)) (.stmts (fB (sC 15 5))) (fS (sC 15 5)) 0 [] .none .none .none .none none .none .none 0), #[]⟩
noncomputable def o294 : Obj := ⟨.type "code", none, .fields #[.str "copied" 574, .str "Collector.copied" 575, .str "/claim/cut.py" 576, .int 109 0, .int 2 0, .int 0 0, .int 0 0, .int 3 0, .ref 289, .bool true, .int 181 0, .ref 290, .none, .ref 291, .ref 292, .ref 293, .int 579 0, .int 109 0, .str "/claim/cut.py" 580], #[]⟩
noncomputable def o295 : Obj := ⟨.type "function", none, .func (fn "copied" "Collector.copied" (fA (sC 15 5)) (.stmts (fB (sC 15 5))) (fS (sC 15 5)) 3 [] .none .none .none (.str "lazycore.collector" 502) none (.ref 294) .none 0), #[]⟩
noncomputable def o296 : Obj := ⟨.type "tuple", none, .seq #[] 0, #[]⟩
noncomputable def o297 : Obj := ⟨.none, none, .fields #[], #[]⟩
noncomputable def o298 : Obj := ⟨.type "tuple", none, .seq #[.str "self" 585, .str "at" 586, .str "old" 587] 0, #[]⟩
noncomputable def o299 : Obj := ⟨.type "tuple", none, .seq #[] 0, #[]⟩
noncomputable def o300 : Obj := ⟨.none, none, .func (fn "run" "Collector.run" (fA (sC 15 6)) (.stmts (fB (sC 15 6))) (fS (sC 15 6)) 0 [] .none .none .none .none none .none .none 0), #[]⟩
noncomputable def o301 : Obj := ⟨.type "code", none, .fields #[.str "run" 582, .str "Collector.run" 583, .str "/claim/cut.py" 584, .int 124 0, .int 1 0, .int 0 0, .int 0 0, .int 3 0, .ref 296, .bool true, .int 181 0, .ref 297, .none, .ref 298, .ref 299, .ref 300, .int 588 0, .int 124 0, .str "/claim/cut.py" 589], #[]⟩
noncomputable def o302 : Obj := ⟨.type "function", none, .func (fn "run" "Collector.run" (fA (sC 15 6)) (.stmts (fB (sC 15 6))) (fS (sC 15 6)) 3 [] .none .none .none (.str "lazycore.collector" 502) none (.ref 301) .none 0), #[]⟩
noncomputable def o303 : Obj := ⟨.type "tuple", none, .seq #[.str "fresh" 591, .str "heap" 592, .str "moved" 593, .str "waiting" 594] 0, #[]⟩
noncomputable def o304 (P : Params) : Obj := ⟨.type "dict", none, .dict #[en P "__module__" 525 (.str "lazycore.collector" 502), en P "__firstlineno__" 529 (.int 70 528), en P "__init__" 537 (.ref 262), en P "links_from" 547 (.ref 269), en P "move" 559 (.ref 276), en P "move_value" 567 (.ref 283), en P "move_values" 573 (.ref 288), en P "copied" 581 (.ref 295), en P "run" 590 (.ref 302), en P "__static_attributes__" 595 (.ref 303), en P "__dict__" 597 (.ref 306), en P "__weakref__" 599 (.ref 307), en P "__doc__" 600 .none] 4, #[]⟩
noncomputable def o305 : Obj := ⟨.type "type", none, .cls ⟨"Collector", [.type "object"], [.ref 305, .type "object"], 304, "Collector", true, [], [], false, none, false⟩, #[none, none, some (.str "Collector" 518), some (.str "Collector" 526), some (.builtin "object.__new__"), some (.bool true)]⟩
noncomputable def o306 : Obj := ⟨.type "getset_descriptor", none, .fields #[.str "__dict__" 596, .ref 305, .builtin "function.__dict__", .builtin "function.__dict__#set"], #[]⟩
noncomputable def o307 : Obj := ⟨.type "getset_descriptor", none, .fields #[.str "__weakref__" 598, .ref 305, .builtin "ExceptionGroup.__weakref__", .none], #[]⟩
noncomputable def o308 : Obj := ⟨.type "super", none, .fields #[.ref 305, .ref 305, .ref 305], #[]⟩
noncomputable def o309 : Obj := ⟨.type "builtin_function_or_method", none, .fields #[.builtin "object.__init_subclass__", .ref 305], #[]⟩
noncomputable def o310 : Obj := ⟨.type "tuple", none, .seq #[] 0, #[]⟩
noncomputable def o311 : Obj := ⟨.none, none, .fields #[], #[]⟩
noncomputable def o312 : Obj := ⟨.type "tuple", none, .seq #[.str "heap" 606, .str "roots" 607, .str "collector" 608, .str "address" 609] 0, #[]⟩
noncomputable def o313 : Obj := ⟨.type "tuple", none, .seq #[] 0, #[]⟩
noncomputable def o314 : Obj := ⟨.none, none, .func (fn "collected" "collected" (fA (sT 16)) (.stmts (fB (sT 16))) (fS (sT 16)) 0 [] .none .none .none .none none .none .none 0), #[]⟩
noncomputable def o315 : Obj := ⟨.type "code", none, .fields #[.str "collected" 603, .str "collected" 604, .str "/claim/cut.py" 605, .int 130 0, .int 2 0, .int 0 0, .int 0 0, .int 3 0, .ref 310, .bool true, .int 181 0, .ref 311, .none, .ref 312, .ref 313, .ref 314, .int 610 0, .int 130 0, .str "/claim/cut.py" 611], #[]⟩
noncomputable def o316 : Obj := ⟨.type "function", none, .func (fn "collected" "collected" (fA (sT 16)) (.stmts (fB (sT 16))) (fS (sT 16)) 3 [] .none .none .none (.str "lazycore.collector" 502) none (.ref 315) .none 0), #[]⟩
noncomputable def o317 : Obj := ⟨.type "tuple", none, .seq #[] 0, #[]⟩
noncomputable def o318 : Obj := ⟨.none, none, .fields #[], #[]⟩
noncomputable def o319 : Obj := ⟨.type "tuple", none, .seq #[.str "script" 618, .str "turn" 619, .str "can" 620, .str "full" 621] 0, #[]⟩
noncomputable def o320 : Obj := ⟨.type "tuple", none, .seq #[] 0, #[]⟩
noncomputable def o321 : Obj := ⟨.none, none, .func (fn "_law_bin" "_law_bin" (fA (sT 18)) (.stmts (fB (sT 18))) (fS (sT 18)) 0 [] .none .none .none .none none .none .none 0), #[]⟩
noncomputable def o322 : Obj := ⟨.type "code", none, .fields #[.str "_law_bin" 615, .str "_law_bin" 616, .str "/claim/cut.py" 617, .int 137 0, .int 2 0, .int 0 0, .int 0 0, .int 3 0, .ref 317, .bool true, .int 181 0, .ref 318, .none, .ref 319, .ref 320, .ref 321, .int 622 0, .int 137 0, .str "/claim/cut.py" 623], #[]⟩
noncomputable def o323 : Obj := ⟨.type "function", none, .func (fn "_law_bin" "_law_bin" (fA (sT 18)) (.stmts (fB (sT 18))) (fS (sT 18)) 3 [] .none .none .none (.str "law_pq0600_01" 613) none (.ref 322) .none 0), #[]⟩
noncomputable def o324 : Obj := ⟨.type "tuple", none, .seq #[] 0, #[]⟩
noncomputable def o325 : Obj := ⟨.none, none, .fields #[], #[]⟩
noncomputable def o326 : Obj := ⟨.type "tuple", none, .seq #[.str "bin_now" 628, .str "top" 629, .str "scrap" 630] 0, #[]⟩
noncomputable def o327 : Obj := ⟨.type "tuple", none, .seq #[] 0, #[]⟩
noncomputable def o328 : Obj := ⟨.none, none, .func (fn "_law_dip" "_law_dip" (fA (sT 19)) (.stmts (fB (sT 19))) (fS (sT 19)) 0 [] .none .none .none .none none .none .none 0), #[]⟩
noncomputable def o329 : Obj := ⟨.type "code", none, .fields #[.str "_law_dip" 625, .str "_law_dip" 626, .str "/claim/cut.py" 627, .int 141 0, .int 2 0, .int 0 0, .int 0 0, .int 3 0, .ref 324, .bool true, .int 181 0, .ref 325, .none, .ref 326, .ref 327, .ref 328, .int 631 0, .int 141 0, .str "/claim/cut.py" 632], #[]⟩
noncomputable def o330 : Obj := ⟨.type "function", none, .func (fn "_law_dip" "_law_dip" (fA (sT 19)) (.stmts (fB (sT 19))) (fS (sT 19)) 3 [] .none .none .none (.str "law_pq0600_01" 613) none (.ref 329) .none 0), #[]⟩
noncomputable def o331 : Obj := ⟨.type "tuple", none, .seq #[] 0, #[]⟩
noncomputable def o332 : Obj := ⟨.none, none, .fields #[], #[]⟩
noncomputable def o333 : Obj := ⟨.type "tuple", none, .seq #[.str "bin_now" 637, .str "many" 638, .str "found" 639, .str "turn" 640, .str "way" 641] 0, #[]⟩
noncomputable def o334 : Obj := ⟨.type "tuple", none, .seq #[] 0, #[]⟩
noncomputable def o335 : Obj := ⟨.none, none, .func (fn "_law_values" "_law_values" (fA (sT 20)) (.stmts (fB (sT 20))) (fS (sT 20)) 0 [] .none .none .none .none none .none .none 0), #[]⟩
noncomputable def o336 : Obj := ⟨.type "code", none, .fields #[.str "_law_values" 634, .str "_law_values" 635, .str "/claim/cut.py" 636, .int 148 0, .int 2 0, .int 0 0, .int 0 0, .int 3 0, .ref 331, .bool true, .int 181 0, .ref 332, .none, .ref 333, .ref 334, .ref 335, .int 642 0, .int 148 0, .str "/claim/cut.py" 643], #[]⟩
noncomputable def o337 : Obj := ⟨.type "function", none, .func (fn "_law_values" "_law_values" (fA (sT 20)) (.stmts (fB (sT 20))) (fS (sT 20)) 3 [] .none .none .none (.str "law_pq0600_01" 613) none (.ref 336) .none 0), #[]⟩
noncomputable def o338 : Obj := ⟨.type "tuple", none, .seq #[] 0, #[]⟩
noncomputable def o339 : Obj := ⟨.none, none, .fields #[], #[]⟩
noncomputable def o340 : Obj := ⟨.type "tuple", none, .seq #[.str "bin_now" 648, .str "many" 649, .str "rows" 650, .str "at" 651, .str "kind" 652, .str "name" 653, .str "values" 654] 0, #[]⟩
noncomputable def o341 : Obj := ⟨.type "tuple", none, .seq #[] 0, #[]⟩
noncomputable def o342 : Obj := ⟨.none, none, .func (fn "_law_rows" "_law_rows" (fA (sT 21)) (.stmts (fB (sT 21))) (fS (sT 21)) 0 [] .none .none .none .none none .none .none 0), #[]⟩
noncomputable def o343 : Obj := ⟨.type "code", none, .fields #[.str "_law_rows" 645, .str "_law_rows" 646, .str "/claim/cut.py" 647, .int 154 0, .int 1 0, .int 0 0, .int 0 0, .int 3 0, .ref 338, .bool true, .int 181 0, .ref 339, .none, .ref 340, .ref 341, .ref 342, .int 655 0, .int 154 0, .str "/claim/cut.py" 656], #[]⟩
noncomputable def o344 : Obj := ⟨.type "function", none, .func (fn "_law_rows" "_law_rows" (fA (sT 21)) (.stmts (fB (sT 21))) (fS (sT 21)) 3 [] .none .none .none (.str "law_pq0600_01" 613) none (.ref 343) .none 0), #[]⟩
noncomputable def o345 : Obj := ⟨.type "tuple", none, .seq #[] 0, #[]⟩
noncomputable def o346 : Obj := ⟨.none, none, .fields #[], #[]⟩
noncomputable def o347 : Obj := ⟨.type "tuple", none, .seq #[.str "row" 661, .str "kind" 662, .str "name" 663, .str "values" 664, .str "whole" 665] 0, #[]⟩
noncomputable def o348 : Obj := ⟨.type "tuple", none, .seq #[] 0, #[]⟩
noncomputable def o349 : Obj := ⟨.none, none, .func (fn "_law_cell" "_law_cell" (fA (sT 22)) (.stmts (fB (sT 22))) (fS (sT 22)) 0 [] .none .none .none .none none .none .none 0), #[]⟩
noncomputable def o350 : Obj := ⟨.type "code", none, .fields #[.str "_law_cell" 658, .str "_law_cell" 659, .str "/claim/cut.py" 660, .int 164 0, .int 1 0, .int 0 0, .int 0 0, .int 3 0, .ref 345, .bool true, .int 181 0, .ref 346, .none, .ref 347, .ref 348, .ref 349, .int 666 0, .int 164 0, .str "/claim/cut.py" 667], #[]⟩
noncomputable def o351 : Obj := ⟨.type "function", none, .func (fn "_law_cell" "_law_cell" (fA (sT 22)) (.stmts (fB (sT 22))) (fS (sT 22)) 3 [] .none .none .none (.str "law_pq0600_01" 613) none (.ref 350) .none 0), #[]⟩
noncomputable def o352 : Obj := ⟨.type "tuple", none, .seq #[] 0, #[]⟩
noncomputable def o353 : Obj := ⟨.none, none, .fields #[], #[]⟩
noncomputable def o354 : Obj := ⟨.type "tuple", none, .seq #[.str "cell" 672] 0, #[]⟩
noncomputable def o355 : Obj := ⟨.type "tuple", none, .seq #[] 0, #[]⟩
noncomputable def o356 : Obj := ⟨.none, none, .func (fn "_law_row" "_law_row" (fA (sT 23)) (.stmts (fB (sT 23))) (fS (sT 23)) 0 [] .none .none .none .none none .none .none 0), #[]⟩
noncomputable def o357 : Obj := ⟨.type "code", none, .fields #[.str "_law_row" 669, .str "_law_row" 670, .str "/claim/cut.py" 671, .int 170 0, .int 1 0, .int 0 0, .int 0 0, .int 3 0, .ref 352, .bool true, .int 181 0, .ref 353, .none, .ref 354, .ref 355, .ref 356, .int 673 0, .int 170 0, .str "/claim/cut.py" 674], #[]⟩
noncomputable def o358 : Obj := ⟨.type "function", none, .func (fn "_law_row" "_law_row" (fA (sT 23)) (.stmts (fB (sT 23))) (fS (sT 23)) 3 [] .none .none .none (.str "law_pq0600_01" 613) none (.ref 357) .none 0), #[]⟩
noncomputable def o359 : Obj := ⟨.type "tuple", none, .seq #[] 0, #[]⟩
noncomputable def o360 : Obj := ⟨.none, none, .fields #[], #[]⟩
noncomputable def o361 : Obj := ⟨.type "tuple", none, .seq #[.str "rows" 679, .str "at" 680, .str "gone_by" 681] 0, #[]⟩
noncomputable def o362 : Obj := ⟨.type "tuple", none, .seq #[] 0, #[]⟩
noncomputable def o363 : Obj := ⟨.none, none, .func (fn "_law_end" "_law_end" (fA (sT 24)) (.stmts (fB (sT 24))) (fS (sT 24)) 0 [] .none .none .none .none none .none .none 0), #[]⟩
noncomputable def o364 : Obj := ⟨.type "code", none, .fields #[.str "_law_end" 676, .str "_law_end" 677, .str "/claim/cut.py" 678, .int 182 0, .int 2 0, .int 0 0, .int 0 0, .int 3 0, .ref 359, .bool true, .int 181 0, .ref 360, .none, .ref 361, .ref 362, .ref 363, .int 682 0, .int 182 0, .str "/claim/cut.py" 683], #[]⟩
noncomputable def o365 : Obj := ⟨.type "function", none, .func (fn "_law_end" "_law_end" (fA (sT 24)) (.stmts (fB (sT 24))) (fS (sT 24)) 3 [] .none .none .none (.str "law_pq0600_01" 613) none (.ref 364) .none 0), #[]⟩
noncomputable def o366 : Obj := ⟨.type "tuple", none, .seq #[] 0, #[]⟩
noncomputable def o367 : Obj := ⟨.none, none, .fields #[], #[]⟩
noncomputable def o368 : Obj := ⟨.none, none, .func (fn "_law_pairs" "_law_pairs" (fA (sT 25)) (.stmts (fB (sT 25))) (fS (sT 25)) 0 [] .none .none .none .none none .none .none 0), #[]⟩
noncomputable def o369 : Obj := ⟨.type "code", none, .fields #[.str "_law_pairs" 685, .str "_law_pairs" 686, .str "/claim/cut.py" 687, .int 190 0, .int 4 0, .int 0 0, .int 0 0, .int 3 0, .ref 366, .bool true, .int 181 0, .ref 367, .none, .none, .none, .ref 368, .int 688 0, .int 190 0, .str "/claim/cut.py" 689], #[]⟩
noncomputable def o370 : Obj := ⟨.type "function", none, .func (fn "_law_pairs" "_law_pairs" (fA (sT 25)) (.stmts (fB (sT 25))) (fS (sT 25)) 3 [] .none .none .none (.str "law_pq0600_01" 613) none (.ref 369) .none 0), #[]⟩
noncomputable def o371 : Obj := ⟨.type "tuple", none, .seq #[] 0, #[]⟩
noncomputable def o372 : Obj := ⟨.none, none, .fields #[], #[]⟩
noncomputable def o373 : Obj := ⟨.none, none, .func (fn "_law_is_whole" "_law_is_whole" (fA (sT 26)) (.stmts (fB (sT 26))) (fS (sT 26)) 0 [] .none .none .none .none none .none .none 0), #[]⟩
noncomputable def o374 : Obj := ⟨.type "code", none, .fields #[.str "_law_is_whole" 691, .str "_law_is_whole" 692, .str "/claim/cut.py" 693, .int 209 0, .int 2 0, .int 0 0, .int 0 0, .int 3 0, .ref 371, .bool true, .int 181 0, .ref 372, .none, .none, .none, .ref 373, .int 694 0, .int 209 0, .str "/claim/cut.py" 695], #[]⟩
noncomputable def o375 : Obj := ⟨.type "function", none, .func (fn "_law_is_whole" "_law_is_whole" (fA (sT 26)) (.stmts (fB (sT 26))) (fS (sT 26)) 3 [] .none .none .none (.str "law_pq0600_01" 613) none (.ref 374) .none 0), #[]⟩
noncomputable def o376 : Obj := ⟨.type "tuple", none, .seq #[] 0, #[]⟩
noncomputable def o377 : Obj := ⟨.none, none, .fields #[], #[]⟩
noncomputable def o378 : Obj := ⟨.type "tuple", none, .seq #[.str "rows" 700, .str "heap" 701, .str "row" 702] 0, #[]⟩
noncomputable def o379 : Obj := ⟨.type "tuple", none, .seq #[] 0, #[]⟩
noncomputable def o380 : Obj := ⟨.none, none, .func (fn "_law_laid" "_law_laid" (fA (sT 27)) (.stmts (fB (sT 27))) (fS (sT 27)) 0 [] .none .none .none .none none .none .none 0), #[]⟩
noncomputable def o381 : Obj := ⟨.type "code", none, .fields #[.str "_law_laid" 697, .str "_law_laid" 698, .str "/claim/cut.py" 699, .int 219 0, .int 1 0, .int 0 0, .int 0 0, .int 3 0, .ref 376, .bool true, .int 181 0, .ref 377, .none, .ref 378, .ref 379, .ref 380, .int 703 0, .int 219 0, .str "/claim/cut.py" 704], #[]⟩
noncomputable def o382 : Obj := ⟨.type "function", none, .func (fn "_law_laid" "_law_laid" (fA (sT 27)) (.stmts (fB (sT 27))) (fS (sT 27)) 3 [] .none .none .none (.str "law_pq0600_01" 613) none (.ref 381) .none 0), #[]⟩
noncomputable def o383 : Obj := ⟨.type "tuple", none, .seq #[] 0, #[]⟩
noncomputable def o384 : Obj := ⟨.none, none, .fields #[], #[]⟩
noncomputable def o385 : Obj := ⟨.none, none, .func (fn "_law_gone_on_right" "_law_gone_on_right" (fA (sT 28)) (.stmts (fB (sT 28))) (fS (sT 28)) 0 [] .none .none .none .none none .none .none 0), #[]⟩
noncomputable def o386 : Obj := ⟨.type "code", none, .fields #[.str "_law_gone_on_right" 706, .str "_law_gone_on_right" 707, .str "/claim/cut.py" 708, .int 224 0, .int 4 0, .int 0 0, .int 0 0, .int 3 0, .ref 383, .bool true, .int 181 0, .ref 384, .none, .none, .none, .ref 385, .int 709 0, .int 224 0, .str "/claim/cut.py" 710], #[]⟩
noncomputable def o387 : Obj := ⟨.type "function", none, .func (fn "_law_gone_on_right" "_law_gone_on_right" (fA (sT 28)) (.stmts (fB (sT 28))) (fS (sT 28)) 3 [] .none .none .none (.str "law_pq0600_01" 613) none (.ref 386) .none 0), #[]⟩
noncomputable def o388 : Obj := ⟨.type "tuple", none, .seq #[] 0, #[]⟩
noncomputable def o389 : Obj := ⟨.none, none, .fields #[], #[]⟩
noncomputable def o390 : Obj := ⟨.none, none, .func (fn "_law_right" "_law_right" (fA (sT 29)) (.stmts (fB (sT 29))) (fS (sT 29)) 0 [] .none .none .none .none none .none .none 0), #[]⟩
noncomputable def o391 : Obj := ⟨.type "code", none, .fields #[.str "_law_right" 712, .str "_law_right" 713, .str "/claim/cut.py" 714, .int 236 0, .int 2 0, .int 0 0, .int 0 0, .int 3 0, .ref 388, .bool true, .int 181 0, .ref 389, .none, .none, .none, .ref 390, .int 715 0, .int 236 0, .str "/claim/cut.py" 716], #[]⟩
noncomputable def o392 : Obj := ⟨.type "function", none, .func (fn "_law_right" "_law_right" (fA (sT 29)) (.stmts (fB (sT 29))) (fS (sT 29)) 3 [] .none .none .none (.str "law_pq0600_01" 613) none (.ref 391) .none 0), #[]⟩
noncomputable def o393 : Obj := ⟨.type "tuple", none, .seq #[] 0, #[]⟩
noncomputable def o394 : Obj := ⟨.none, none, .fields #[], #[]⟩
noncomputable def o395 : Obj := ⟨.none, none, .func (fn "law" "law" (fA (sT 30)) (.stmts (fB (sT 30))) (fS (sT 30)) 0 [] .none .none .none .none none .none .none 0), #[]⟩
noncomputable def o396 : Obj := ⟨.type "code", none, .fields #[.str "law" 718, .str "law" 719, .str "/claim/cut.py" 720, .int 257 0, .int 1 0, .int 0 0, .int 0 0, .int 3 0, .ref 393, .bool true, .int 181 0, .ref 394, .none, .none, .none, .ref 395, .int 721 0, .int 257 0, .str "/claim/cut.py" 722], #[]⟩
noncomputable def o397 : Obj := ⟨.type "function", none, .func (fn "law" "law" (fA (sT 30)) (.stmts (fB (sT 30))) (fS (sT 30)) 3 [] .none .none .none (.str "law_pq0600_01" 613) none (.ref 396) .none 0), #[]⟩
noncomputable def oT (P : Params) : BT := (.node (boot_o_0 P) (.node (boot_o_1 P) (.node (o3 P) (.node (boot_o_7 P) (.node o15 (.node (o31 P) (.node (o63 P) (.node (o127 P) (.node o255 .nil .nil) (.node o383 .nil .nil)) (.node o191 (.node o319 .nil .nil) .nil)) (.node o95 (.node o159 (.node o287 .nil .nil) .nil) (.node o223 (.node o351 .nil .nil) .nil))) (.node o47 (.node o79 (.node o143 (.node o271 .nil .nil) .nil) (.node o207 (.node o335 .nil .nil) .nil)) (.node o111 (.node o175 (.node o303 .nil .nil) .nil) (.node o239 (.node o367 .nil .nil) .nil)))) (.node o23 (.node o39 (.node (o71 P) (.node o135 (.node o263 .nil .nil) (.node o391 .nil .nil)) (.node o199 (.node o327 .nil .nil) .nil)) (.node o103 (.node o167 (.node o295 .nil .nil) .nil) (.node (o231 P) (.node o359 .nil .nil) .nil))) (.node o55 (.node o87 (.node o151 (.node o279 .nil .nil) .nil) (.node o215 (.node o343 .nil .nil) .nil)) (.node (o119 P) (.node o183 (.node o311 .nil .nil) .nil) (.node o247 (.node o375 .nil .nil) .nil))))) (.node o11 (.node o19 (.node o35 (.node o67 (.node o131 (.node o259 .nil .nil) (.node o387 .nil .nil)) (.node o195 (.node o323 .nil .nil) .nil)) (.node o99 (.node o163 (.node o291 .nil .nil) .nil) (.node o227 (.node o355 .nil .nil) .nil))) (.node o51 (.node o83 (.node o147 (.node o275 .nil .nil) .nil) (.node o211 (.node o339 .nil .nil) .nil)) (.node o115 (.node o179 (.node o307 .nil .nil) .nil) (.node o243 (.node o371 .nil .nil) .nil)))) (.node o27 (.node o43 (.node o75 (.node o139 (.node o267 .nil .nil) (.node o395 .nil .nil)) (.node o203 (.node o331 .nil .nil) .nil)) (.node o107 (.node o171 (.node o299 .nil .nil) .nil) (.node o235 (.node o363 .nil .nil) .nil))) (.node o59 (.node o91 (.node o155 (.node o283 .nil .nil) .nil) (.node o219 (.node o347 .nil .nil) .nil)) (.node o123 (.node o187 (.node o315 .nil .nil) .nil) (.node (o251 P) (.node o379 .nil .nil) .nil)))))) (.node (boot_o_5 P) (.node (boot_o_9 P) (.node (o17 P) (.node o33 (.node o65 (.node o129 (.node o257 .nil .nil) (.node o385 .nil .nil)) (.node o193 (.node o321 .nil .nil) .nil)) (.node o97 (.node (o161 P) (.node o289 .nil .nil) .nil) (.node o225 (.node o353 .nil .nil) .nil))) (.node o49 (.node o81 (.node o145 (.node o273 .nil .nil) .nil) (.node o209 (.node o337 .nil .nil) .nil)) (.node (o113 P) (.node o177 (.node o305 .nil .nil) .nil) (.node o241 (.node o369 .nil .nil) .nil)))) (.node o25 (.node o41 (.node o73 (.node o137 (.node o265 .nil .nil) (.node o393 .nil .nil)) (.node o201 (.node o329 .nil .nil) .nil)) (.node (o105 P) (.node (o169 P) (.node o297 .nil .nil) .nil) (.node o233 (.node o361 .nil .nil) .nil))) (.node o57 (.node o89 (.node o153 (.node o281 .nil .nil) .nil) (.node o217 (.node o345 .nil .nil) .nil)) (.node o121 (.node o185 (.node o313 .nil .nil) .nil) (.node o249 (.node o377 .nil .nil) .nil))))) (.node o13 (.node o21 (.node o37 (.node o69 (.node o133 (.node o261 .nil .nil) (.node o389 .nil .nil)) (.node o197 (.node o325 .nil .nil) .nil)) (.node o101 (.node o165 (.node o293 .nil .nil) .nil) (.node o229 (.node o357 .nil .nil) .nil))) (.node o53 (.node o85 (.node o149 (.node o277 .nil .nil) .nil) (.node o213 (.node o341 .nil .nil) .nil)) (.node o117 (.node o181 (.node o309 .nil .nil) .nil) (.node o245 (.node o373 .nil .nil) .nil)))) (.node o29 (.node o45 (.node o77 (.node o141 (.node o269 .nil .nil) (.node o397 .nil .nil)) (.node o205 (.node o333 .nil .nil) .nil)) (.node o109 (.node o173 (.node o301 .nil .nil) .nil) (.node o237 (.node o365 .nil .nil) .nil))) (.node o61 (.node o93 (.node o157 (.node o285 .nil .nil) .nil) (.node o221 (.node o349 .nil .nil) .nil)) (.node o125 (.node o189 (.node o317 .nil .nil) .nil) (.node o253 (.node o381 .nil .nil) .nil))))))) (.node (o2 P) (.node (boot_o_4 P) (.node (boot_o_8 P) (.node o16 (.node o32 (.node o64 (.node o128 (.node o256 .nil .nil) (.node o384 .nil .nil)) (.node o192 (.node o320 .nil .nil) .nil)) (.node o96 (.node o160 (.node o288 .nil .nil) .nil) (.node o224 (.node o352 .nil .nil) .nil))) (.node o48 (.node o80 (.node o144 (.node o272 .nil .nil) .nil) (.node o208 (.node o336 .nil .nil) .nil)) (.node o112 (.node o176 (.node (o304 P) .nil .nil) .nil) (.node o240 (.node o368 .nil .nil) .nil)))) (.node o24 (.node o40 (.node o72 (.node o136 (.node o264 .nil .nil) (.node o392 .nil .nil)) (.node o200 (.node o328 .nil .nil) .nil)) (.node o104 (.node o168 (.node o296 .nil .nil) .nil) (.node o232 (.node o360 .nil .nil) .nil))) (.node o56 (.node o88 (.node o152 (.node o280 .nil .nil) .nil) (.node o216 (.node o344 .nil .nil) .nil)) (.node o120 (.node o184 (.node o312 .nil .nil) .nil) (.node o248 (.node o376 .nil .nil) .nil))))) (.node o12 (.node o20 (.node o36 (.node o68 (.node o132 (.node o260 .nil .nil) (.node o388 .nil .nil)) (.node o196 (.node o324 .nil .nil) .nil)) (.node o100 (.node o164 (.node o292 .nil .nil) .nil) (.node o228 (.node o356 .nil .nil) .nil))) (.node o52 (.node (o84 P) (.node (o148 P) (.node o276 .nil .nil) .nil) (.node o212 (.node o340 .nil .nil) .nil)) (.node o116 (.node o180 (.node o308 .nil .nil) .nil) (.node o244 (.node o372 .nil .nil) .nil)))) (.node o28 (.node (o44 P) (.node o76 (.node (o140 P) (.node o268 .nil .nil) (.node o396 .nil .nil)) (.node o204 (.node o332 .nil .nil) .nil)) (.node o108 (.node o172 (.node o300 .nil .nil) .nil) (.node o236 (.node o364 .nil .nil) .nil))) (.node o60 (.node (o92 P) (.node o156 (.node o284 .nil .nil) .nil) (.node o220 (.node o348 .nil .nil) .nil)) (.node o124 (.node o188 (.node o316 .nil .nil) .nil) (.node o252 (.node o380 .nil .nil) .nil)))))) (.node (boot_o_6 P) (.node (boot_o_10 P) (.node o18 (.node o34 (.node o66 (.node o130 (.node o258 .nil .nil) (.node o386 .nil .nil)) (.node o194 (.node o322 .nil .nil) .nil)) (.node o98 (.node o162 (.node o290 .nil .nil) .nil) (.node o226 (.node o354 .nil .nil) .nil))) (.node (o50 P) (.node o82 (.node o146 (.node o274 .nil .nil) .nil) (.node o210 (.node o338 .nil .nil) .nil)) (.node o114 (.node o178 (.node o306 .nil .nil) .nil) (.node o242 (.node o370 .nil .nil) .nil)))) (.node o26 (.node o42 (.node o74 (.node o138 (.node o266 .nil .nil) (.node o394 .nil .nil)) (.node o202 (.node o330 .nil .nil) .nil)) (.node o106 (.node o170 (.node o298 .nil .nil) .nil) (.node o234 (.node o362 .nil .nil) .nil))) (.node o58 (.node o90 (.node o154 (.node o282 .nil .nil) .nil) (.node o218 (.node o346 .nil .nil) .nil)) (.node o122 (.node o186 (.node o314 .nil .nil) .nil) (.node o250 (.node o378 .nil .nil) .nil))))) (.node o14 (.node o22 (.node (o38 P) (.node o70 (.node o134 (.node o262 .nil .nil) (.node o390 .nil .nil)) (.node o198 (.node o326 .nil .nil) .nil)) (.node o102 (.node o166 (.node o294 .nil .nil) .nil) (.node o230 (.node o358 .nil .nil) .nil))) (.node o54 (.node o86 (.node o150 (.node o278 .nil .nil) .nil) (.node o214 (.node o342 .nil .nil) .nil)) (.node o118 (.node (o182 P) (.node o310 .nil .nil) .nil) (.node o246 (.node o374 .nil .nil) .nil)))) (.node o30 (.node o46 (.node o78 (.node o142 (.node o270 .nil .nil) .nil) (.node o206 (.node o334 .nil .nil) .nil)) (.node o110 (.node o174 (.node o302 .nil .nil) .nil) (.node o238 (.node o366 .nil .nil) .nil))) (.node o62 (.node o94 (.node o158 (.node o286 .nil .nil) .nil) (.node o222 (.node o350 .nil .nil) .nil)) (.node o126 (.node (o190 P) (.node o318 .nil .nil) .nil) (.node o254 (.node o382 .nil .nil) .nil))))))))
noncomputable def x0_12 : Obj := ⟨.none, none, .fields #[], #[]⟩
noncomputable def t0 (P : Params) : BT := ((((cut 15 (oT P) 1 0).set 2 fun _ => (boot_o_2 P)).set 3 fun _ => (boot_o_3 P)).set 12 fun _ => x0_12)
noncomputable def x1_3 (P : Params) : Obj := ⟨.type "dict", none, .dict #[en P "__name__" 165 (.str "lazycore.heap" 236), en P "__doc__" 166 .none, en P "__package__" 167 .none, en P "__loader__" 168 (.builtin "__main__.__loader__#opaque"), en P "__spec__" 169 .none, en P "__annotations__" 170 (.ref 6), en P "__builtins__" 171 (.ref 4), en P "__file__" 173 (.str "/claim/cut.py" 172), en P "__cached__" 174 .none, en P "LazyError" 219 (.ref 32), en P "MachineError" 235 (.ref 45), en P "Function" 268 (.ref 64), en P "Partial" 299 (.ref 85), en P "Thunk" 330 (.ref 106), en P "Hole" 350 (.ref 120)] 15, #[]⟩
noncomputable def x1_12 : Obj := ⟨.none, none, .fields #[.int 2 0, .int 0 0, .ref 20, .int 8 0, .int 0 0, .ref 41, .int 11 0, .int 0 0, .ref 53, .int 16 0, .int 0 0, .ref 74, .int 21 0, .int 0 0, .ref 95, .int 26 0, .int 0 0, .ref 116], #[]⟩
noncomputable def t1 (P : Params) : BT := (((cut 125 (oT P) 1 0).set 3 fun _ => (x1_3 P)).set 12 fun _ => x1_12)
noncomputable def x2_3 (P : Params) : Obj := ⟨.type "dict", none, .dict #[en P "__name__" 165 (.str "lazycore.collector" 502), en P "__doc__" 166 .none, en P "__package__" 167 .none, en P "__loader__" 168 (.builtin "__main__.__loader__#opaque"), en P "__spec__" 169 .none, en P "__annotations__" 170 (.ref 6), en P "__builtins__" 171 (.ref 4), en P "__file__" 173 (.str "/claim/cut.py" 172), en P "__cached__" 174 .none, en P "LazyError" 219 (.ref 32), en P "MachineError" 235 (.ref 45), en P "Function" 268 (.ref 64), en P "Partial" 299 (.ref 85), en P "Thunk" 330 (.ref 106), en P "Hole" 350 (.ref 120), en P "Link" 379 (.ref 141), en P "Plain" 408 (.ref 162), en P "Data" 439 (.ref 183), en P "Heap" 501 (.ref 232), en P "value_moved" 511 (.ref 243), en P "values_moved" 517 (.ref 248), en P "Collector" 602 (.ref 305)] 22, #[]⟩
noncomputable def x2_12 : Obj := ⟨.none, none, .fields #[.int 2 0, .int 0 0, .ref 20, .int 8 0, .int 0 0, .ref 41, .int 11 0, .int 0 0, .ref 53, .int 16 0, .int 0 0, .ref 74, .int 21 0, .int 0 0, .ref 95, .int 26 0, .int 0 0, .ref 116, .int 28 0, .int 0 0, .ref 130, .int 32 0, .int 0 0, .ref 151, .int 36 0, .int 0 0, .ref 172, .int 41 0, .int 0 0, .ref 193, .int 64 0, .int 0 0, .ref 242, .int 68 0, .int 0 0, .ref 247, .int 70 0, .int 0 0, .ref 254], #[]⟩
noncomputable def t2 (P : Params) : BT := (((cut 310 (oT P) 1 0).set 3 fun _ => (x2_3 P)).set 12 fun _ => x2_12)
noncomputable def t3 (P : Params) : BT := (cut 398 (oT P) 1 0)
noncomputable def kK (P : Params) : Frag := [(2, (o2 P)), (3, (o3 P)), (15, o15), (22, o22), (23, o23), (25, o25), (26, o26), (28, o28), (29, o29), (30, o30), (31, (o31 P)), (32, o32), (33, o33), (36, o36), (43, o43), (44, (o44 P)), (45, o45), (55, o55), (57, o57), (58, o58), (60, o60), (61, o61), (62, o62), (63, (o63 P)), (64, o64), (65, o65), (66, o66), (76, o76), (78, o78), (79, o79), (81, o81), (82, o82), (83, o83), (84, (o84 P)), (85, o85), (86, o86), (87, o87), (97, o97), (99, o99), (100, o100), (102, o102), (103, o103), (104, o104), (105, (o105 P)), (106, o106), (107, o107), (108, o108), (118, o118), (119, (o119 P)), (120, o120), (121, o121), (122, o122), (132, o132), (134, o134), (135, o135), (137, o137), (138, o138), (139, o139), (140, (o140 P)), (141, o141), (142, o142), (143, o143), (153, o153), (155, o155), (156, o156), (158, o158), (159, o159), (160, o160), (161, (o161 P)), (162, o162), (163, o163), (164, o164), (174, o174), (176, o176), (177, o177), (179, o179), (180, o180), (181, o181), (182, (o182 P)), (183, o183), (184, o184), (185, o185), (195, o195), (197, o197), (198, o198), (200, o200), (201, o201), (202, o202), (204, o204), (205, o205), (207, o207), (208, o208), (209, o209), (211, o211), (212, o212), (214, o214), (215, o215), (216, o216), (218, o218), (219, o219), (221, o221), (222, o222), (223, o223), (225, o225), (226, o226), (228, o228), (229, o229), (230, o230), (231, (o231 P)), (232, o232), (233, o233), (234, o234), (237, o237), (239, o239), (240, o240), (242, o242), (243, o243), (244, o244), (247, o247), (248, o248), (256, o256), (258, o258), (259, o259), (261, o261), (262, o262), (263, o263), (265, o265), (266, o266), (268, o268), (269, o269), (270, o270), (272, o272), (273, o273), (275, o275), (276, o276), (277, o277), (279, o279), (280, o280), (282, o282), (283, o283), (284, o284), (287, o287), (288, o288), (289, o289), (291, o291), (292, o292), (294, o294), (295, o295), (296, o296), (298, o298), (299, o299), (301, o301), (302, o302), (303, o303), (304, (o304 P)), (305, o305), (306, o306), (307, o307), (310, o310), (312, o312), (313, o313), (315, o315), (316, o316), (317, o317), (319, o319), (320, o320), (322, o322), (323, o323), (324, o324), (326, o326), (327, o327), (329, o329), (330, o330), (331, o331), (333, o333), (334, o334), (336, o336), (337, o337), (338, o338), (340, o340), (341, o341), (343, o343), (344, o344), (345, o345), (347, o347), (348, o348), (350, o350), (351, o351), (352, o352), (354, o354), (355, o355), (357, o357), (358, o358), (359, o359), (361, o361), (362, o362), (364, o364), (365, o365), (366, o366), (369, o369), (370, o370), (371, o371), (374, o374), (375, o375), (376, o376), (378, o378), (379, o379), (381, o381), (382, o382), (383, o383), (386, o386), (387, o387), (388, o388), (391, o391), (392, o392), (393, o393), (396, o396), (397, o397)]
noncomputable def ev : Env := { scope := pg.main.scope, locals := mainNs, globals := mainNs, cells := [], code := .ref 13, frame := some 14 }
noncomputable def cE : Code := .body (behindTheImports pg) ev
noncomputable def gr (a b : Nat) : List Stmt := ((behindTheImports pg).drop a).take b
noncomputable def S0 (w : World) (os : OsState) : SharedT := ⟨t0 w.params, 15, {}, #[], {}, 187, os⟩
noncomputable def S1 (w : World) (os : OsState) : SharedT := ⟨t1 w.params, 125, {}, #[], {}, 351, os⟩
noncomputable def S2 (w : World) (os : OsState) : SharedT := ⟨t2 w.params, 310, {}, #[], {}, 603, os⟩
noncomputable def S3 (w : World) (os : OsState) : SharedT := ⟨t3 w.params, 398, {}, #[], {}, 724, os⟩
theorem h_pre (w : World) (os : OsState) : topGo treeTable pg w 11 (some (.ref 6)) 12 ⟨boot_heap w.params, Array.mk [], boot_drawn, boot_toks, os⟩ (topStub pg) = some ((S0 w os).abs, ⟨denote treeTable cE, cE, ⟨0, 0, 0, 0⟩, [topFrame ⟨0, 0, 0, 0⟩]⟩) := by kernel_rfl
theorem h_block (w : World) (os : OsState) : segRun treeTable pg w 11 (some (.ref 6)) 1 1 (S0 w os).abs (blockOf (behindTheImports pg) ev cE ⟨0, 0, 0, 0⟩ [topFrame ⟨0, 0, 0, 0⟩]) = some (.next, (S0 w os).abs, cE, ⟨0, 0, 0, 0⟩) := by kernel_rfl
theorem h_0 (w : World) (os : OsState) : segRunT treeTable pg w 11 (some (.ref 6)) 1 1325 (S0 w os) (piecesOf (gr 0 8) ev cE ⟨0, 0, 0, 0⟩ [topFrame ⟨0, 0, 0, 0⟩]) = some (.next, S1 w os, cE, ⟨26, 0, 27, 8⟩) := by kernel_rfl
theorem h_1 (w : World) (os : OsState) : segRunT treeTable pg w 11 (some (.ref 6)) 1 1505 (S1 w os) (piecesOf (gr 8 8) ev cE ⟨26, 0, 27, 8⟩ [topFrame ⟨0, 0, 0, 0⟩]) = some (.next, S2 w os, cE, ⟨70, 0, 129, 19⟩) := by kernel_rfl
theorem h_2 (w : World) (os : OsState) : segRunT treeTable pg w 11 (some (.ref 6)) 1 427 (S2 w os) (piecesOf (gr 16 15) ev cE ⟨70, 0, 129, 19⟩ [topFrame ⟨0, 0, 0, 0⟩]) = some (.next, S3 w os, cE, ⟨257, 0, 271, 15⟩) := by kernel_rfl
theorem h_fin (w : World) (os : OsState) : topRun treeTable pg w 11 (some (.ref 6)) 2 (S3 w os).abs ⟨doneF .next, cE, ⟨257, 0, 271, 15⟩, [topFrame ⟨0, 0, 0, 0⟩]⟩ = some (S3 w os).abs := by kernel_rfl
theorem h_all : behindTheImports pg = gr 0 8 ++ (gr 8 8 ++ (gr 16 15 ++ [])) := by kernel_rfl
theorem rest_eq {tb : String → Option Builtin} {p : Program} {w : World} {n₀ : Nat} {ann : Option Value} {N : Nat} {s r : Shared} {l l' : List Stmt} {env : Env} {c : Code} {q : Pos} {B : List Frame} (e : l = l') (h : topRun tb p w n₀ ann N s (restOf l' env c q B) = some r) : topRun tb p w n₀ ann N s (restOf l env c q B) = some r := e ▸ h
noncomputable def mM : Nat := (12 + (1 + (1325 + (1505 + (427 + 2)))))
theorem h_run (w : World) (os : OsState) : topRun treeTable pg w 11 (some (.ref 6)) mM ⟨boot_heap w.params, Array.mk [], boot_drawn, boot_toks, os⟩ (topStub pg) = some (S3 w os).abs := go_top (h_pre w os) (piece_block (h_block w os) (rest_eq h_all (piece_app (segRun_of (h_0 w os)) (piece_app (segRun_of (h_1 w os)) (piece_app (segRun_of (h_2 w os)) (piece_nil (h_fin w os)))))))
noncomputable def vw : Program := view pg [1, 2, 4, 5, 6, 7, 8, 9, 10, 11, 13, 14, 15, 16, 18, 19, 20, 21, 22, 23, 24, 25, 26, 27, 28, 29, 30]
end Mine.HD

namespace Mine.HD
noncomputable def asK : List Addr := [2, 3, 15, 22, 23, 25, 26, 28, 29, 30, 31, 32, 33, 36, 43, 44, 45, 55, 57, 58, 60, 61, 62, 63, 64, 65, 66, 76, 78, 79, 81, 82, 83, 84, 85, 86, 87, 97, 99, 100, 102, 103, 104, 105, 106, 107, 108, 118, 119, 120, 121, 122, 132, 134, 135, 137, 138, 139, 140, 141, 142, 143, 153, 155, 156, 158, 159, 160, 161, 162, 163, 164, 174, 176, 177, 179, 180, 181, 182, 183, 184, 185, 195, 197, 198, 200, 201, 202, 204, 205, 207, 208, 209, 211, 212, 214, 215, 216, 218, 219, 221, 222, 223, 225, 226, 228, 229, 230, 231, 232, 233, 234, 237, 239, 240, 242, 243, 244, 247, 248, 256, 258, 259, 261, 262, 263, 265, 266, 268, 269, 270, 272, 273, 275, 276, 277, 279, 280, 282, 283, 284, 287, 288, 289, 291, 292, 294, 295, 296, 298, 299, 301, 302, 303, 304, 305, 306, 307, 310, 312, 313, 315, 316, 317, 319, 320, 322, 323, 324, 326, 327, 329, 330, 331, 333, 334, 336, 337, 338, 340, 341, 343, 344, 345, 347, 348, 350, 351, 352, 354, 355, 357, 358, 359, 361, 362, 364, 365, 366, 369, 370, 371, 374, 375, 376, 378, 379, 381, 382, 383, 386, 387, 388, 391, 392, 393, 396, 397]
theorem as_eq (P : Params) : asK = (kK P).map (·.1) := by kernel_rfl
noncomputable abbrev lz : List Str := [Str.ofString "LazyError"]
noncomputable abbrev rR : OpenRow := PySem.Challenge.rw_pq0600_01.row
noncomputable abbrev hk : Hook := kHook kK asK as_eq
noncomputable abbrev xT : Shared → Bool := fun s => xlAt vw [] s && recOk (RowW.records rR.toRowW) s
theorem and_both {a b : Bool} (x : a = true) (y : b = true) : (a && b) = true := by rw [x, y]; rfl
theorem h_said : PySem.Challenge.rw_pq0600_01.wellSaid = true := by
  delta OpenLaw.wellSaid
  (repeat' with_reducible refine and_both ?_ ?_)
  focus
    delta OpenRow.wellSaid
    (repeat' with_reducible refine and_both ?_ ?_)
    focus
      delta OpenRow.partSaid
      (repeat' with_reducible refine and_both ?_ ?_)
      focus
        delta looksOpen
        (repeat' with_reducible refine and_both ?_ ?_)
        all_goals decide +kernel
      all_goals decide +kernel
    all_goals decide +kernel
  all_goals decide +kernel
theorem h_fence (s : Shared) : fenceModules? rR.prog s = some s := by kernel_rfl
theorem h_opening : opening rR.prog = plainProg rR.prog.main.scope.names := by kernel_rfl
theorem h_size (w : World) : ((boot_heap w.params).isNs mainGlobals && (Array.mk [] : Array GenState).size == 0, (boot_heap w.params).objs.size, (boot_heap w.params).nsMap mainGlobals "__annotations__") = (true, 11, some (.ref 6)) := by kernel_rfl
theorem h_looks (w : World) : (fun os : OsState => ((staticsOk (importedModules rR.prog.main.body) (boot_heap w.params) (absHeap (t3 w.params) 398 {}) && namesBound rR.prog (absHeap (t3 w.params) 398 {}) && gensDone ⟨absHeap (t3 w.params) 398 {}, #[], {}, 724, os⟩ && laidKept (boot_heap w.params) (absHeap (t3 w.params) 398 {})),
    openSeen vw lz (importedModules rR.prog.main.body) xT true ⟨absHeap (t3 w.params) 398 {}, #[], {}, 724, os⟩, hk.obs ⟨absHeap (t3 w.params) 398 {}, #[], {}, 724, os⟩)) = fun w9 => (true, openGood vw lz, hk.val w) := by kernel_rfl
theorem h_left : LeftO rR.prog vw lz xT hk.obs hk.val 6634 := LeftO.of_pieces (H₀ := boot_heap) (H₁ := fun P => absHeap (t3 P) 398 {}) (boot_open h_opening (by decide) h_fence) h_size h_run (by decide) h_looks
theorem h_ok : (chainsOk vw && opensWell rR.prog && (frees rR.toRowW && rR.toRowW.within.isEmpty)) = true := by kernel_rfl
theorem hd {d : DefRec} {kwd : List (Str × Expr)} (hdef : defOf vw rR.name = some (d, kwd)) (hp : rR.prog.theDef rR.name = some (d.params, d.body, d.scope)) (hk' : kwWritten? d.params.kwonlyargs d.params.kw_defaults = some kwd)
    (call : WalkO vw lz (XL vw []) hk.says rR.toRowW d kwd fun f vs => PySem.call f vs) : PySem.Challenge.rw_pq0600_01.Holds := by
  refine holds_law h_said fun said => ?_
  refine holds_open (q := vw) (loose := lz) (Xt := xT) (XP := XL vw []) (Yf := hk.obs) (Ya := hk.val) (YP := hk.says) (N := 6634) h_left (Hook.of hk) (Hook.keeps hk) (fun s e => xl_of s (Bool.and_eq_true_iff.mp e).1) XL.keeps hdef hp hk' (fun s e => recFacts_of (Bool.and_eq_true_iff.mp e).2) (by rfl) said h_ok ⟨rfl, rfl, rfl, rfl, rfl, by decide +kernel⟩ ?hw call
  case hw => w_witness2
end Mine.HD

namespace Mine
set_option genInjectivity false in
/-- what a run of the law has around it -/
structure Zs where
  prog : Program
  w : World
  base : Heap
  P : Params
  g : Array GenState
  d : Drawn
  os : OsState
noncomputable abbrev gl (Z : Zs) : GS := ⟨Z.prog, Z.w, Z.base, HD.kK Z.P, 45, Z.g, Z.d, Z.os⟩
section
variable {P : Params}
theorem kc_64 : clsOk (HD.kK P) 64 = true := by kernel_rfl
theorem kf_64_code : fieldOk (HD.kK P) 64 "code" = true := by kernel_rfl
theorem kf_64_captured : fieldOk (HD.kK P) 64 "captured" = true := by kernel_rfl
theorem km_64 : makesIn (HD.kK P) 64 = true := by kernel_rfl
theorem ki_64 : findIn (HD.kK P) (.ref 64) "__init__" = some (some (.ref 61)) := by kernel_rfl
theorem kt_61 : typeIn (HD.kK P) (.ref 61) = some (.type "function") := by kernel_rfl
theorem kk_64 : calleeOk (HD.kK P) 64 = true := by kernel_rfl
theorem kn_Function : nsIn (HD.kK P) mainGlobals "Function" = some (some (.ref 64)) := by kernel_rfl
theorem kc_85 : clsOk (HD.kK P) 85 = true := by kernel_rfl
theorem kf_85_address : fieldOk (HD.kK P) 85 "address" = true := by kernel_rfl
theorem kf_85_values : fieldOk (HD.kK P) 85 "values" = true := by kernel_rfl
theorem km_85 : makesIn (HD.kK P) 85 = true := by kernel_rfl
theorem ki_85 : findIn (HD.kK P) (.ref 85) "__init__" = some (some (.ref 82)) := by kernel_rfl
theorem kt_82 : typeIn (HD.kK P) (.ref 82) = some (.type "function") := by kernel_rfl
theorem kk_85 : calleeOk (HD.kK P) 85 = true := by kernel_rfl
theorem kn_Partial : nsIn (HD.kK P) mainGlobals "Partial" = some (some (.ref 85)) := by kernel_rfl
theorem kc_106 : clsOk (HD.kK P) 106 = true := by kernel_rfl
theorem kf_106_code : fieldOk (HD.kK P) 106 "code" = true := by kernel_rfl
theorem kf_106_captured : fieldOk (HD.kK P) 106 "captured" = true := by kernel_rfl
theorem km_106 : makesIn (HD.kK P) 106 = true := by kernel_rfl
theorem ki_106 : findIn (HD.kK P) (.ref 106) "__init__" = some (some (.ref 103)) := by kernel_rfl
theorem kt_103 : typeIn (HD.kK P) (.ref 103) = some (.type "function") := by kernel_rfl
theorem kk_106 : calleeOk (HD.kK P) 106 = true := by kernel_rfl
theorem kn_Thunk : nsIn (HD.kK P) mainGlobals "Thunk" = some (some (.ref 106)) := by kernel_rfl
theorem kc_120 : clsOk (HD.kK P) 120 = true := by kernel_rfl
theorem km_120 : makesIn (HD.kK P) 120 = true := by kernel_rfl
theorem ki_120 : findIn (HD.kK P) (.ref 120) "__init__" = some (some (.builtin "object.__init__")) := by kernel_rfl
theorem kk_120 : calleeOk (HD.kK P) 120 = true := by kernel_rfl
theorem kn_Hole : nsIn (HD.kK P) mainGlobals "Hole" = some (some (.ref 120)) := by kernel_rfl
theorem kc_141 : clsOk (HD.kK P) 141 = true := by kernel_rfl
theorem kf_141_address : fieldOk (HD.kK P) 141 "address" = true := by kernel_rfl
theorem km_141 : makesIn (HD.kK P) 141 = true := by kernel_rfl
theorem ki_141 : findIn (HD.kK P) (.ref 141) "__init__" = some (some (.ref 138)) := by kernel_rfl
theorem kt_138 : typeIn (HD.kK P) (.ref 138) = some (.type "function") := by kernel_rfl
theorem kk_141 : calleeOk (HD.kK P) 141 = true := by kernel_rfl
theorem kn_Link : nsIn (HD.kK P) mainGlobals "Link" = some (some (.ref 141)) := by kernel_rfl
theorem kc_162 : clsOk (HD.kK P) 162 = true := by kernel_rfl
theorem kf_162_value : fieldOk (HD.kK P) 162 "value" = true := by kernel_rfl
theorem km_162 : makesIn (HD.kK P) 162 = true := by kernel_rfl
theorem ki_162 : findIn (HD.kK P) (.ref 162) "__init__" = some (some (.ref 159)) := by kernel_rfl
theorem kt_159 : typeIn (HD.kK P) (.ref 159) = some (.type "function") := by kernel_rfl
theorem kk_162 : calleeOk (HD.kK P) 162 = true := by kernel_rfl
theorem kn_Plain : nsIn (HD.kK P) mainGlobals "Plain" = some (some (.ref 162)) := by kernel_rfl
theorem kc_183 : clsOk (HD.kK P) 183 = true := by kernel_rfl
theorem kf_183_con : fieldOk (HD.kK P) 183 "con" = true := by kernel_rfl
theorem kf_183_values : fieldOk (HD.kK P) 183 "values" = true := by kernel_rfl
theorem km_183 : makesIn (HD.kK P) 183 = true := by kernel_rfl
theorem ki_183 : findIn (HD.kK P) (.ref 183) "__init__" = some (some (.ref 180)) := by kernel_rfl
theorem kt_180 : typeIn (HD.kK P) (.ref 180) = some (.type "function") := by kernel_rfl
theorem kk_183 : calleeOk (HD.kK P) 183 = true := by kernel_rfl
theorem kn_Data : nsIn (HD.kK P) mainGlobals "Data" = some (some (.ref 183)) := by kernel_rfl
theorem kc_232 : clsOk (HD.kK P) 232 = true := by kernel_rfl
theorem kf_232_cells : fieldOk (HD.kK P) 232 "cells" = true := by kernel_rfl
theorem kf_232_next : fieldOk (HD.kK P) 232 "next" = true := by kernel_rfl
theorem km_232 : makesIn (HD.kK P) 232 = true := by kernel_rfl
theorem ki_232 : findIn (HD.kK P) (.ref 232) "__init__" = some (some (.ref 201)) := by kernel_rfl
theorem kt_201 : typeIn (HD.kK P) (.ref 201) = some (.type "function") := by kernel_rfl
theorem kk_232 : calleeOk (HD.kK P) 232 = true := by kernel_rfl
theorem kn_Heap : nsIn (HD.kK P) mainGlobals "Heap" = some (some (.ref 232)) := by kernel_rfl
theorem kc_305 : clsOk (HD.kK P) 305 = true := by kernel_rfl
theorem kf_305_heap : fieldOk (HD.kK P) 305 "heap" = true := by kernel_rfl
theorem kf_305_fresh : fieldOk (HD.kK P) 305 "fresh" = true := by kernel_rfl
theorem kf_305_moved : fieldOk (HD.kK P) 305 "moved" = true := by kernel_rfl
theorem kf_305_waiting : fieldOk (HD.kK P) 305 "waiting" = true := by kernel_rfl
theorem km_305 : makesIn (HD.kK P) 305 = true := by kernel_rfl
theorem ki_305 : findIn (HD.kK P) (.ref 305) "__init__" = some (some (.ref 262)) := by kernel_rfl
theorem kt_262 : typeIn (HD.kK P) (.ref 262) = some (.type "function") := by kernel_rfl
theorem kk_305 : calleeOk (HD.kK P) 305 = true := by kernel_rfl
theorem kn_Collector : nsIn (HD.kK P) mainGlobals "Collector" = some (some (.ref 305)) := by kernel_rfl
theorem kmt_232_new : methOk (HD.kK P) 232 "new" 208 = true := by kernel_rfl
theorem kmt_232_get : methOk (HD.kK P) 232 "get" 215 = true := by kernel_rfl
theorem kmt_232_put : methOk (HD.kK P) 232 "put" 222 = true := by kernel_rfl
theorem kmt_232_many : methOk (HD.kK P) 232 "many" 229 = true := by kernel_rfl
theorem kmt_305_links_from : methOk (HD.kK P) 305 "links_from" 269 = true := by kernel_rfl
theorem kmt_305_move : methOk (HD.kK P) 305 "move" 276 = true := by kernel_rfl
theorem kmt_305_move_value : methOk (HD.kK P) 305 "move_value" 283 = true := by kernel_rfl
theorem kmt_305_move_values : methOk (HD.kK P) 305 "move_values" 288 = true := by kernel_rfl
theorem kmt_305_copied : methOk (HD.kK P) 305 "copied" 295 = true := by kernel_rfl
theorem kmt_305_run : methOk (HD.kK P) 305 "run" 302 = true := by kernel_rfl
theorem kn_value_moved : nsIn (HD.kK P) mainGlobals "value_moved" = some (some (.ref 243)) := by kernel_rfl
theorem kk_243 : calleeOk (HD.kK P) 243 = true := by kernel_rfl
theorem kn_values_moved : nsIn (HD.kK P) mainGlobals "values_moved" = some (some (.ref 248)) := by kernel_rfl
theorem kk_248 : calleeOk (HD.kK P) 248 = true := by kernel_rfl
theorem kn_collected : nsIn (HD.kK P) mainGlobals "collected" = some (some (.ref 316)) := by kernel_rfl
theorem kk_316 : calleeOk (HD.kK P) 316 = true := by kernel_rfl
theorem kn_law_bin : nsIn (HD.kK P) mainGlobals "_law_bin" = some (some (.ref 323)) := by kernel_rfl
theorem kk_323 : calleeOk (HD.kK P) 323 = true := by kernel_rfl
theorem kn_law_dip : nsIn (HD.kK P) mainGlobals "_law_dip" = some (some (.ref 330)) := by kernel_rfl
theorem kk_330 : calleeOk (HD.kK P) 330 = true := by kernel_rfl
theorem kn_law_values : nsIn (HD.kK P) mainGlobals "_law_values" = some (some (.ref 337)) := by kernel_rfl
theorem kk_337 : calleeOk (HD.kK P) 337 = true := by kernel_rfl
theorem kn_law_rows : nsIn (HD.kK P) mainGlobals "_law_rows" = some (some (.ref 344)) := by kernel_rfl
theorem kk_344 : calleeOk (HD.kK P) 344 = true := by kernel_rfl
theorem kn_law_cell : nsIn (HD.kK P) mainGlobals "_law_cell" = some (some (.ref 351)) := by kernel_rfl
theorem kk_351 : calleeOk (HD.kK P) 351 = true := by kernel_rfl
theorem kn_law_row : nsIn (HD.kK P) mainGlobals "_law_row" = some (some (.ref 358)) := by kernel_rfl
theorem kk_358 : calleeOk (HD.kK P) 358 = true := by kernel_rfl
theorem kn_law_end : nsIn (HD.kK P) mainGlobals "_law_end" = some (some (.ref 365)) := by kernel_rfl
theorem kk_365 : calleeOk (HD.kK P) 365 = true := by kernel_rfl
theorem kn_law_pairs : nsIn (HD.kK P) mainGlobals "_law_pairs" = some (some (.ref 370)) := by kernel_rfl
theorem kk_370 : calleeOk (HD.kK P) 370 = true := by kernel_rfl
theorem kn_law_is_whole : nsIn (HD.kK P) mainGlobals "_law_is_whole" = some (some (.ref 375)) := by kernel_rfl
theorem kk_375 : calleeOk (HD.kK P) 375 = true := by kernel_rfl
theorem kn_law_laid : nsIn (HD.kK P) mainGlobals "_law_laid" = some (some (.ref 382)) := by kernel_rfl
theorem kk_382 : calleeOk (HD.kK P) 382 = true := by kernel_rfl
theorem kn_law_gone_on_right : nsIn (HD.kK P) mainGlobals "_law_gone_on_right" = some (some (.ref 387)) := by kernel_rfl
theorem kk_387 : calleeOk (HD.kK P) 387 = true := by kernel_rfl
theorem kn_law_right : nsIn (HD.kK P) mainGlobals "_law_right" = some (some (.ref 392)) := by kernel_rfl
theorem kk_392 : calleeOk (HD.kK P) 392 = true := by kernel_rfl
theorem kn_err : nsIn (HD.kK P) mainGlobals "MachineError" = some (some (.ref 45)) := by kernel_rfl
theorem kb_str : nsIn (HD.kK P) mainGlobals "str" = some none := by kernel_rfl
theorem kb_len : nsIn (HD.kK P) mainGlobals "len" = some none := by kernel_rfl
theorem kb_isinstance : nsIn (HD.kK P) mainGlobals "isinstance" = some none := by kernel_rfl
theorem kb_range : nsIn (HD.kK P) mainGlobals "range" = some none := by kernel_rfl
theorem kb_list : nsIn (HD.kK P) mainGlobals "list" = some none := by kernel_rfl
theorem kb_zip : nsIn (HD.kK P) mainGlobals "zip" = some none := by kernel_rfl
theorem kb_sorted : nsIn (HD.kK P) mainGlobals "sorted" = some none := by kernel_rfl
theorem kb_dict : nsIn (HD.kK P) mainGlobals "dict" = some none := by kernel_rfl
theorem kb_max : nsIn (HD.kK P) mainGlobals "max" = some none := by kernel_rfl
theorem kb_min : nsIn (HD.kK P) mainGlobals "min" = some none := by kernel_rfl
theorem kis_64 : isiOk (HD.kK P) 64 = true := by kernel_rfl
theorem kit_64_64 : kitOne (HD.kK P) (.ref 64) (.ref 64) = some true := by kernel_rfl
theorem kit_64_85 : kitOne (HD.kK P) (.ref 64) (.ref 85) = some false := by kernel_rfl
theorem kit_64_106 : kitOne (HD.kK P) (.ref 64) (.ref 106) = some false := by kernel_rfl
theorem kit_64_120 : kitOne (HD.kK P) (.ref 64) (.ref 120) = some false := by kernel_rfl
theorem kit_64_141 : kitOne (HD.kK P) (.ref 64) (.ref 141) = some false := by kernel_rfl
theorem kit_64_162 : kitOne (HD.kK P) (.ref 64) (.ref 162) = some false := by kernel_rfl
theorem kit_64_183 : kitOne (HD.kK P) (.ref 64) (.ref 183) = some false := by kernel_rfl
theorem kia_64_85_183 : kitAny (HD.kK P) (.ref 64) [.ref 85, .ref 183] = some false := by kernel_rfl
theorem kia_64_64_106 : kitAny (HD.kK P) (.ref 64) [.ref 64, .ref 106] = some true := by kernel_rfl
theorem kis_85 : isiOk (HD.kK P) 85 = true := by kernel_rfl
theorem kit_85_64 : kitOne (HD.kK P) (.ref 85) (.ref 64) = some false := by kernel_rfl
theorem kit_85_85 : kitOne (HD.kK P) (.ref 85) (.ref 85) = some true := by kernel_rfl
theorem kit_85_106 : kitOne (HD.kK P) (.ref 85) (.ref 106) = some false := by kernel_rfl
theorem kit_85_120 : kitOne (HD.kK P) (.ref 85) (.ref 120) = some false := by kernel_rfl
theorem kit_85_141 : kitOne (HD.kK P) (.ref 85) (.ref 141) = some false := by kernel_rfl
theorem kit_85_162 : kitOne (HD.kK P) (.ref 85) (.ref 162) = some false := by kernel_rfl
theorem kit_85_183 : kitOne (HD.kK P) (.ref 85) (.ref 183) = some false := by kernel_rfl
theorem kia_85_85_183 : kitAny (HD.kK P) (.ref 85) [.ref 85, .ref 183] = some true := by kernel_rfl
theorem kia_85_64_106 : kitAny (HD.kK P) (.ref 85) [.ref 64, .ref 106] = some false := by kernel_rfl
theorem kis_106 : isiOk (HD.kK P) 106 = true := by kernel_rfl
theorem kit_106_64 : kitOne (HD.kK P) (.ref 106) (.ref 64) = some false := by kernel_rfl
theorem kit_106_85 : kitOne (HD.kK P) (.ref 106) (.ref 85) = some false := by kernel_rfl
theorem kit_106_106 : kitOne (HD.kK P) (.ref 106) (.ref 106) = some true := by kernel_rfl
theorem kit_106_120 : kitOne (HD.kK P) (.ref 106) (.ref 120) = some false := by kernel_rfl
theorem kit_106_141 : kitOne (HD.kK P) (.ref 106) (.ref 141) = some false := by kernel_rfl
theorem kit_106_162 : kitOne (HD.kK P) (.ref 106) (.ref 162) = some false := by kernel_rfl
theorem kit_106_183 : kitOne (HD.kK P) (.ref 106) (.ref 183) = some false := by kernel_rfl
theorem kia_106_85_183 : kitAny (HD.kK P) (.ref 106) [.ref 85, .ref 183] = some false := by kernel_rfl
theorem kia_106_64_106 : kitAny (HD.kK P) (.ref 106) [.ref 64, .ref 106] = some true := by kernel_rfl
theorem kis_120 : isiOk (HD.kK P) 120 = true := by kernel_rfl
theorem kit_120_64 : kitOne (HD.kK P) (.ref 120) (.ref 64) = some false := by kernel_rfl
theorem kit_120_85 : kitOne (HD.kK P) (.ref 120) (.ref 85) = some false := by kernel_rfl
theorem kit_120_106 : kitOne (HD.kK P) (.ref 120) (.ref 106) = some false := by kernel_rfl
theorem kit_120_120 : kitOne (HD.kK P) (.ref 120) (.ref 120) = some true := by kernel_rfl
theorem kit_120_141 : kitOne (HD.kK P) (.ref 120) (.ref 141) = some false := by kernel_rfl
theorem kit_120_162 : kitOne (HD.kK P) (.ref 120) (.ref 162) = some false := by kernel_rfl
theorem kit_120_183 : kitOne (HD.kK P) (.ref 120) (.ref 183) = some false := by kernel_rfl
theorem kia_120_85_183 : kitAny (HD.kK P) (.ref 120) [.ref 85, .ref 183] = some false := by kernel_rfl
theorem kia_120_64_106 : kitAny (HD.kK P) (.ref 120) [.ref 64, .ref 106] = some false := by kernel_rfl
theorem kis_141 : isiOk (HD.kK P) 141 = true := by kernel_rfl
theorem kit_141_64 : kitOne (HD.kK P) (.ref 141) (.ref 64) = some false := by kernel_rfl
theorem kit_141_85 : kitOne (HD.kK P) (.ref 141) (.ref 85) = some false := by kernel_rfl
theorem kit_141_106 : kitOne (HD.kK P) (.ref 141) (.ref 106) = some false := by kernel_rfl
theorem kit_141_120 : kitOne (HD.kK P) (.ref 141) (.ref 120) = some false := by kernel_rfl
theorem kit_141_141 : kitOne (HD.kK P) (.ref 141) (.ref 141) = some true := by kernel_rfl
theorem kit_141_162 : kitOne (HD.kK P) (.ref 141) (.ref 162) = some false := by kernel_rfl
theorem kit_141_183 : kitOne (HD.kK P) (.ref 141) (.ref 183) = some false := by kernel_rfl
theorem kia_141_85_183 : kitAny (HD.kK P) (.ref 141) [.ref 85, .ref 183] = some false := by kernel_rfl
theorem kia_141_64_106 : kitAny (HD.kK P) (.ref 141) [.ref 64, .ref 106] = some false := by kernel_rfl
theorem kis_162 : isiOk (HD.kK P) 162 = true := by kernel_rfl
theorem kit_162_64 : kitOne (HD.kK P) (.ref 162) (.ref 64) = some false := by kernel_rfl
theorem kit_162_85 : kitOne (HD.kK P) (.ref 162) (.ref 85) = some false := by kernel_rfl
theorem kit_162_106 : kitOne (HD.kK P) (.ref 162) (.ref 106) = some false := by kernel_rfl
theorem kit_162_120 : kitOne (HD.kK P) (.ref 162) (.ref 120) = some false := by kernel_rfl
theorem kit_162_141 : kitOne (HD.kK P) (.ref 162) (.ref 141) = some false := by kernel_rfl
theorem kit_162_162 : kitOne (HD.kK P) (.ref 162) (.ref 162) = some true := by kernel_rfl
theorem kit_162_183 : kitOne (HD.kK P) (.ref 162) (.ref 183) = some false := by kernel_rfl
theorem kia_162_85_183 : kitAny (HD.kK P) (.ref 162) [.ref 85, .ref 183] = some false := by kernel_rfl
theorem kia_162_64_106 : kitAny (HD.kK P) (.ref 162) [.ref 64, .ref 106] = some false := by kernel_rfl
theorem kis_183 : isiOk (HD.kK P) 183 = true := by kernel_rfl
theorem kit_183_64 : kitOne (HD.kK P) (.ref 183) (.ref 64) = some false := by kernel_rfl
theorem kit_183_85 : kitOne (HD.kK P) (.ref 183) (.ref 85) = some false := by kernel_rfl
theorem kit_183_106 : kitOne (HD.kK P) (.ref 183) (.ref 106) = some false := by kernel_rfl
theorem kit_183_120 : kitOne (HD.kK P) (.ref 183) (.ref 120) = some false := by kernel_rfl
theorem kit_183_141 : kitOne (HD.kK P) (.ref 183) (.ref 141) = some false := by kernel_rfl
theorem kit_183_162 : kitOne (HD.kK P) (.ref 183) (.ref 162) = some false := by kernel_rfl
theorem kit_183_183 : kitOne (HD.kK P) (.ref 183) (.ref 183) = some true := by kernel_rfl
theorem kia_183_85_183 : kitAny (HD.kK P) (.ref 183) [.ref 85, .ref 183] = some true := by kernel_rfl
theorem kia_183_64_106 : kitAny (HD.kK P) (.ref 183) [.ref 64, .ref 106] = some false := by kernel_rfl
end
end Mine

namespace Mine
variable {Z : Zs}
theorem errOk : ErrOk (gl Z) where
  cls := ⟨_, _, _, _, _, _, _, _, _, _, _, _, _, _, _, (by rfl : (HD.kK Z.P).lookup 45 = some (excClassObj _ _ 45 _ _ (errMro 32) true _ _ _ _ _ _ _ _ _ _ "Exception.__new__"))⟩
  setattr := by kernel_rfl
  f1 := by kernel_rfl
  f2 := by kernel_rfl
  exc := by kernel_rfl
  name := by kernel_rfl
  callee := by kernel_rfl
  init := ⟨29, by kernel_rfl, by kernel_rfl, _, _, _, _, _, _, _, _, _, _, _, _, _, _, (by rfl : (HD.kK Z.P).lookup 29 = some ⟨_, _, .func (fnOf "__init__" _ _ _ _ _ _ _ _ _ _ _), _⟩), by kernel_rfl,
    fun s a b X => binds_K (T := 22) X rfl (by rfl : (HD.kK Z.P).lookup 22 = some _) rfl (by rfl) (by rfl), rfl, rfl, rfl, by decide, rfl, rfl, rfl, rfl, _, _, _, _, _, _, _, _, _, _, _, _, _, _, by rfl, rfl⟩
end Mine

namespace Mine

theorem upd_upd {H : AH} {a o o'} : upd (upd H a o) a o' = upd H a o' := by
  funext b; unfold upd; split <;> rfl
theorem upd_comm {H : AH} {a b o o'} (n : a ≠ b) : upd (upd H a o) b o' = upd (upd H b o') a o := by
  funext c; unfold upd
  by_cases h1 : c = b
  · subst h1; simp [Ne.symm n]
  · simp [h1]
theorem ne_of_none {H : AH} {a b o} (h : H a = none) (h' : H b = some o) : a ≠ b := fun e => by rw [e, h'] at h; cases h
theorem ne_of_none' {H : AH} {a b o} (h : H a = none) (h' : H b = some o) : b ≠ a := fun e => by rw [← e, h'] at h; cases h
/-- a local bears a value -/
noncomputable abbrev Lk (m : Loc) (x : Str) (p : PV) : Prop := m.lookup x = some p
noncomputable def mkObj (H : AH) (a dx C : Addr) (fs : List (Str × PV)) : AH := upd (upd H dx (.attrs fs)) a (.inst C dx)

section
variable {X : FX} {m : Loc} {H : AH} {Q : PV → Loc → AH → Prop} {E : Loc → AH → Prop} {a C dx : Addr} {fs : List (Str × PV)}
/-- `x.name` -/
theorem EV.fld {x name : Str} {p1 p2 : Pos} {v : PV} (O : X.Ok) (GG : X.G.Ok) (hl : X.env.kindOf x = some .local) (hv : m.lookup x = some (.ref a)) (ha : H a = some (.inst C dx)) (hd : H dx = some (.attrs fs)) (hc : clsOk X.G.K C = true) (hn : fieldOk X.G.K C name = true) (hp : fs.lookup name = some v) (q : Q v m H)
    (hdb : (x == ("__debug__" : Str)) = false := by decide)
    (he : eval (.Attribute (.Name x p1) name p2) X.env = (do
      let o ← eval (.Name x p1) X.env
      standAt p2.atName
      let r ← holding [o] (getAttr o name true)
      letTemporaryGo (.Name x p1) o r
      pure r) := by with_unfolding_all rfl) : EV X (.Attribute (.Name x p1) name p2) m H Q E :=
  EV.attr GG (EV.local_ O hl hv ⟨a, C, dx, fs, v, rfl, ha, hd, hc, hn, hp, q⟩ hdb) he
/-- `x.name = value` -/
theorem E1.setFld {x name : Str} {value : Expr} {p1 p2 pos : Pos} {Q : PF → Loc → AH → Prop} (O : X.Ok) (GG : X.G.Ok) (hl : X.env.kindOf x = some .local)
    (y : EV X value m H (fun p m1 H1 => Ex4 fun a C dx fs => C7 (m1.lookup x = some (.ref a)) (H1 a = some (.inst C dx)) (H1 dx = some (.attrs fs)) (clsOk X.G.K C = true) (fieldOk X.G.K C name = true) (fs.length ≤ 100) (Q .next m1 (upd H1 dx (.attrs (putF fs name p))))) E)
    (h1 : swapsWithSole [.Attribute (.Name x p1) name p2] value pos.line X.env = pure false := by rfl) (h2 : swappedStores [.Attribute (.Name x p1) name p2] value X.env = pure none := by rfl)
    (hs : (assignEach [.Attribute (.Name x p1) name p2] X.env).map (·.2) = [PySem.assign (.Attribute (.Name x p1) name p2) X.env] := by rfl) (hdb : (x == ("__debug__" : Str)) = false := by decide) :
    E1 X (.Assign [.Attribute (.Name x p1) name p2] value pos) m H Q E :=
  E1.assign (y.mono fun p m' H' ⟨a, C, dx, fs, hv, ha, hd, hc, hn, hz, q⟩ => AT.attr GG (EV.local_ O hl hv ⟨a, C, dx, fs, rfl, ha, hd, hc, hn, hz, q⟩ hdb)) h1 h2 hs
end

section
variable {X : FX} {m : Loc} {H : AH} {E : Loc → AH → Prop}
theorem EX.ret {e : Expr} {pos : Pos} {rest : List Stmt} {Q : PF → Loc → AH → Prop} (x : EV X e m H (fun p m1 H1 => Q (.ret p) m1 H1) E) : EX X (.Return (some e) pos :: rest) m H Q E :=
  EX.cons (E1.ret (x.mono fun p m1 H1 q => ⟨(fun z => by cases z), fun w9 => q⟩))
theorem EX.cont {pos : Pos} {rest : List Stmt} {Q : PF → Loc → AH → Prop} (q : Q .cont m H) : EX X (.Continue pos :: rest) m H Q E := EX.cons (E1.cont ⟨(fun z => by cases z), fun w9 => q⟩)
/-- an if behind which it goes on -/
noncomputable def Then (X : FX) (rest : List Stmt) (Q : PF → Loc → AH → Prop) (E : Loc → AH → Prop) : PF → Loc → AH → Prop := fun f m H => (f = .next → EX X rest m H Q E) ∧ (f ≠ .next → Q f m H)
theorem EX.ite {test : Expr} {body orelse rest : List Stmt} {pos : Pos} {Q : PF → Loc → AH → Prop} (x : ET X test m H (fun b m1 H1 => (b = true → EX X body m1 H1 (Then X rest Q E) E) ∧ (b = false → EX X orelse m1 H1 (Then X rest Q E) E)) E) : EX X (.If test body orelse pos :: rest) m H Q E :=
  EX.cons (E1.ite x)
theorem Then.go {rest : List Stmt} {Q : PF → Loc → AH → Prop} (x : EX X rest m H Q E) : EX X [] m H (Then X rest Q E) E := EX.nil ⟨fun w9 => x, fun z => absurd rfl z⟩
theorem Then.out {rest : List Stmt} {Q : PF → Loc → AH → Prop} {p : PV} (q : Q (.ret p) m H) : Then X rest Q E (.ret p) m H := ⟨(fun z => by cases z), fun w9 => q⟩
theorem Then.cont {rest : List Stmt} {Q : PF → Loc → AH → Prop} (q : Q .cont m H) : Then X rest Q E .cont m H := ⟨(fun z => by cases z), fun w9 => q⟩
end

section
variable {Z : Zs} {n : Nat} {nn : Bool} {H : AH} {Q : PV → AH → Prop} {E : AH → Prop}

theorem c_Function {p q : PV} (GG : (gl Z).Ok) (k : ∀ a dx, H a = none → H dx = none → a ≠ dx → Q (.ref a) (mkObj H a dx 64 [("code", p), ("captured", q)])) :
    CallL (gl Z) (n + 2) nn 64 [p, q] H Q E := by
  refine CallL.make GG km_64 ki_64 kt_61 fun a dx ha hdx hne => ?_
  refine CallL.intro GG (by rfl) (by kernel_rfl) ["self", "code", "captured"] (len3 fun w9 w9 w9 => rfl) (by decide) (by decide) (by decide) rfl rfl rfl rfl fun V O => ?_
  have e1 : upd (upd H dx (.attrs [])) a (.inst 64 dx) a = some (.inst 64 dx) := upd_self
  have e2 : upd (upd H dx (.attrs [])) a (.inst 64 dx) dx = some (.attrs []) := (upd_ne hne.symm).trans upd_self
  refine EX.next (E1.setFld O GG rfl (EV.local_ O rfl rfl ⟨a, 64, dx, _, rfl, e1, e2, kc_64, kf_64_code, Nat.le_of_ble_eq_true rfl, rfl, ?_⟩))
  refine EX.next (E1.setFld O GG rfl (EV.local_ O rfl rfl ⟨a, 64, dx, _, rfl, (upd_ne hne).trans e1, upd_self, kc_64, kf_64_captured, Nat.le_of_ble_eq_true rfl, rfl, ?_⟩))
  refine EX.nil ⟨rfl, ?_⟩
  have := k a dx ha hdx hne
  rw [upd_upd, upd_comm hne, upd_upd]
  exact this
theorem c_Partial {p q : PV} (GG : (gl Z).Ok) (k : ∀ a dx, H a = none → H dx = none → a ≠ dx → Q (.ref a) (mkObj H a dx 85 [("address", p), ("values", q)])) :
    CallL (gl Z) (n + 2) nn 85 [p, q] H Q E := by
  refine CallL.make GG km_85 ki_85 kt_82 fun a dx ha hdx hne => ?_
  refine CallL.intro GG (by rfl) (by kernel_rfl) ["self", "address", "values"] (len3 fun w9 w9 w9 => rfl) (by decide) (by decide) (by decide) rfl rfl rfl rfl fun V O => ?_
  have e1 : upd (upd H dx (.attrs [])) a (.inst 85 dx) a = some (.inst 85 dx) := upd_self
  have e2 : upd (upd H dx (.attrs [])) a (.inst 85 dx) dx = some (.attrs []) := (upd_ne hne.symm).trans upd_self
  refine EX.next (E1.setFld O GG rfl (EV.local_ O rfl rfl ⟨a, 85, dx, _, rfl, e1, e2, kc_85, kf_85_address, Nat.le_of_ble_eq_true rfl, rfl, ?_⟩))
  refine EX.next (E1.setFld O GG rfl (EV.local_ O rfl rfl ⟨a, 85, dx, _, rfl, (upd_ne hne).trans e1, upd_self, kc_85, kf_85_values, Nat.le_of_ble_eq_true rfl, rfl, ?_⟩))
  refine EX.nil ⟨rfl, ?_⟩
  have := k a dx ha hdx hne
  rw [upd_upd, upd_comm hne, upd_upd]
  exact this
theorem c_Thunk {p q : PV} (GG : (gl Z).Ok) (k : ∀ a dx, H a = none → H dx = none → a ≠ dx → Q (.ref a) (mkObj H a dx 106 [("code", p), ("captured", q)])) :
    CallL (gl Z) (n + 2) nn 106 [p, q] H Q E := by
  refine CallL.make GG km_106 ki_106 kt_103 fun a dx ha hdx hne => ?_
  refine CallL.intro GG (by rfl) (by kernel_rfl) ["self", "code", "captured"] (len3 fun w9 w9 w9 => rfl) (by decide) (by decide) (by decide) rfl rfl rfl rfl fun V O => ?_
  have e1 : upd (upd H dx (.attrs [])) a (.inst 106 dx) a = some (.inst 106 dx) := upd_self
  have e2 : upd (upd H dx (.attrs [])) a (.inst 106 dx) dx = some (.attrs []) := (upd_ne hne.symm).trans upd_self
  refine EX.next (E1.setFld O GG rfl (EV.local_ O rfl rfl ⟨a, 106, dx, _, rfl, e1, e2, kc_106, kf_106_code, Nat.le_of_ble_eq_true rfl, rfl, ?_⟩))
  refine EX.next (E1.setFld O GG rfl (EV.local_ O rfl rfl ⟨a, 106, dx, _, rfl, (upd_ne hne).trans e1, upd_self, kc_106, kf_106_captured, Nat.le_of_ble_eq_true rfl, rfl, ?_⟩))
  refine EX.nil ⟨rfl, ?_⟩
  have := k a dx ha hdx hne
  rw [upd_upd, upd_comm hne, upd_upd]
  exact this
theorem c_Data {p q : PV} (GG : (gl Z).Ok) (k : ∀ a dx, H a = none → H dx = none → a ≠ dx → Q (.ref a) (mkObj H a dx 183 [("con", p), ("values", q)])) :
    CallL (gl Z) (n + 2) nn 183 [p, q] H Q E := by
  refine CallL.make GG km_183 ki_183 kt_180 fun a dx ha hdx hne => ?_
  refine CallL.intro GG (by rfl) (by kernel_rfl) ["self", "con", "values"] (len3 fun w9 w9 w9 => rfl) (by decide) (by decide) (by decide) rfl rfl rfl rfl fun V O => ?_
  have e1 : upd (upd H dx (.attrs [])) a (.inst 183 dx) a = some (.inst 183 dx) := upd_self
  have e2 : upd (upd H dx (.attrs [])) a (.inst 183 dx) dx = some (.attrs []) := (upd_ne hne.symm).trans upd_self
  refine EX.next (E1.setFld O GG rfl (EV.local_ O rfl rfl ⟨a, 183, dx, _, rfl, e1, e2, kc_183, kf_183_con, Nat.le_of_ble_eq_true rfl, rfl, ?_⟩))
  refine EX.next (E1.setFld O GG rfl (EV.local_ O rfl rfl ⟨a, 183, dx, _, rfl, (upd_ne hne).trans e1, upd_self, kc_183, kf_183_values, Nat.le_of_ble_eq_true rfl, rfl, ?_⟩))
  refine EX.nil ⟨rfl, ?_⟩
  have := k a dx ha hdx hne
  rw [upd_upd, upd_comm hne, upd_upd]
  exact this
theorem c_Link {p : PV} (GG : (gl Z).Ok) (k : ∀ a dx, H a = none → H dx = none → a ≠ dx → Q (.ref a) (mkObj H a dx 141 [("address", p)])) :
    CallL (gl Z) (n + 2) nn 141 [p] H Q E := by
  refine CallL.make GG km_141 ki_141 kt_138 fun a dx ha hdx hne => ?_
  refine CallL.intro GG (by rfl) (by kernel_rfl) ["self", "address"] (len2 fun w9 w9 => rfl) (by decide) (by decide) (by decide) rfl rfl rfl rfl fun V O => ?_
  have e1 : upd (upd H dx (.attrs [])) a (.inst 141 dx) a = some (.inst 141 dx) := upd_self
  have e2 : upd (upd H dx (.attrs [])) a (.inst 141 dx) dx = some (.attrs []) := (upd_ne hne.symm).trans upd_self
  refine EX.next (E1.setFld O GG rfl (EV.local_ O rfl rfl ⟨a, 141, dx, _, rfl, e1, e2, kc_141, kf_141_address, Nat.le_of_ble_eq_true rfl, rfl, ?_⟩))
  refine EX.nil ⟨rfl, ?_⟩
  have := k a dx ha hdx hne
  rw [upd_comm hne, upd_upd]
  exact this
theorem c_Plain {p : PV} (GG : (gl Z).Ok) (k : ∀ a dx, H a = none → H dx = none → a ≠ dx → Q (.ref a) (mkObj H a dx 162 [("value", p)])) :
    CallL (gl Z) (n + 2) nn 162 [p] H Q E := by
  refine CallL.make GG km_162 ki_162 kt_159 fun a dx ha hdx hne => ?_
  refine CallL.intro GG (by rfl) (by kernel_rfl) ["self", "value"] (len2 fun w9 w9 => rfl) (by decide) (by decide) (by decide) rfl rfl rfl rfl fun V O => ?_
  have e1 : upd (upd H dx (.attrs [])) a (.inst 162 dx) a = some (.inst 162 dx) := upd_self
  have e2 : upd (upd H dx (.attrs [])) a (.inst 162 dx) dx = some (.attrs []) := (upd_ne hne.symm).trans upd_self
  refine EX.next (E1.setFld O GG rfl (EV.local_ O rfl rfl ⟨a, 162, dx, _, rfl, e1, e2, kc_162, kf_162_value, Nat.le_of_ble_eq_true rfl, rfl, ?_⟩))
  refine EX.nil ⟨rfl, ?_⟩
  have := k a dx ha hdx hne
  rw [upd_comm hne, upd_upd]
  exact this
theorem c_Hole (GG : (gl Z).Ok) (k : ∀ a dx, H a = none → H dx = none → a ≠ dx → Q (.ref a) (mkObj H a dx 120 [])) : CallL (gl Z) n nn 120 [] H Q E :=
  CallL.make0 GG km_120 ki_120 fun a dx ha hdx hne => k a dx ha hdx hne
end
end Mine

namespace Mine
section
variable {Z : Zs} {n : Nat} {nn : Bool} {H : AH} {Q : PV → AH → Prop} {E : AH → Prop}

theorem c_Heap (GG : (gl Z).Ok) (k : ∀ a dx dd ep, H a = none → H dx = none → H dd = none → a ≠ dx → a ≠ dd → dx ≠ dd → Q (.ref a) (upd (mkObj H a dx 232 [("cells", .ref dd), ("next", .int 0)]) dd (.dict [] ep))) :
    CallL (gl Z) (n + 2) nn 232 [] H Q E := by
  refine CallL.make GG km_232 ki_232 kt_201 fun a dx ha hdx hne => ?_
  refine CallL.intro GG (by rfl) (by kernel_rfl) ["self"] (len1 fun w9 => rfl) (by decide) (by decide) (by decide) rfl rfl rfl rfl fun V O => ?_
  have e1 : upd (upd H dx (.attrs [])) a (.inst 232 dx) a = some (.inst 232 dx) := upd_self
  have e2 : upd (upd H dx (.attrs [])) a (.inst 232 dx) dx = some (.attrs []) := (upd_ne hne.symm).trans upd_self
  refine EX.next (E1.setFld O GG rfl (EV.dict0 fun dd ep hdd => ?_))
  have n1 : dd ≠ a := ne_of_none hdd e1
  have n2 : dd ≠ dx := ne_of_none hdd e2
  have hdd' : H dd = none := by rw [upd_ne n1, upd_ne n2] at hdd; exact hdd
  refine ⟨a, 232, dx, _, rfl, (upd_ne n1.symm).trans e1, (upd_ne n2.symm).trans e2, kc_232, kf_232_cells, Nat.le_of_ble_eq_true rfl, rfl, ?_⟩
  refine EX.next (E1.setFld O GG rfl (EV.int_ ⟨a, 232, dx, _, rfl, (upd_ne hne).trans ((upd_ne n1.symm).trans e1), upd_self, kc_232, kf_232_next, Nat.le_of_ble_eq_true rfl, rfl, ?_⟩))
  refine EX.nil ⟨rfl, ?_⟩
  have := k a dx dd ep ha hdx hdd' hne n1.symm n2.symm
  rw [upd_upd, upd_comm n2, upd_comm hne, upd_upd]
  exact this

/-- an own heap stands -/
structure HpAt (H : AH) (a dx dd : Addr) (es : List (Int × PV)) (k : Int) : Prop where
  i : H a = some (.inst 232 dx)
  f : H dx = some (.attrs [("cells", .ref dd), ("next", .int k)])
  d : ∃ ep, H dd = some (.dict es ep)
theorem HpAt.ne1 {H a dx dd es k} (x : HpAt H a dx dd es k) : a ≠ dx := fun e => by have := x.f; rw [← e, x.i] at this; cases this
theorem HpAt.ne2 {H a dx dd es k} (x : HpAt H a dx dd es k) : a ≠ dd := fun e => by obtain ⟨_, q⟩ := x.d; rw [← e, x.i] at q; cases q
theorem HpAt.ne3 {H a dx dd es k} (x : HpAt H a dx dd es k) : dx ≠ dd := fun e => by obtain ⟨_, q⟩ := x.d; rw [← e, x.f] at q; cases q

theorem c_new {a dx dd : Addr} {es : List (Int × PV)} {k : Int} {p : PV} (GG : (gl Z).Ok) (x : HpAt H a dx dd es k) (hz : es.length ≤ sizeLine)
    (q : ∀ ep', Q (.int k) (upd (upd H dx (.attrs [("cells", .ref dd), ("next", .int (k + 1))])) dd (.dict (putI es k p) ep'))) :
    CallL (gl Z) (n + 1) nn 208 [.ref a, p] H Q E := by
  refine CallL.intro GG (by rfl) (by kernel_rfl) ["self", "cell"] (len2 fun w9 w9 => rfl) (by decide) (by decide) (by decide) rfl rfl rfl rfl fun V O => ?_
  refine EX.next (E1.assign (EV.fld O GG rfl rfl x.i x.f kc_232 kf_232_next rfl (AT.local O rfl ⟨rfl, ?_⟩)))
  refine EX.next (E1.setFld O GG rfl (EV.bin (EV.local_ O rfl rfl (EV.int_ ⟨a, 232, dx, _, rfl, x.i, x.f, kc_232, kf_232_next, Nat.le_of_ble_eq_true rfl, rfl, ?_⟩))))
  obtain ⟨ep, hd⟩ := x.d
  refine EX.next (E1.assignSub (EV.local_ O rfl rfl (EV.fld O GG rfl rfl ((upd_ne x.ne1).trans x.i) upd_self kc_232 kf_232_cells rfl (EV.local_ O rfl rfl ?_))))
  refine .inl ⟨es, ep, (upd_ne x.ne3.symm).trans hd, fun w9 => hz, fun ep' => ⟨rfl, ?_⟩⟩
  exact EX.ret (EV.local_ O rfl rfl (q ep'))

theorem c_get {a dx dd : Addr} {es : List (Int × PV)} {k i : Int} (GG : (gl Z).Ok) (x : HpAt H a dx dd es k) (hi : i.natAbs.log2 < 1920)
    (q : ∀ p, es.lookup i = some p → Q p H) (e : es.lookup i = none → E H) :
    CallL (gl Z) (n + 3) true 215 [.ref a, .int i] H Q E := by
  refine CallL.intro GG (by rfl) (by kernel_rfl) ["self", "address"] (len2 fun w9 w9 => rfl) (by decide) (by decide) (by decide) rfl rfl rfl rfl fun V O => ?_
  obtain ⟨ep, hd⟩ := x.d
  refine EX.ite (ET.cmp (EV.local_ O rfl rfl (EV.fld O GG rfl rfl x.i x.f kc_232 kf_232_cells rfl (.inr ⟨es, ep, hd, ?_⟩))))
  cases hl : es.lookup i with
  | none =>
    refine ⟨fun w9 => ?_, nofun⟩
    refine EX.cons (E1.raise_ O GG errOk rfl (Nat.le_add_left 2 n) rfl kn_err (EV.bin (EV.str_ (EV.bcall O GG rfl kb_str rfl (.inl ⟨_, rfl⟩) (EV.local_ O rfl rfl (BCall.str_int hi ?_))))))
    exact ⟨Nat.le_trans (Nat.add_le_add_left (int_text_len_1921 hi) _) (by rw [sizeLine_eq]; decide), ⟨_, rfl⟩, e hl⟩
  | some p =>
    refine ⟨nofun, fun w9 => Then.go ?_⟩
    exact EX.ret (EV.sub (EV.fld O GG rfl rfl x.i x.f kc_232 kf_232_cells rfl (EV.local_ O rfl rfl (.inr ⟨es, ep, p, hd, hl, q p hl⟩))))

theorem c_put {a dx dd : Addr} {es : List (Int × PV)} {k i : Int} {p : PV} (GG : (gl Z).Ok) (x : HpAt H a dx dd es k) (hz : es.length ≤ sizeLine)
    (q : ∀ ep', Q .none (upd H dd (.dict (putI es i p) ep'))) :
    CallL (gl Z) (n + 1) nn 222 [.ref a, .int i, p] H Q E := by
  refine CallL.intro GG (by rfl) (by kernel_rfl) ["self", "address", "cell"] (len3 fun w9 w9 w9 => rfl) (by decide) (by decide) (by decide) rfl rfl rfl rfl fun V O => ?_
  obtain ⟨ep, hd⟩ := x.d
  exact EX.next (E1.assignSub (EV.local_ O rfl rfl (EV.fld O GG rfl rfl x.i x.f kc_232 kf_232_cells rfl (EV.local_ O rfl rfl (.inl ⟨es, ep, hd, fun w9 => hz, fun ep' => ⟨rfl, EX.nil (q ep')⟩⟩)))))

theorem c_many {a dx dd : Addr} {es : List (Int × PV)} {k : Int} (GG : (gl Z).Ok) (x : HpAt H a dx dd es k) (hz : es.length ≤ sizeLine) (q : Q (.int es.length) H) :
    CallL (gl Z) (n + 1) nn 229 [.ref a] H Q E := by
  refine CallL.intro GG (by rfl) (by kernel_rfl) ["self"] (len1 fun w9 => rfl) (by decide) (by decide) (by decide) rfl rfl rfl rfl fun V O => ?_
  obtain ⟨ep, hd⟩ := x.d
  exact EX.ret (EV.bcall O GG rfl kb_len rfl (.inr ⟨_, rfl⟩) (EV.fld O GG rfl rfl x.i x.f kc_232 kf_232_cells rfl (BCall.len_dict hd (fun w9 => hz) q)))
end
end Mine

namespace Mine

/-! ## Plain cells, rows and heaps -/
inductive Vl where
  | int (i : Int)
  | char (s : Str)
  | at (a : Nat)
noncomputable def Vl.pv : Vl → PV
  | .int i => .tup [.str "int", .int i]
  | .char s => .tup [.str "char", .str s]
  | .at a => .tup [.str "at", .int a]

inductive Cl where
  | fn (c : Str) (vs : List Vl)
  | th (c : Str) (vs : List Vl)
  | pa (a : Nat) (vs : List Vl)
  | da (c : Str) (vs : List Vl)
  | ho
  | pl (v : Vl)
  | li (a : Nat)
namespace Cl
noncomputable def cls : Cl → Addr
  | fn .. => 64 | th .. => 106 | pa .. => 85 | da .. => 183 | ho => 120 | pl _ => 162 | li _ => 141
noncomputable def flds (l : Addr) : Cl → List (Str × PV)
  | fn c _ => [("code", .str c), ("captured", .ref l)]
  | th c _ => [("code", .str c), ("captured", .ref l)]
  | pa a _ => [("address", .int a), ("values", .ref l)]
  | da c _ => [("con", .str c), ("values", .ref l)]
  | ho => []
  | pl v => [("value", v.pv)]
  | li a => [("address", .int a)]
noncomputable def vals : Cl → List Vl
  | fn _ vs => vs | th _ vs => vs | pa _ vs => vs | da _ vs => vs | ho => [] | pl _ => [] | li _ => []
noncomputable def hasL : Cl → Bool
  | fn .. => true | th .. => true | pa .. => true | da .. => true | ho => false | pl _ => false | li _ => false
noncomputable def kind : Cl → Str
  | fn .. => "function" | th .. => "thunk" | pa .. => "partial" | da .. => "data" | ho => "hole" | pl _ => "plain" | li _ => "link"
noncomputable def name : Cl → PV
  | fn c _ => .str c | th c _ => .str c | pa a _ => .int a | da c _ => .str c | ho => .str "" | pl _ => .str "" | li a => .int a
noncomputable def rvals : Cl → List Vl
  | fn _ vs => vs | th _ vs => vs | pa _ vs => vs | da _ vs => vs | ho => [] | pl v => [v] | li _ => []
noncomputable def isLi : Cl → Bool
  | li _ => true | _ => false
end Cl

noncomputable def Ext (H H' : AH) : Prop := ∀ a o, H a = some o → H' a = some o
theorem Ext.refl (H : AH) : Ext H H := fun _ _ e => e
theorem Ext.trans {H₁ H₂ H₃ : AH} (x : Ext H₁ H₂) (y : Ext H₂ H₃) : Ext H₁ H₃ := fun a o e => y a o (x a o e)
theorem Ext.new {H : AH} {a o} (n : H a = none) : Ext H (upd H a o) := fun b ob e => by rw [upd_ne (ne_of_none' n e)]; exact e

inductive All2 {α β : Type} (R : α → β → Prop) : List α → List β → Prop
  | nil : All2 R [] []
  | cons {a b l m} : R a b → All2 R l m → All2 R (a :: l) (b :: m)
namespace All2
variable {α β : Type} {R R' : α → β → Prop}
theorem len {l : List α} {m : List β} (x : All2 R l m) : l.length = m.length := by induction x with | nil => rfl | cons _ _ ih => simp [ih]
theorem mono {l : List α} {m : List β} (x : All2 R l m) (f : ∀ a b, R a b → R' a b) : All2 R' l m := by induction x with | nil => exact .nil | cons h _ ih => exact .cons (f _ _ h) ih
theorem right {l : List α} {m : List β} (x : All2 R l m) {i : Nat} {b : β} (e : m[i]? = some b) : ∃ a, l[i]? = some a ∧ R a b := by
  induction x generalizing i with
  | nil => simp at e
  | cons h _ ih => cases i with
    | zero => simp at e; subst e; exact ⟨_, rfl, h⟩
    | succ i => simp only [List.getElem?_cons_succ] at e ⊢; exact ih e
theorem left {l : List α} {m : List β} (x : All2 R l m) {i : Nat} {a : α} (e : l[i]? = some a) : ∃ b, m[i]? = some b ∧ R a b := by
  induction x generalizing i with
  | nil => simp at e
  | cons h _ ih => cases i with
    | zero => simp at e; subst e; exact ⟨_, rfl, h⟩
    | succ i => simp only [List.getElem?_cons_succ] at e ⊢; exact ih e
theorem snoc {l : List α} {m : List β} {a : α} {b : β} (x : All2 R l m) (h : R a b) : All2 R (l ++ [a]) (m ++ [b]) := by induction x with | nil => exact .cons h .nil | cons h' _ ih => exact .cons h' ih
theorem of_get {l : List α} {m : List β} (e : l.length = m.length) (f : ∀ (i : Nat) a b, l[i]? = some a → m[i]? = some b → R a b) : All2 R l m := by
  induction l generalizing m with
  | nil => cases m with | nil => exact .nil | cons => simp at e
  | cons a l ih => cases m with
    | nil => simp at e
    | cons b m => exact .cons (f 0 a b rfl rfl) (ih (by simpa using e) fun i a b h1 h2 => f (i + 1) a b (by simpa using h1) (by simpa using h2))
end All2

structure CellAt (H : AH) (a : Addr) (c : Cl) : Prop where
  ex : ∃ dx l, H a = some (.inst c.cls dx) ∧ H dx = some (.attrs (c.flds l)) ∧ (c.hasL = true → H l = some (.list (c.vals.map Vl.pv)))
theorem CellAt.ext {H H' : AH} {a c} (x : CellAt H a c) (k : Ext H H') : CellAt H' a c := let ⟨dx, l, h1, h2, h3⟩ := x.ex; ⟨dx, l, k _ _ h1, k _ _ h2, fun q => k _ _ (h3 q)⟩

structure RowAt (H : AH) (p : PV) (c : Cl) : Prop where
  ex : ∃ l, p = .tup [.str c.kind, c.name, .ref l] ∧ H l = some (.list (c.rvals.map Vl.pv))
theorem RowAt.ext {H H' : AH} {p c} (x : RowAt H p c) (k : Ext H H') : RowAt H' p c := let ⟨l, h1, h2⟩ := x.ex; ⟨l, h1, k _ _ h2⟩

/-- a dict with the keys 0, 1, ... -/
noncomputable def enF : Nat → List PV → List (Int × PV)
  | _, [] => []
  | n, p :: ps => (((n : Nat) : Int), p) :: enF (n + 1) ps
noncomputable abbrev en (ps : List PV) := enF 0 ps
theorem enF_len : ∀ {n ps}, (enF n ps).length = ps.length
  | _, [] => rfl
  | n, p :: ps => by simp [enF, enF_len (n := n + 1)]
theorem enF_lookup : ∀ {n ps} {i : Nat}, (enF n ps).lookup ((n + i : Nat) : Int) = ps[i]?
  | _, [], _ => by simp [enF]
  | n, p :: ps, 0 => by simp [enF]
  | n, p :: ps, i + 1 => by
    have : ((((n + (i + 1) : Nat) : Int)) == ((n : Nat) : Int)) = false := by rw [beq_eq_false_iff_ne]; lia
    unfold enF
    rw [List.lookup_cons, this]
    have ih := enF_lookup (n := n + 1) (ps := ps) (i := i)
    rw [show n + (i + 1) = n + 1 + i by lia]; simpa using ih
theorem en_lookup {ps} {i : Nat} : (en ps).lookup ((i : Nat) : Int) = ps[i]? := by
  have := enF_lookup (n := 0) (ps := ps) (i := i)
  rwa [Nat.zero_add] at this
theorem enF_any : ∀ {n ps} {k : Nat}, ((enF n ps).any fun kv => decide (kv.1 = ((k : Nat) : Int))) = decide (n ≤ k ∧ k < n + ps.length)
  | n, [], k => by simp [enF]
  | n, p :: ps, k => by
    unfold enF
    rw [List.any_cons, enF_any (n := n + 1), List.length_cons, Bool.eq_iff_iff]
    simp only [Bool.or_eq_true, decide_eq_true_eq]
    lia
theorem enF_cons {n p ps} : enF n (p :: ps) = (((n : Nat) : Int), p) :: enF (n + 1) ps := rfl
theorem enF_skip {n : Nat} {p : PV} : ∀ (m : Nat) (ps : List PV), n < m → (enF m ps).map (fun kv => if kv.1 = ((n : Nat) : Int) then (kv.1, p) else kv) = enF m ps
  | _, [], _ => rfl
  | m, q :: ps, h => by
    rw [enF_cons, List.map_cons, enF_skip (m + 1) ps (by lia), if_neg (by simp only; lia)]
theorem enF_map : ∀ {n ps} {i : Nat} {p : PV}, (enF n ps).map (fun kv => if kv.1 = ((n + i : Nat) : Int) then (kv.1, p) else kv) = enF n (ps.set i p)
  | _, [], _, _ => rfl
  | n, q :: ps, 0, p => by
    rw [enF_cons, List.map_cons, List.set_cons_zero, enF_cons]
    simp only [Nat.add_zero, if_true]
    rw [enF_skip (n + 1) ps (by lia)]
  | n, q :: ps, i + 1, p => by
    rw [enF_cons, List.map_cons, List.set_cons_succ, if_neg (by simp only; lia), enF_cons]
    have := enF_map (n := n + 1) (ps := ps) (i := i) (p := p)
    rw [show n + (i + 1) = n + 1 + i by lia, this]
theorem en_put_new {ps : List PV} {p : PV} : putI (en ps) (ps.length : Nat) p = en (ps ++ [p]) := by
  unfold putI
  rw [enF_any, if_neg (by simp)]
  have : ∀ n ps, enF n ps ++ [(((n + ps.length : Nat) : Int), p)] = enF n (ps ++ [p]) := by
    intro n ps
    induction ps generalizing n with
    | nil => simp [enF]
    | cons q ps ih =>
      have := ih (n + 1)
      simp only [enF, List.cons_append, List.length_cons]
      rw [← this]
      congr 3
      simp only [Prod.mk.injEq, and_true]
      lia
  have := this 0 ps
  rwa [Nat.zero_add] at this
theorem en_put {ps : List PV} {i : Nat} {p : PV} (h : i < ps.length) : putI (en ps) (i : Nat) p = en (ps.set i p) := by
  unfold putI
  rw [enF_any, if_pos (by simp; lia)]
  have := enF_map (n := 0) (ps := ps) (i := i) (p := p)
  rwa [Nat.zero_add] at this
set_option tactic.hygienic true in
theorem putI_lookup {es : List (Int × PV)} {k j : Int} {p : PV} : (putI es k p).lookup j = if j = k then some p else es.lookup j := by
  unfold putI
  split
  · rename_i h
    induction es with
    | nil => simp at h
    | cons x r ih =>
      obtain ⟨a, q⟩ := x
      rw [List.map_cons]
      by_cases z : a = k
      · subst z
        simp only [if_true]
        rw [List.lookup_cons]
        by_cases z2 : j = a
        · subst z2; simp
        · have z2' : (j == a) = false := by simpa using z2
          rw [z2', if_neg z2, List.lookup_cons, z2']
          by_cases h2 : (r.any fun kv => decide (kv.1 = a)) = true
          · rw [ih h2, if_neg z2]
          · have : r.map (fun kv => if kv.1 = a then (kv.1, p) else kv) = r := by
              refine map_eq_self fun x hx => ?_
              rw [if_neg fun z => h2 (List.any_eq_true.mpr ⟨x, hx, decide_eq_true z⟩)]
            rw [this]
      · have h2 : (r.any fun kv => decide (kv.1 = k)) = true := by
          rw [List.any_cons] at h
          simpa [z] using h
        simp only [z, if_false]
        rw [List.lookup_cons, List.lookup_cons]
        by_cases z2 : j = a
        · subst z2; simp [z]
        · have z2' : (j == a) = false := by simpa using z2
          rw [z2']; exact ih h2
  · rename_i h
    revert h
    induction es with
    | nil =>
      intro _
      rw [List.nil_append, List.lookup_cons]
      by_cases z : j = k
      · subst z; simp
      · have z' : (j == k) = false := by simpa using z
        rw [z', if_neg z]
    | cons x r ih =>
      intro h
      obtain ⟨a, q⟩ := x
      rw [List.any_cons, Bool.or_eq_true, not_or] at h
      rw [List.cons_append, List.lookup_cons, List.lookup_cons]
      by_cases z2 : j = a
      · subst z2
        have : ¬ j = k := fun z => h.1 (by simpa using z)
        simp [this]
      · have z2' : (j == a) = false := by simpa using z2
        rw [z2']; exact ih h.2

/-! ## Links -/
noncomputable def walk (cs : List Cl) : Nat → List Nat → Nat → Option (List Nat × Nat)
  | 0, _, _ => none
  | f + 1, seen, a => match cs[a]? with
    | none => none
    | some (.li b) => if a ∈ seen then none else walk cs f (seen ++ [a]) b
    | some _ => some (seen, a)
noncomputable def wk (cs : List Cl) (a : Nat) := walk cs (cs.length + 2) [] a
noncomputable def lend (cs : List Cl) (a : Nat) : Option Nat := (wk cs a).map (·.2)

theorem walk_none {cs : List Cl} {f seen a} (h : cs[a]? = none) : walk cs f seen a = none := by
  cases f with
  | zero => rfl
  | succ f => unfold walk; rw [h]
theorem walk_end {cs : List Cl} {f seen a c} (h : cs[a]? = some c) (hc : c.isLi = false) : walk cs (f + 1) seen a = some (seen, a) := by
  unfold walk; rw [h]; cases c <;> first | rfl | cases hc
theorem walk_li {cs : List Cl} {f seen a b} (h : cs[a]? = some (.li b)) : walk cs (f + 1) seen a = if a ∈ seen then none else walk cs f (seen ++ [a]) b := by
  rw [walk, h]
set_option tactic.hygienic true in
theorem walk_cases {cs : List Cl} {f seen a r} (h : walk cs f seen a = some r) : ∃ f', f = f' + 1 ∧ ((∃ c, cs[a]? = some c ∧ c.isLi = false ∧ r = (seen, a)) ∨ (∃ b, cs[a]? = some (.li b) ∧ a ∉ seen ∧ walk cs f' (seen ++ [a]) b = some r)) := by
  cases f with
  | zero => cases h
  | succ f =>
    refine ⟨f, rfl, ?_⟩
    cases hc : cs[a]? with
    | none => rw [walk_none hc] at h; cases h
    | some c =>
      cases hl : c.isLi with
      | false => rw [walk_end hc hl] at h; exact .inl ⟨c, rfl, hl, (Option.some.inj h).symm⟩
      | true =>
        cases c <;> first | cases hl | skip
        rename_i b
        rw [walk_li hc] at h
        split at h
        · cases h
        · rename_i n; exact .inr ⟨b, rfl, n, h⟩
/-- fewer seen, more fuel -/
theorem walk_less {cs : List Cl} : ∀ {f seen a s e}, walk cs f seen a = some (s, e) → ∀ {f' seen'}, f ≤ f' → (∀ x, x ∈ seen' → x ∈ seen) → ∃ s', walk cs f' seen' a = some (s', e)
  | 0, _, _, _, _, h, _, _, _, _ => by cases h
  | f + 1, seen, a, s, e, h, f', seen', hf, hs => by
    obtain ⟨f1, hf1, h⟩ := walk_cases h
    cases hf1
    obtain ⟨f2, rfl⟩ : ∃ f2, f' = f2 + 1 := ⟨f' - 1, by lia⟩
    rcases h with ⟨c, h1, h2, h3⟩ | ⟨b, h1, h2, h3⟩
    · cases h3; exact ⟨seen', walk_end h1 h2⟩
    · rw [walk_li h1, if_neg fun z => h2 (hs _ z)]
      exact walk_less h3 (by lia) fun x hx => by
        rcases List.mem_append.mp hx with q | q
        · exact List.mem_append_left _ (hs _ q)
        · exact List.mem_append_right _ q
/-- each link passed leads to the same end -/
theorem walk_passed {cs : List Cl} : ∀ {f seen a s e}, walk cs f seen a = some (s, e) → ∀ p ∈ s, p ∈ seen ∨ ∃ f' s', f' ≤ f ∧ walk cs f' [] p = some (s', e)
  | 0, _, _, _, _, h, _, _ => by cases h
  | f + 1, seen, a, s, e, h, p, hp => by
    have h0 := h
    obtain ⟨f1, hf1, h⟩ := walk_cases h
    cases hf1
    rcases h with ⟨c, h1, h2, h3⟩ | ⟨b, h1, h2, h3⟩
    · cases h3; exact .inl hp
    · rcases walk_passed h3 p hp with q | ⟨f', s', q1, q2⟩
      · rcases List.mem_append.mp q with q | q
        · exact .inl q
        · rw [List.mem_singleton.mp q]
          obtain ⟨s', hs⟩ := walk_less h0 (Nat.le_refl _) (seen' := []) (fun x hx => by cases hx)
          exact .inr ⟨f + 1, s', Nat.le_refl _, hs⟩
      · exact .inr ⟨f', s', by lia, q2⟩
theorem walk_end_is {cs : List Cl} : ∀ {f seen a s e}, walk cs f seen a = some (s, e) → ∃ c, cs[e]? = some c ∧ c.isLi = false
  | 0, _, _, _, _, h => by cases h
  | f + 1, seen, a, s, e, h => by
    obtain ⟨f1, hf1, h⟩ := walk_cases h
    cases hf1
    rcases h with ⟨c, h1, h2, h3⟩ | ⟨b, h1, h2, h3⟩
    · cases h3; exact ⟨c, h1, h2⟩
    · exact walk_end_is h3
theorem lend_end {cs : List Cl} {a e} (h : lend cs a = some e) : ∃ c, cs[e]? = some c ∧ c.isLi = false := by
  unfold lend wk at h
  cases q : walk cs (cs.length + 2) [] a with
  | none => rw [q] at h; cases h
  | some r => obtain ⟨s, e'⟩ := r; rw [q] at h; cases h; exact walk_end_is q
theorem lend_self {cs : List Cl} {a c} (h : cs[a]? = some c) (hc : c.isLi = false) : lend cs a = some a := by
  unfold lend wk; rw [walk_end h hc]; rfl
theorem lend_lt {cs : List Cl} {a e} (h : lend cs a = some e) : a < cs.length := by
  cases q : cs[a]? with
  | none => unfold lend wk at h; rw [walk_none q] at h; cases h
  | some c => exact (List.getElem?_eq_some_iff.mp q).1
theorem lend_walk {cs : List Cl} {f seen a s e} (h : walk cs f seen a = some (s, e)) (hf : f ≤ cs.length + 2) : lend cs a = some e := by
  obtain ⟨s', hs⟩ := walk_less h hf (seen' := []) (fun x hx => by cases hx)
  unfold lend wk; rw [hs]; rfl
theorem lend_passed {cs : List Cl} {a s e} (h : wk cs a = some (s, e)) : ∀ p ∈ s, lend cs p = some e := fun p hp => by
  rcases walk_passed h p hp with q | ⟨f', s', q1, q2⟩
  · cases q
  · exact lend_walk q2 q1

theorem nodup_bound : ∀ {n : Nat} {l : List Nat}, l.Nodup → (∀ x ∈ l, x < n) → l.length ≤ n
  | 0, l, _, h => by cases l with | nil => exact Nat.le_refl _ | cons x r => exact absurd (h x List.mem_cons_self) (Nat.not_lt_zero _)
  | n + 1, l, nd, h => by
    have h1 := nodup_bound (n := n) (l := l.filter (· ≠ n)) (nd.filter _) fun x hx => by
      obtain ⟨h1, h2⟩ := List.mem_filter.mp hx
      have := h x h1
      have h2' : x ≠ n := by simpa using h2
      lia
    have h2 : l.length ≤ (l.filter (· ≠ n)).length + 1 := by
      clear h1 h
      induction l with
      | nil => simp
      | cons x r ih =>
        rw [List.nodup_cons] at nd
        have ih := ih nd.2
        rw [List.filter_cons]
        by_cases z : x = n
        · subst z
          have : r.filter (· ≠ x) = r := List.filter_eq_self.mpr fun y hy => by
            have : y ≠ x := fun e => nd.1 (e ▸ hy)
            simpa using this
          rw [if_neg (by simp), this]; simp
        · simp [z]; simpa using ih
    lia

/-! ## Reached -/
noncomputable def Cl.succs : Cl → List Nat
  | .fn _ vs => vs.filterMap fun | .at a => some a | _ => none
  | .th _ vs => vs.filterMap fun | .at a => some a | _ => none
  | .pa b vs => b :: vs.filterMap fun | .at a => some a | _ => none
  | .da _ vs => vs.filterMap fun | .at a => some a | _ => none
  | .ho => []
  | .pl (.at a) => [a]
  | .pl _ => []
  | .li _ => []
inductive Rc (cs : List Cl) (roots : List Nat) : Nat → Prop
  | root {r} : r ∈ roots → Rc cs roots r
  | step {a e c b} : Rc cs roots a → lend cs a = some e → cs[e]? = some c → b ∈ c.succs → Rc cs roots b
end Mine

namespace Mine

noncomputable def mns (H : AH) (S : List Addr) : AH := fun a => if a ∈ S then none else H a
theorem mns_sub {H S} : Ext (mns H S) H := fun a o e => by (unfold mns at e; split at e <;> first | cases e | exact e)
theorem mns_some {H : AH} {S : List Addr} {a o} (e : mns H S a = some o) : a ∉ S ∧ H a = some o := by (unfold mns at e; split at e; (cases e); exact ⟨by assumption, e⟩)
theorem mns_at {H : AH} {S : List Addr} {a} (n : a ∉ S) : mns H S a = H a := if_neg n
set_option tactic.hygienic true in
theorem mns_in {H : AH} {S : List Addr} {a o} (n : a ∈ S) : mns (upd H a o) S = mns H S := by
  funext b; unfold mns
  split
  · rfl
  · rename_i h; exact upd_ne fun z => h (z ▸ n)
theorem mns_out {H : AH} {S : List Addr} {a o} (n : a ∉ S) : mns (upd H a o) S = upd (mns H S) a o := by
  funext b; unfold mns upd
  by_cases z : b = a
  · subst z; simp [n]
  · simp [z]
theorem Ext.mns {H H' : AH} {S} (x : Ext H H') : Ext (mns H S) (mns H' S) := fun a o e => by
  obtain ⟨n, e⟩ := mns_some e
  rw [mns_at n]; exact x a o e

theorem HpAt.ext {H H' : AH} {a dx dd es k} (x : HpAt H a dx dd es k) (y : Ext H H') : HpAt H' a dx dd es k := ⟨y _ _ x.i, y _ _ x.f, let ⟨ep, e⟩ := x.d; ⟨ep, y _ _ e⟩⟩
structure HeapAt (H : AH) (a : Addr) (cs : List Cl) : Prop where
  ex : ∃ dx dd as, HpAt H a dx dd (en (as.map .ref)) (as.length : Nat) ∧ All2 (CellAt H) as cs
theorem HeapAt.ext {H H' : AH} {a cs} (x : HeapAt H a cs) (y : Ext H H') : HeapAt H' a cs := let ⟨dx, dd, as, h1, h2⟩ := x.ex; ⟨dx, dd, as, h1.ext y, h2.mono fun _ _ z => z.ext y⟩

theorem log_small {a : Nat} (h : a < 2 ^ 40) : ((a : Int)).natAbs.log2 < 1920 := by
  rw [Int.natAbs_natCast]
  by_cases z : a = 0
  · subst z; decide
  · exact Nat.lt_trans ((Nat.log2_lt z).mpr h) (by decide)

section
variable {P : Params}
theorem kis_c {P : Params} (c : Cl) : isiOk (HD.kK P) c.cls = true := by cases c <;> first | exact kis_64 | exact kis_85 | exact kis_106 | exact kis_120 | exact kis_141 | exact kis_162 | exact kis_183
theorem kit_li {P : Params} (c : Cl) : kitOne (HD.kK P) (.ref c.cls) (.ref 141) = some c.isLi := by cases c <;> first | exact kit_64_141 | exact kit_85_141 | exact kit_106_141 | exact kit_120_141 | exact kit_141_141 | exact kit_162_141 | exact kit_183_141
end

/-- small addresses -/
structure Small (cs : List Cl) : Prop where
  len : cs.length ≤ 1000
  li : ∀ (a b : Nat), cs[a]? = some (Cl.li b) → b < 1000
  su : ∀ (a : Nat) (c : Cl) (b : Nat), cs[a]? = some c → b ∈ c.succs → b < 1000

section
variable {Z : Zs} {n : Nat} {nn : Bool} {H : AH} {Q : PV → AH → Prop} {E : AH → Prop}

theorem HeapAt.get {a : Addr} {cs : List Cl} {i : Nat} (GG : (gl Z).Ok) (x : HeapAt H a cs) (hi : i < 2 ^ 40) (q : ∀ b c, cs[i]? = some c → CellAt H b c → Q (.ref b) H) (e : cs[i]? = none → E H) :
    CallL (gl Z) (n + 3) true 215 [.ref a, .int (i : Nat)] H Q E := by
  obtain ⟨dx, dd, as, h1, h2⟩ := x.ex
  refine c_get GG h1 (log_small hi) (fun p hp => ?_) fun hp => ?_
  · rw [en_lookup, List.getElem?_map] at hp
    cases z : as[i]? with
    | none => rw [z] at hp; cases hp
    | some b =>
      rw [z] at hp; cases hp
      obtain ⟨c, h3, h4⟩ := h2.left z
      exact q b c h3 h4
  · rw [en_lookup, List.getElem?_map] at hp
    cases z : cs[i]? with
    | none => exact e z
    | some c =>
      obtain ⟨b, h3, _⟩ := h2.right z
      rw [h3] at hp; cases hp

theorem walk_fuel {cs : List Cl} {f : Nat} {seen : List Nat} (nd : seen.Nodup) (hs : ∀ x ∈ seen, x < cs.length) (hf : f + seen.length = cs.length + 2) : 2 ≤ f := by
  have := nodup_bound nd hs
  lia

theorem c_links_from {co cdx hp : Addr} {fs : List (Str × PV)} {cs : List Cl} {a : Nat} (GG : (gl Z).Ok) (hi : H co = some (.inst 305 cdx)) (hfs : H cdx = some (.attrs fs)) (hh : fs.lookup ("heap" : Str) = some (.ref hp))
    (old : HeapAt H hp cs) (sm : Small cs) (ha : a < 1000)
    (q : ∀ s e l, wk cs a = some (s, e) → H l = none → Q (.tup [.ref l, .int (e : Nat)]) (upd H l (.list (s.map fun x => .int (x : Nat)))))
    (er : wk cs a = none → ∀ H', Ext H H' → E H') : CallL (gl Z) (n + 5) true 269 [.ref co, .int (a : Nat)] H Q E := by
  refine CallL.intro GG (by rfl) (by kernel_rfl) ["self", "address"] (len2 fun w9 w9 => rfl) (by decide) (by decide) (by decide) rfl rfl rfl rfl fun V O => ?_
  refine EX.next (E1.assign (EV.list_ fun l hl => AT.local O rfl ⟨rfl, ?_⟩))
  have X1 : ∀ {s : List PV}, Ext H (upd H l (.list s)) := Ext.new hl
  -- the first cell
  obtain ⟨dx, dd, as, hp1, hp2⟩ := old.ex
  refine EX.next (E1.assign (EV.meth O GG (EV.fld O GG rfl rfl (X1 _ _ hi) (X1 _ _ hfs) kc_305 kf_305_heap hh ⟨hp, 232, dx, _, 215, rfl, X1 _ _ hp1.i, X1 _ _ hp1.f, kmt_232_get, rfl, EV.local_ O rfl rfl ?_⟩)))
  refine HeapAt.get (n := n + 1) GG (old.ext X1) (by lia) (fun b c hc cb => AT.local O rfl ⟨rfl, ?_⟩) fun hc => er (by unfold wk; exact walk_none hc) _ X1
  -- the loop
  refine EX.next (E1.while_ O (fun f m H' => Ex4 fun (seen : List Nat) (a' : Nat) (b : Addr) (c : Cl) => C12 (Lk m "self" (.ref co)) (Lk m "passed" (.ref l)) (Lk m "address" (.int (a' : Nat))) (Lk m "cell" (.ref b)) (H' = upd H l (.list (seen.map fun x => .int (x : Nat)))) (cs[a']? = some c) (CellAt H' b c) (a' < 1000) (walk cs f seen a' = wk cs a) (f + seen.length = cs.length + 2) seen.Nodup ((∀ x ∈ seen, x < cs.length))) (cs.length + 2)
    ⟨[], a, b, c, rfl, rfl, rfl, rfl, rfl, hc, cb, ha, rfl, rfl, List.nodup_nil, (fun x hx => by cases hx)⟩ ?_)
  rintro f m H' R u ⟨seen, a', b, c, m1, m2, m3, m4, rfl, hc, cb, ha', hw, hf, nd, hs⟩
  obtain ⟨bdx, bl, b1, b2, b3⟩ := cb.ex
  have hf2 := walk_fuel nd hs hf
  refine ET.plain (EV.bcall O GG rfl kb_isinstance rfl (.inr ⟨_, rfl⟩) (EV.local_ O rfl m4 (EV.global_ O GG rfl kn_Link (BCall.isi GG b1 b2 (kis_c c) (kit_li c) ?_))))
  refine ⟨fun hb => ?_, fun hb => u.bk ⟨rfl, ?_⟩⟩
  · obtain ⟨a2, rfl⟩ : ∃ a2, c = .li a2 := by
      clear b1 b2 b3 cb hc hw
      cases c with
      | li a2 => exact ⟨a2, rfl⟩
      | _ => cases hb
    obtain ⟨f', rfl⟩ : ∃ f', f = f' + 1 := ⟨f - 1, by lia⟩
    rw [walk_li hc] at hw
    have ha2 := sm.li _ _ hc
    -- if address in passed
    refine EX.ite (ET.cmp (EV.local_ O rfl m3 (EV.local_ O rfl m2 (.inl ⟨seen.map fun x => ((x : Nat) : Int), by rw [upd_self, List.map_map]; rfl, ?_⟩))))
    have hin : (seen.map fun x => ((x : Nat) : Int)).any (· == ((a' : Nat) : Int)) = decide (a' ∈ seen) := by
      rw [Bool.eq_iff_iff]; simp only [List.any_map, List.any_eq_true, decide_eq_true_eq, Function.comp, beq_iff_eq]
      constructor
      · rintro ⟨x, hx, e⟩; have : x = a' := by lia
        exact this ▸ hx
      · intro hx; exact ⟨a', hx, rfl⟩
    rw [hin]
    by_cases hm : a' ∈ seen
    · rw [if_pos hm] at hw
      rw [decide_eq_true hm]
      refine ⟨fun w9 => ?_, nofun⟩
      exact EX.cons (E1.raise_ O GG errOk rfl (by show 2 ≤ n + 4; lia) rfl kn_err (EV.str_ ⟨⟨_, rfl⟩, er hw.symm _ X1⟩))
    · rw [if_neg hm] at hw
      rw [decide_eq_false hm]
      refine ⟨nofun, fun w9 => Then.go ?_⟩
      have hlt : a' < cs.length := (List.getElem?_eq_some_iff.mp hc).1
      have hsz : seen.length ≤ 1000 := Nat.le_trans (nodup_bound nd hs) sm.len
      refine EX.next (E1.expr O (EV.append (EV.local_ O rfl m2 ⟨l, rfl, ⟨_, upd_self⟩, EV.local_ O rfl m3 ⟨_, upd_self, by rw [List.length_map, sizeLine_eq]; lia, rfl, ?_⟩⟩)))
      rw [upd_upd]
      have e2 : (seen.map fun x => PV.int ((x : Nat) : Int)) ++ [.int ((a' : Nat) : Int)] = (seen ++ [a']).map fun x => PV.int ((x : Nat) : Int) := by simp
      rw [e2]
      have lb : l ≠ b := fun z => by rw [← z, upd_self] at b1; cases b1
      have lbdx : l ≠ bdx := fun z => by rw [← z, upd_self] at b2; cases b2
      have cb2 : ∀ {s : List PV}, upd H l (.list s) b = some (.inst 141 bdx) ∧ upd H l (.list s) bdx = some (.attrs [("address", .int (a2 : Nat))]) := fun {s} => ⟨by rw [upd_ne lb.symm] at b1 ⊢; exact b1, by rw [upd_ne lbdx.symm] at b2 ⊢; exact b2⟩
      refine EX.next (E1.assign (EV.fld O GG rfl m4 cb2.1 cb2.2 kc_141 kf_141_address rfl (AT.local O rfl ⟨rfl, ?_⟩)))
      refine EX.next (E1.assign (EV.meth O GG (EV.fld O GG rfl (by rw [List.lookup_cons]; exact m1) (X1 _ _ hi) (X1 _ _ hfs) kc_305 kf_305_heap hh ⟨hp, 232, dx, _, 215, rfl, X1 _ _ hp1.i, X1 _ _ hp1.f, kmt_232_get, rfl, EV.local_ O rfl rfl ?_⟩)))
      refine HeapAt.get (n := n + 1) GG (old.ext X1) (by lia) (fun b' c' hc' cb' => AT.local O rfl ⟨rfl, EX.nil (u.nx ⟨f', by lia, seen ++ [a'], a2, b', c', ?_⟩)⟩) fun hc' => er (by rw [← hw]; exact walk_none hc') _ X1
      refine ⟨m1, m2, rfl, rfl, rfl, hc', cb', ha2, hw, by rw [List.length_append]; show f' + (seen.length + 1) = _; lia, ?_, ?_⟩
      · rw [List.nodup_append]
        exact ⟨nd, by simp, fun x hx y hy e => by rw [List.mem_singleton.mp hy] at e; exact hm (e ▸ hx)⟩
      · intro x hx
        rcases List.mem_append.mp hx with z | z
        · exact hs x z
        · rw [List.mem_singleton.mp z]; exact hlt
  · obtain ⟨f', rfl⟩ : ∃ f', f = f' + 1 := ⟨f - 1, by lia⟩
    rw [walk_end hc hb] at hw
    exact EX.ret (EV.tuple_ (EV.local_ O rfl m2 (EV.local_ O rfl m3 (q seen a' l hw.symm hl))))
end
end Mine

namespace Mine

/-! ## The collector's state -/
set_option genInjectivity false in
structure CoA where
  co : Addr
  hp : Addr
  cdx : Addr
  fr : Addr
  fdx : Addr
  fd : Addr
  md : Addr
  wl : Addr
noncomputable abbrev CoA.S (r : CoA) : List Addr := [r.fdx, r.fd, r.md, r.wl]
noncomputable def nats (l : List Nat) : List PV := l.map fun x => .int (x : Nat)
theorem nats_get {l : List Nat} {i : Nat} : (nats l)[i]? = l[i]?.map fun x => PV.int (x : Nat) := by unfold nats; rw [List.getElem?_map]
theorem nats_at {Go : PV → Prop} {l : List Nat} {k : Nat} {p : PV} (h : (nats l)[k]? = some p) (f : ∀ y : Nat, l[k]? = some y → Go (.int y)) : Go p := by
  obtain ⟨y, a, b⟩ := map_at h
  rw [b]; exact f y a
theorem pvs_at {Go : PV → Prop} {l : List Vl} {k : Nat} {p : PV} (h : (l.map Vl.pv)[k]? = some p) (f : ∀ v, l[k]? = some v → Go v.pv) : Go p := by
  obtain ⟨y, a, b⟩ := map_at h
  rw [b]; exact f y a
theorem upTo_go {Go : PV → Prop} {n k : Nat} {p : PV} (h : (upTo (n : Nat))[k]? = some p) (f : k < n → Go (.int (k : Nat))) : Go p := by
  obtain ⟨a, b⟩ := upTo_at h
  rw [b]; exact f a
theorem nats_len {l : List Nat} : (nats l).length = l.length := by unfold nats; rw [List.length_map]
theorem nats_snoc {l : List Nat} {e : Nat} : nats l ++ [.int (e : Nat)] = nats (l ++ [e]) := by simp [nats]

structure CoS (cs : List Cl) (r : CoA) (H : AH) (mv : List (Int × PV)) (fs : List Addr) (wt : List Nat) : Prop where
  i : H r.co = some (.inst 305 r.cdx)
  f : H r.cdx = some (.attrs [("heap", .ref r.hp), ("fresh", .ref r.fr), ("moved", .ref r.md), ("waiting", .ref r.wl)])
  fr : HpAt H r.fr r.fdx r.fd (en (fs.map .ref)) (wt.length : Nat)
  md : ∃ ep, H r.md = some (.dict mv ep)
  wl : H r.wl = some (.list (nats wt))
  old : HeapAt (mns H r.S) r.hp cs
  ne : r.fd ≠ r.md
  len : fs.length = wt.length
theorem CoS.ext {cs r H H' mv fs wt} (x : CoS cs r H mv fs wt) (y : Ext H H') : CoS cs r H' mv fs wt := ⟨y _ _ x.i, y _ _ x.f, x.fr.ext y, let ⟨ep, e⟩ := x.md; ⟨ep, y _ _ e⟩, y _ _ x.wl, x.old.ext y.mns, x.ne, x.len⟩
section
variable {cs : List Cl} {r : CoA} {H : AH} {mv : List (Int × PV)} {fs : List Addr} {wt : List Nat}
theorem CoS.kinds (x : CoS cs r H mv fs wt) : (∃ o, H r.fdx = some (.attrs o)) ∧ (∃ o e, H r.fd = some (.dict o e)) ∧ (∃ o e, H r.md = some (.dict o e)) ∧ ∃ o, H r.wl = some (.list o) := ⟨⟨_, x.fr.f⟩, (let ⟨ep, e⟩ := x.fr.d; ⟨_, ep, e⟩), (let ⟨ep, e⟩ := x.md; ⟨_, ep, e⟩), ⟨_, x.wl⟩⟩
theorem CoS.nes (x : CoS cs r H mv fs wt) : r.fdx ≠ r.fd ∧ r.fdx ≠ r.md ∧ r.fdx ≠ r.wl ∧ r.fd ≠ r.wl ∧ r.md ≠ r.wl := by
  obtain ⟨⟨o1, h1⟩, ⟨o2, e2, h2⟩, ⟨o3, e3, h3⟩, ⟨o4, h4⟩⟩ := x.kinds
  refine ⟨fun z => ?_, fun z => ?_, fun z => ?_, fun z => ?_, fun z => ?_⟩
  · rw [z, h2] at h1; cases h1
  · rw [z, h3] at h1; cases h1
  · rw [z, h4] at h1; cases h1
  · rw [z, h4] at h2; cases h2
  · rw [z, h4] at h3; cases h3
theorem CoS.coS (x : CoS cs r H mv fs wt) : r.co ∉ r.S ∧ r.cdx ∉ r.S ∧ r.fr ∉ r.S := by
  obtain ⟨⟨o1, h1⟩, ⟨o2, e2, h2⟩, ⟨o3, e3, h3⟩, ⟨o4, h4⟩⟩ := x.kinds
  have i := x.i; have f := x.f; have fi := x.fr.i
  have ff := x.fr.f
  refine ⟨?_, ?_, ?_⟩
  · simp only [CoA.S, List.mem_cons, List.not_mem_nil, or_false, not_or]
    exact ⟨(fun z => by rw [z, h1] at i; cases i), (fun z => by rw [z, h2] at i; cases i), (fun z => by rw [z, h3] at i; cases i), fun z => by rw [z, h4] at i; cases i⟩
  · simp only [CoA.S, List.mem_cons, List.not_mem_nil, or_false, not_or]
    exact ⟨fun z => by rw [z, ff] at f; exact absurd (Option.some.inj f) (by intro q; injection q with q; injection q with q _; injection q with q _; exact absurd q (by decide)), (fun z => by rw [z, h2] at f; cases f), (fun z => by rw [z, h3] at f; cases f), fun z => by rw [z, h4] at f; cases f⟩
  · simp only [CoA.S, List.mem_cons, List.not_mem_nil, or_false, not_or]
    exact ⟨(fun z => by rw [z, h1] at fi; cases fi), (fun z => by rw [z, h2] at fi; cases fi), (fun z => by rw [z, h3] at fi; cases fi), fun z => by rw [z, h4] at fi; cases fi⟩
/-- a store into the dict of the moved -/
theorem CoS.setMd {ep' : Nat} {mv' : List (Int × PV)} (x : CoS cs r H mv fs wt) : CoS cs r (upd H r.md (.dict mv' ep')) mv' fs wt := by
  obtain ⟨n1, n2, n3, n4, n5⟩ := x.nes
  obtain ⟨c1, c2, c3⟩ := x.coS
  have mem : r.md ∈ r.S := by simp [CoA.S]
  have out : ∀ a, a ∉ r.S → a ≠ r.md := fun a h z => h (z ▸ mem)
  refine ⟨(upd_ne (out _ c1)).trans x.i, (upd_ne (out _ c2)).trans x.f, ⟨(upd_ne (out _ c3)).trans x.fr.i, (upd_ne n2).trans x.fr.f, let ⟨ep, e⟩ := x.fr.d; ⟨ep, (upd_ne x.ne).trans e⟩⟩, ⟨ep', upd_self⟩, (upd_ne n5.symm).trans x.wl, ?_, x.ne, x.len⟩
  rw [mns_in mem]; exact x.old
/-- a new cell of the fresh heap, noted -/
theorem CoS.grow {b : Addr} {e : Nat} {ep1 ep2 : Nat} {mv' : List (Int × PV)} (x : CoS cs r H mv fs wt) :
    CoS cs r (upd (upd (upd (upd H r.fdx (.attrs [("cells", .ref r.fd), ("next", .int ((wt.length : Nat) + 1))])) r.fd (.dict (putI (en (fs.map .ref)) (wt.length : Nat) (.ref b)) ep1)) r.md (.dict mv' ep2)) r.wl (.list (nats wt ++ [.int (e : Nat)]))) mv' (fs ++ [b]) (wt ++ [e]) := by
  obtain ⟨n1, n2, n3, n4, n5⟩ := x.nes
  obtain ⟨c1, c2, c3⟩ := x.coS
  have m1 : r.fdx ∈ r.S := by simp [CoA.S]
  have m2 : r.fd ∈ r.S := by simp [CoA.S]
  have m3 : r.md ∈ r.S := by simp [CoA.S]
  have m4 : r.wl ∈ r.S := by simp [CoA.S]
  have out : ∀ {a s}, a ∉ r.S → s ∈ r.S → a ≠ s := fun {a s} h h2 z => h (z ▸ h2)
  have four : ∀ a, a ∉ r.S → ∀ o1 o2 o3 o4, upd (upd (upd (upd H r.fdx o1) r.fd o2) r.md o3) r.wl o4 a = H a := fun a h o1 o2 o3 o4 => by
    rw [upd_ne (out h m4), upd_ne (out h m3), upd_ne (out h m2), upd_ne (out h m1)]
  have ek : putI (en (fs.map PV.ref)) (wt.length : Nat) (.ref b) = en ((fs ++ [b]).map .ref) := by
    have := en_put_new (ps := fs.map PV.ref) (p := .ref b)
    rw [List.length_map, x.len] at this
    rw [this, List.map_append]; rfl
  refine ⟨(four _ c1 _ _ _ _).trans x.i, (four _ c2 _ _ _ _).trans x.f, ⟨(four _ c3 _ _ _ _).trans x.fr.i, ?_, ⟨ep1, ?_⟩⟩, ⟨ep2, ?_⟩, ?_, ?_, x.ne, ?_⟩
  · rw [upd_ne n3, upd_ne n2, upd_ne n1, upd_self, List.length_append]; rfl
  · rw [upd_ne n4, upd_ne x.ne, upd_self, ek]
  · rw [upd_ne n5, upd_self]
  · rw [upd_self, nats_snoc]
  · rw [mns_in m4, mns_in m3, mns_in m2, mns_in m1]; exact x.old
  · rw [List.length_append, List.length_append, x.len]; rfl
end

theorem nodup_of_get {α : Type} : ∀ {l : List α}, (∀ (i j : Nat) (e : α), l[i]? = some e → l[j]? = some e → i = j) → l.Nodup
  | [], _ => List.nodup_nil
  | x :: r, h => by
    rw [List.nodup_cons]
    refine ⟨fun hm => ?_, nodup_of_get fun i j e h1 h2 => ?_⟩
    · obtain ⟨i, hi⟩ := List.mem_iff_getElem?.mp hm
      have := h 0 (i + 1) x rfl (by simpa using hi)
      lia
    · have := h (i + 1) (j + 1) e (by simpa using h1) (by simpa using h2)
      lia
theorem nodup_map {α β : Type} {f : α → β} : ∀ {l : List α}, l.Nodup → (∀ a ∈ l, ∀ b ∈ l, f a = f b → a = b) → (l.map f).Nodup
  | [], _, _ => List.nodup_nil
  | x :: r, nd, h => by
    rw [List.nodup_cons] at nd
    rw [List.map_cons, List.nodup_cons]
    refine ⟨fun hm => ?_, nodup_map nd.2 fun a ha b hb => h a (List.mem_cons_of_mem _ ha) b (List.mem_cons_of_mem _ hb)⟩
    obtain ⟨y, hy, e⟩ := List.mem_map.mp hm
    have := h x List.mem_cons_self y (List.mem_cons_of_mem _ hy) e.symm
    exact nd.1 (this ▸ hy)
/-- what is moved, and what waits -/
structure Iv (cs : List Cl) (roots : List Nat) (mv : List (Int × PV)) (wt : List Nat) : Prop where
  mvI : ∀ k p, mv.lookup k = some p → Ex3 fun (a i e : Nat) => C4 (k = (a : Int)) (p = .int (i : Int)) (wt[i]? = some e) (lend cs a = some e)
  wtM : ∀ i e : Nat, wt[i]? = some e → mv.lookup (e : Int) = some (.int (i : Nat)) ∧ lend cs e = some e
  rc : ∀ i e : Nat, wt[i]? = some e → ∃ a, Rc cs roots a ∧ lend cs a = some e
noncomputable def Gr (mv mv' : List (Int × PV)) : Prop := ∀ k p, mv.lookup k = some p → mv'.lookup k = some p
theorem Gr.refl {mv} : Gr mv mv := fun _ _ e => e
theorem Gr.trans {a b c} (x : Gr a b) (y : Gr b c) : Gr a c := fun k p e => y k p (x k p e)
section
variable {cs : List Cl} {roots : List Nat} {mv : List (Int × PV)} {wt : List Nat}
theorem Iv.uniq (x : Iv cs roots mv wt) {i j e : Nat} (h1 : wt[i]? = some e) (h2 : wt[j]? = some e) : i = j := by
  have a := (x.wtM i e h1).1
  rw [(x.wtM j e h2).1] at a
  injection a with a; injection a with a; lia
theorem Iv.nodup (x : Iv cs roots mv wt) : wt.Nodup := by
  exact nodup_of_get fun i j e h1 h2 => x.uniq h1 h2
theorem Iv.wlen (x : Iv cs roots mv wt) : wt.length ≤ cs.length := nodup_bound x.nodup fun e he => by
  obtain ⟨i, hi⟩ := List.mem_iff_getElem?.mp he
  exact lend_lt (x.wtM i e hi).2
theorem Iv.mlen (x : Iv cs roots mv wt) (nd : (mv.map (·.1)).Nodup) : mv.length ≤ cs.length := by
  have key : ∀ k ∈ mv.map (·.1), ∃ a : Nat, k = (a : Int) ∧ a < cs.length := fun k hk => by
    obtain ⟨⟨k', p⟩, h1, rfl⟩ := List.mem_map.mp hk
    cases q : mv.lookup k' with
    | none =>
      exfalso
      have : ∀ l : List (Int × PV), (k', p) ∈ l → l.lookup k' ≠ none := by
        intro l
        induction l with
        | nil => intro h; cases h
        | cons y l ih =>
          intro h e
          rw [List.lookup_cons] at e
          rcases List.mem_cons.mp h with z | z
          · rw [← z] at e; simp at e
          · split at e
            · cases e
            · exact ih z e
      exact this mv h1 q
    | some p' =>
      obtain ⟨a, i, e, h2, h3, h4, h5⟩ := x.mvI k' p' q
      exact ⟨a, h2, lend_lt h5⟩
  have nd2 : ((mv.map (·.1)).map Int.toNat).Nodup := by
    refine nodup_map nd ?_
    intro a ha b hb e
    obtain ⟨a', rfl, _⟩ := key a ha
    obtain ⟨b', rfl, _⟩ := key b hb
    simp at e; rw [e]
  have := nodup_bound (n := cs.length) nd2 fun y hy => by
    obtain ⟨k, hk, rfl⟩ := List.mem_map.mp hy
    obtain ⟨a, rfl, h⟩ := key k hk
    simpa using h
  simpa using this
set_option tactic.hygienic true in
/-- a link noted -/
theorem Iv.link (x : Iv cs roots mv wt) {i e p : Nat} (hi : wt[i]? = some e) (hp : lend cs p = some e) : Iv cs roots (putI mv (p : Int) (.int (i : Nat))) wt ∧ Gr mv (putI mv (p : Int) (.int (i : Nat))) := by
  have g : Gr mv (putI mv (p : Int) (.int (i : Nat))) := fun k q h => by
    rw [putI_lookup]
    split
    · rename_i z; subst z
      obtain ⟨a, i', e', h1, h2, h3, h4⟩ := x.mvI _ _ h
      have : a = p := by lia
      subst this
      rw [hp] at h4; cases h4
      rw [h2, x.uniq hi h3]
    · exact h
  refine ⟨⟨fun k q h => ?_, fun i' e' h => ⟨g _ _ (x.wtM i' e' h).1, (x.wtM i' e' h).2⟩, x.rc⟩, g⟩
  rw [putI_lookup] at h
  split at h
  · rename_i z; cases h; exact ⟨p, i, e, z, rfl, hi, hp⟩
  · exact x.mvI k q h
set_option tactic.hygienic true in
/-- a new end -/
theorem Iv.new (x : Iv cs roots mv wt) {e a : Nat} (hn : mv.lookup (e : Int) = none) (ha : Rc cs roots a) (hl : lend cs a = some e) : Iv cs roots (putI mv (e : Int) (.int (wt.length : Nat))) (wt ++ [e]) ∧ Gr mv (putI mv (e : Int) (.int (wt.length : Nat))) ∧ (wt ++ [e])[wt.length]? = some e := by
  have hw : (wt ++ [e])[wt.length]? = some e := by simp
  have old : ∀ {i v : Nat}, wt[i]? = some v → (wt ++ [e])[i]? = some v := fun {i v} h => by
    have : i < wt.length := (List.getElem?_eq_some_iff.mp h).1
    rw [List.getElem?_append_left this]; exact h
  have g : Gr mv (putI mv (e : Int) (.int (wt.length : Nat))) := fun k q h => by
    rw [putI_lookup, if_neg fun z => by rw [z, hn] at h; cases h]; exact h
  obtain ⟨c, hc, hcl⟩ := lend_end hl
  have split : ∀ {i v : Nat}, (wt ++ [e])[i]? = some v → wt[i]? = some v ∨ (i = wt.length ∧ v = e) := fun {i v} h => by
    by_cases z : i < wt.length
    · rw [List.getElem?_append_left z] at h; exact .inl h
    · rw [List.getElem?_append_right (by lia)] at h
      have : i - wt.length = 0 := by
        cases q : i - wt.length with
        | zero => rfl
        | succ k => rw [q] at h; simp at h
      rw [this] at h; simp at h
      exact .inr ⟨by lia, h.symm⟩
  refine ⟨⟨fun k q h => ?_, fun i v h => ?_, fun i v h => ?_⟩, g, hw⟩
  · rw [putI_lookup] at h
    split at h
    · rename_i z; cases h; exact ⟨e, wt.length, e, z, rfl, hw, lend_self hc hcl⟩
    · obtain ⟨a', i, v, h1, h2, h3, h4⟩ := x.mvI k q h; exact ⟨a', i, v, h1, h2, old h3, h4⟩
  · rcases split h with h | ⟨rfl, rfl⟩
    · exact ⟨g _ _ (x.wtM i v h).1, (x.wtM i v h).2⟩
    · exact ⟨by rw [putI_lookup, if_pos rfl], lend_self hc hcl⟩
  · rcases split h with h | ⟨rfl, rfl⟩
    · exact x.rc i v h
    · exact ⟨a, ha, hl⟩
end
end Mine

namespace Mine
theorem EX.mid {X : FX} {m : Loc} {H : AH} {E : Loc → AH → Prop} {st : Stmt} {rest : List Stmt} {Q : PF → Loc → AH → Prop} {J : Loc → AH → Prop} (x : E1 X st m H (fun f m1 H1 => f = .next ∧ J m1 H1) E) (y : ∀ m1 H1, J m1 H1 → EX X rest m1 H1 Q E) : EX X (st :: rest) m H Q E :=
  EX.next (x.mono fun p m' H' ⟨a, b⟩ => ⟨a, y _ _ b⟩)
theorem EX.midG {X : FX} {m : Loc} {H : AH} {E : Loc → AH → Prop} {st : Stmt} {rest : List Stmt} {Q : PF → Loc → AH → Prop} {J : Loc → AH → Prop} (x : ∀ G : Loc → AH → Prop, (∀ {m1 H1}, J m1 H1 → G m1 H1) → E1 X st m H (fun f m1 H1 => f = .next ∧ G m1 H1) E) (y : ∀ m1 H1, J m1 H1 → EX X rest m1 H1 Q E) : EX X (st :: rest) m H Q E :=
  EX.next ((x J id).mono fun p m' H' ⟨a, b⟩ => ⟨a, y _ _ b⟩)
/-- a store at a name that is read no more -/
theorem Lk.skip {m : Loc} {x y : Str} {p q : PV} (h : Lk m x p) (n : x ≠ y) : Lk ((y, q) :: m) x p := by
  have n' : (x == y) = false := by simpa using n
  unfold Lk; rw [List.lookup_cons, n']; exact h

theorem walk_seen {cs : List Cl} : ∀ {f seen a s e}, walk cs f seen a = some (s, e) → ∀ x ∈ seen, x ∈ s
  | 0, _, _, _, _, h, _, _ => by cases h
  | f + 1, seen, a, s, e, h, x, hx => by
    obtain ⟨f1, hf1, h⟩ := walk_cases h
    cases hf1
    rcases h with ⟨c, h1, h2, h3⟩ | ⟨b, h1, h2, h3⟩
    · cases h3; exact hx
    · exact walk_seen h3 x (List.mem_append_left _ hx)
theorem wk_mem {cs : List Cl} {a s e} (h : wk cs a = some (s, e)) : a = e ∨ a ∈ s := by
  unfold wk at h
  obtain ⟨f1, hf1, h⟩ := walk_cases h
  rcases h with ⟨c, h1, h2, h3⟩ | ⟨b, h1, h2, h3⟩
  · cases h3; exact .inl rfl
  · exact .inr (walk_seen h3 a (by simp))
theorem lend_wk {cs : List Cl} {a s e} (h : wk cs a = some (s, e)) : lend cs a = some e := by unfold lend; rw [h]; rfl
theorem lend_none {cs : List Cl} {a} (h : wk cs a = none) : lend cs a = none := by unfold lend; rw [h]; rfl

section
variable {Z : Zs} {n : Nat} {H : AH} {Q : PV → AH → Prop} {E : AH → Prop}
variable {cs : List Cl} {roots : List Nat} {r : CoA} {mv : List (Int × PV)} {fs : List Addr} {wt : List Nat}

theorem c_move {a : Nat} (GG : (gl Z).Ok) (x : CoS cs r H mv fs wt) (v : Iv cs roots mv wt) (sm : Small cs) (ha : a < 1000) (hr : Rc cs roots a)
    (q : ∀ H' mv' fs' wt' (i e : Nat), CoS cs r H' mv' fs' wt' → Iv cs roots mv' wt' → Ext (mns H r.S) (mns H' r.S) → Gr mv mv' → fs <+: fs' → wt <+: wt' → wt'[i]? = some e → lend cs a = some e → mv'.lookup (a : Int) = some (.int (i : Nat)) → Q (.int (i : Nat)) H')
    (er : lend cs a = none → ∀ H', Ext (mns H r.S) H' → E H') : CallL (gl Z) (n + 7) true 276 [.ref r.co, .int (a : Nat)] H Q E := by
  refine CallL.intro GG (by rfl) (by kernel_rfl) ["self", "address"] (len2 fun w9 w9 => rfl) (by decide) (by decide) (by decide) rfl rfl rfl rfl fun V O => ?_
  obtain ⟨ep, hmd⟩ := x.md
  refine EX.ite (ET.cmp (EV.local_ O rfl rfl (EV.fld O GG rfl rfl x.i x.f kc_305 kf_305_moved rfl (.inr ⟨mv, ep, hmd, ?_⟩))))
  cases hl : mv.lookup (a : Int) with
  | some p =>
    refine ⟨fun w9 => ?_, nofun⟩
    obtain ⟨a', i, e, h1, rfl, h3, h4⟩ := v.mvI _ _ hl
    obtain rfl : a = a' := by lia
    exact EX.ret (EV.sub (EV.fld O GG rfl rfl x.i x.f kc_305 kf_305_moved rfl (EV.local_ O rfl rfl (.inr ⟨mv, ep, _, hmd, hl, Then.out (q H mv fs wt i e x v (Ext.refl _) Gr.refl (List.prefix_refl _) (List.prefix_refl _) h3 h4 hl)⟩))))
  | none =>
  refine ⟨nofun, fun w9 => Then.go ?_⟩
  refine EX.next (E1.assign (EV.meth O GG (EV.local_ O rfl rfl ⟨r.co, 305, r.cdx, _, 269, rfl, x.i, x.f, kmt_305_links_from, rfl, EV.local_ O rfl rfl ?_⟩)))
  refine c_links_from (n := n + 1) GG x.i x.f rfl (x.old.ext mns_sub) sm ha (fun s e l hw hl2 => AT.tuple rfl (AT.local O rfl (AT.local O rfl ⟨rfl, ?_⟩))) (fun hw H' hx => er (lend_none hw) H' (mns_sub.trans hx))
  have X1 : Ext H (upd H l (.list (nats s))) := Ext.new hl2
  have x1 := x.ext X1
  have ex1 := X1.mns (S := r.S)
  have hl1 : upd H l (.list (nats s)) l = some (.list (nats s)) := upd_self
  have hle := lend_wk hw
  have hnl : l ∉ r.S := fun hm => by
    simp only [CoA.S, List.mem_cons, List.not_mem_nil, or_false] at hm
    obtain ⟨⟨o1, h1⟩, ⟨o2, e2, h2⟩, ⟨o3, e3, h3⟩, ⟨o4, h4⟩⟩ := x.kinds
    rcases hm with rfl | rfl | rfl | rfl
    · rw [h1] at hl2; cases hl2
    · rw [h2] at hl2; cases hl2
    · rw [h3] at hl2; cases hl2
    · rw [h4] at hl2; cases hl2
  change EX _ _ _ (upd H l (.list (nats s))) _ _
  generalize hH1 : upd H l (.list (nats s)) = H1 at x1 ex1 hl1 X1 ⊢
  obtain ⟨ep1, hmd1⟩ := x1.md
  -- the end is moved if it is met first
  refine EX.midG (J := fun m2 H2 => Ex3 fun mv2 fs2 wt2 => Ex1 fun (i : Nat) => C11 (Lk m2 "self" (.ref r.co)) (Lk m2 "passed" (.ref l)) (Lk m2 "end" (.int (e : Nat))) (CoS cs r H2 mv2 fs2 wt2) (Iv cs roots mv2 wt2) (Ext (mns H r.S) (mns H2 r.S)) (Gr mv mv2) (fs <+: fs2) (wt <+: wt2) (wt2[i]? = some e) (mns H2 r.S l = some (.list (nats s))))
    (fun G up => E1.ite (ET.cmp (EV.local_ O rfl rfl (EV.fld O GG rfl rfl x1.i x1.f kc_305 kf_305_moved rfl (.inr ⟨mv, ep1, hmd1, ?_⟩))))) ?_
  · cases hn : mv.lookup (e : Int) with
    | some p =>
      refine ⟨nofun, fun w9 => EX.nil ⟨rfl, up ⟨mv, fs, wt, ?_⟩⟩⟩
      obtain ⟨a', i, e', h1, rfl, h3, h4⟩ := v.mvI _ _ hn
      obtain rfl : e = a' := by lia
      obtain ⟨c, hc, hcl⟩ := lend_end hle
      rw [lend_self hc hcl] at h4; cases h4
      exact ⟨i, rfl, rfl, rfl, x1, v, ex1, Gr.refl, List.prefix_refl _, List.prefix_refl _, h3, by rw [mns_at hnl]; exact hl1⟩
    | none =>
      refine ⟨fun w9 => ?_, nofun⟩
      obtain ⟨dx, dd, as, hp1, hp2⟩ := (x1.old.ext mns_sub).ex
      have helt : e < 1000 := Nat.lt_of_lt_of_le (let ⟨c, hc, _⟩ := lend_end hle; (List.getElem?_eq_some_iff.mp hc).1) sm.len
      refine EX.next (Mine.E1.assign (EV.meth O GG (EV.fld O GG rfl rfl x1.i x1.f kc_305 kf_305_heap rfl ⟨r.hp, 232, dx, _, 215, rfl, hp1.i, hp1.f, kmt_232_get, rfl, EV.local_ O rfl rfl ?_⟩)))
      refine HeapAt.get (n := n + 3) GG (x1.old.ext mns_sub) (by lia) (fun b c hc cb => AT.local O rfl ⟨rfl, ?_⟩) fun hc => by
        obtain ⟨c, hc2, _⟩ := lend_end hle
        rw [hc] at hc2; cases hc2
      have hwl := v.wlen
      have hfl : (en (fs.map PV.ref)).length ≤ sizeLine := by
        have := sm.len
        rw [enF_len, List.length_map, x.len, sizeLine_eq]; lia
      refine EX.next (Mine.E1.assignSub (EV.meth O GG (EV.fld O GG rfl rfl x1.i x1.f kc_305 kf_305_fresh rfl ⟨r.fr, 232, r.fdx, _, 208, rfl, x1.fr.i, x1.fr.f, kmt_232_new, rfl, EV.local_ O rfl rfl ?_⟩)))
      refine c_new (n := n + 5) GG x1.fr hfl fun ep2 => ?_
      obtain ⟨n1, n2, n3, n4, n5⟩ := x1.nes
      obtain ⟨c1, c2, c3⟩ := x1.coS
      have out : ∀ {a s}, a ∉ r.S → s ∈ r.S → a ≠ s := fun {a s} h h2 z => h (z ▸ h2)
      have m1 : r.fdx ∈ r.S := by simp [CoA.S]
      have m2 : r.fd ∈ r.S := by simp [CoA.S]
      have m3 : r.md ∈ r.S := by simp [CoA.S]
      have m4 : r.wl ∈ r.S := by simp [CoA.S]
      have two : ∀ a, a ∉ r.S → ∀ o1 o2, upd (upd H1 r.fdx o1) r.fd o2 a = H1 a := fun a h o1 o2 => by rw [upd_ne (out h m2), upd_ne (out h m1)]
      refine EV.fld O GG rfl rfl ((two _ c1 _ _).trans x1.i) ((two _ c2 _ _).trans x1.f) kc_305 kf_305_moved rfl (EV.local_ O rfl rfl (.inl ⟨mv, ep1, ?_, fun nd => ?_, fun ep3 => ⟨rfl, ?_⟩⟩))
      · rw [upd_ne x1.ne.symm, upd_ne n2.symm]; exact hmd1
      · have := v.mlen nd; have := sm.len; rw [sizeLine_eq]; lia
      have three : ∀ a, a ∉ r.S → ∀ o1 o2 o3, upd (upd (upd H1 r.fdx o1) r.fd o2) r.md o3 a = H1 a := fun a h o1 o2 o3 => by rw [upd_ne (out h m3)]; exact two a h o1 o2
      have hwl3 : ∀ o1 o2 o3, upd (upd (upd H1 r.fdx o1) r.fd o2) r.md o3 r.wl = some (.list (nats wt)) := fun o1 o2 o3 => by rw [upd_ne n5.symm, upd_ne n4.symm, upd_ne n3.symm]; exact x1.wl
      refine EX.next (Mine.E1.expr O (EV.append (EV.fld O GG rfl rfl ((three _ c1 _ _ _).trans x1.i) ((three _ c2 _ _ _).trans x1.f) kc_305 kf_305_waiting rfl ⟨r.wl, rfl, ⟨_, hwl3 _ _ _⟩, EV.local_ O rfl rfl ⟨_, hwl3 _ _ _, ?_, rfl, EX.nil ⟨rfl, ?_⟩⟩⟩)))
      · have := sm.len; rw [nats_len, sizeLine_eq]; lia
      obtain ⟨v2, g2, w2⟩ := v.new hn hr hle
      refine up ⟨putI mv (e : Int) (.int (wt.length : Nat)), fs ++ [b], wt ++ [e], wt.length, rfl, rfl, rfl, x1.grow, v2, ?_, g2, List.prefix_append _ _, List.prefix_append _ _, w2, ?_⟩
      · rw [mns_in m4, mns_in m3, mns_in m2, mns_in m1]; exact ex1
      · rw [mns_in m4, mns_in m3, mns_in m2, mns_in m1, mns_at hnl]; exact hl1
  rintro m2 H2 ⟨mv2, fs2, wt2, i, k1, k2, k3, x2, v2, e2, g2, p1, p2, hi, hl22⟩
  obtain ⟨ep2, hmd2⟩ := x2.md
  refine EX.midG (J := fun m3 H3 => Ex1 fun mv3 => C7 (Lk m3 "self" (.ref r.co)) (Lk m3 "end" (.int (e : Nat))) (CoS cs r H3 mv3 fs2 wt2) (Iv cs roots mv3 wt2) (Ext (mns H r.S) (mns H3 r.S)) (Gr mv2 mv3) ((∀ y ∈ s, mv3.lookup (y : Int) = some (.int (i : Nat)))))
    (fun G up => E1.for_ O (EV.local_ O rfl k2 ⟨nats s, some (l, .list (nats s)), IterOf.list (mns_sub _ _ hl22), fun k m3 H3 => Ex1 fun mv3 => C8 (Lk m3 "self" (.ref r.co)) (Lk m3 "end" (.int (e : Nat))) (CoS cs r H3 mv3 fs2 wt2) (Iv cs roots mv3 wt2) (Ext (mns H r.S) (mns H3 r.S)) (Gr mv2 mv3) (mns H3 r.S l = some (.list (nats s))) ((∀ j y, j < k → s[j]? = some y → mv3.lookup (y : Int) = some (.int (i : Nat)))),
      ⟨mv2, k1, k3, x2, v2, e2, Gr.refl, hl22, fun j y h _ => absurd h (Nat.not_lt_zero _)⟩, (fun k m3 H3 ⟨_, _, _, _, _, _, _, h, _⟩ => mns_sub _ _ h), ?_, ?_⟩)) ?_
  · rintro it o k p m3 H3 R u O3 hp ⟨mv3, j1, j3, x3, v3, e3, g3, hl3, hd3⟩
    apply nats_at hp; intro y hy
    obtain ⟨ep3, hmd3⟩ := x3.md
    have he3 := (v3.wtM i e hi).1
    have hye : lend cs y = some e := lend_passed hw y (List.mem_iff_getElem?.mpr ⟨k, hy⟩)
    obtain ⟨v4, g4⟩ := v3.link hi hye
    refine AT.local O3 rfl (EX.next (Mine.E1.assignSub (EV.sub (EV.fld O3 GG rfl (j1.skip (by decide)) x3.i x3.f kc_305 kf_305_moved rfl (EV.local_ O3 rfl (j3.skip (by decide)) (.inr ⟨mv3, ep3, _, hmd3, he3, ?_⟩))))))
    refine EV.fld O3 GG rfl (j1.skip (by decide)) x3.i x3.f kc_305 kf_305_moved rfl (EV.local_ O3 rfl rfl (.inl ⟨mv3, ep3, hmd3, fun nd => ?_, fun ep4 => ⟨rfl, EX.nil (u.nx ⟨putI mv3 (y : Int) (.int (i : Nat)), j1.skip (by decide), j3.skip (by decide), x3.setMd, v4, ?_, g3.trans g4, ?_, ?_⟩)⟩⟩))
    · have := v3.mlen nd; have := sm.len; rw [sizeLine_eq]; lia
    · rw [mns_in (by simp [CoA.S])]; exact e3
    · rw [mns_in (by simp [CoA.S])]; exact hl3
    · intro j y' hj hy'
      by_cases z : j = k
      · subst z; rw [hy] at hy'; cases hy'; rw [putI_lookup, if_pos rfl]
      · exact g4 _ _ (hd3 j y' (by lia) hy')
  · rintro m3 H3 ⟨mv3, j1, j3, x3, v3, e3, g3, hl3, hd3⟩
    refine ⟨rfl, up ⟨mv3, j1, j3, x3, v3, e3, g3, fun y hy => ?_⟩⟩
    obtain ⟨j, hj⟩ := List.mem_iff_getElem?.mp hy
    exact hd3 j y (by rw [nats_len]; exact (List.getElem?_eq_some_iff.mp hj).1) hj
  rintro m3 H3 ⟨mv3, j1, j3, x3, v3, e3, g3, hd3⟩
  obtain ⟨ep3, hmd3⟩ := x3.md
  have he3 := (v3.wtM i e hi).1
  refine EX.ret (EV.sub (EV.fld O GG rfl j1 x3.i x3.f kc_305 kf_305_moved rfl (EV.local_ O rfl j3 (.inr ⟨mv3, ep3, _, hmd3, he3, ?_⟩))))
  refine q H3 mv3 fs2 wt2 i e x3 v3 e3 (g2.trans g3) p1 p2 hi hle ?_
  rcases wk_mem hw with rfl | hm
  · exact he3
  · exact hd3 a hm
end
end Mine

namespace Mine

/-- from one state of the collector to a later one -/
structure St (cs : List Cl) (roots : List Nat) (r : CoA) (H : AH) (mv : List (Int × PV)) (fs : List Addr) (wt : List Nat) (H' : AH) (mv' : List (Int × PV)) (fs' : List Addr) (wt' : List Nat) : Prop where
  x : CoS cs r H' mv' fs' wt'
  v : Iv cs roots mv' wt'
  e : Ext (mns H r.S) (mns H' r.S)
  g : Gr mv mv'
  p1 : fs <+: fs'
  p2 : wt <+: wt'
section
variable {cs : List Cl} {roots : List Nat} {r : CoA} {H H1 H2 : AH} {mv mv1 mv2 : List (Int × PV)} {fs fs1 fs2 : List Addr} {wt wt1 wt2 : List Nat}
theorem St.refl (x : CoS cs r H mv fs wt) (v : Iv cs roots mv wt) : St cs roots r H mv fs wt H mv fs wt := ⟨x, v, Ext.refl _, Gr.refl, List.prefix_refl _, List.prefix_refl _⟩
theorem St.trans (a : St cs roots r H mv fs wt H1 mv1 fs1 wt1) (b : St cs roots r H1 mv1 fs1 wt1 H2 mv2 fs2 wt2) : St cs roots r H mv fs wt H2 mv2 fs2 wt2 := ⟨b.x, b.v, a.e.trans b.e, a.g.trans b.g, a.p1.trans b.p1, a.p2.trans b.p2⟩
/-- a new object of no account -/
theorem St.setD {D : Addr} {o : AO} (x : CoS cs r H mv fs wt) (a : St cs roots r H mv fs wt H1 mv1 fs1 wt1) (hD : H D = none) : St cs roots r H mv fs wt (upd H1 D o) mv1 fs1 wt1 := by
  have ne : ∀ {b ob}, H b = some ob → b ≠ D := fun h z => by rw [z, hD] at h; cases h
  obtain ⟨⟨o1, k1⟩, ⟨o2, e2, k2⟩, ⟨o3, e3, k3⟩, ⟨o4, k4⟩⟩ := x.kinds
  have ex : Ext (mns H r.S) (mns (upd H1 D o) r.S) := fun b ob h => by
    obtain ⟨h1, h2⟩ := mns_some h
    have := a.e b ob h
    obtain ⟨_, h3⟩ := mns_some this
    rw [mns_at h1, upd_ne (ne h2)]; exact h3
  refine ⟨⟨(upd_ne (ne x.i)).trans a.x.i, (upd_ne (ne x.f)).trans a.x.f, ⟨(upd_ne (ne x.fr.i)).trans a.x.fr.i, (upd_ne (ne k1)).trans a.x.fr.f, ?_⟩, ?_, (upd_ne (ne k4)).trans a.x.wl, x.old.ext ex, x.ne, a.x.len⟩, a.v, ex, a.g, a.p1, a.p2⟩
  · obtain ⟨ep, e⟩ := a.x.fr.d; exact ⟨ep, (upd_ne (ne k2)).trans e⟩
  · obtain ⟨ep, e⟩ := a.x.md; exact ⟨ep, (upd_ne (ne k3)).trans e⟩
theorem St.ext {H0 : AH} (a : St cs roots r H mv fs wt H1 mv1 fs1 wt1) (y : Ext H0 H) : St cs roots r H0 mv fs wt H1 mv1 fs1 wt1 := ⟨a.x, a.v, y.mns.trans a.e, a.g, a.p1, a.p2⟩
theorem CoS.notS {l : Addr} (x : CoS cs r H mv fs wt) (hl : H l = none) : l ∉ r.S := fun hm => by
  simp only [CoA.S, List.mem_cons, List.not_mem_nil, or_false] at hm
  obtain ⟨⟨o1, h1⟩, ⟨o2, e2, h2⟩, ⟨o3, e3, h3⟩, ⟨o4, h4⟩⟩ := x.kinds
  rcases hm with rfl | rfl | rfl | rfl
  · rw [h1] at hl; cases hl
  · rw [h2] at hl; cases hl
  · rw [h3] at hl; cases hl
  · rw [h4] at hl; cases hl
end

/-- a value as it is in the new heap -/
inductive CpV (mv : List (Int × PV)) : Vl → Vl → Prop
  | int (i) : CpV mv (.int i) (.int i)
  | char (s) : CpV mv (.char s) (.char s)
  | at {a j : Nat} : mv.lookup (a : Int) = some (.int (j : Nat)) → CpV mv (.at a) (.at j)
theorem CpV.gr {mv mv' v v'} (x : CpV mv v v') (g : Gr mv mv') : CpV mv' v v' := by cases x with | int => exact .int _ | char => exact .char _ | «at» h => exact .at (g _ _ h)

section
variable {Z : Zs} {n : Nat} {H : AH} {Q : PV → AH → Prop} {E : AH → Prop}
variable {cs : List Cl} {roots : List Nat} {r : CoA} {mv : List (Int × PV)} {fs : List Addr} {wt : List Nat}

theorem c_move_value {v : Vl} (GG : (gl Z).Ok) (x : CoS cs r H mv fs wt) (iv : Iv cs roots mv wt) (sm : Small cs) (hv : ∀ b, v = .at b → b < 1000 ∧ Rc cs roots b)
    (q : ∀ H' mv' fs' wt' v', St cs roots r H mv fs wt H' mv' fs' wt' → CpV mv' v v' → Q v'.pv H')
    (er : (∃ b, v = .at b ∧ lend cs b = none) → ∀ H', Ext (mns H r.S) H' → E H') : CallL (gl Z) (n + 8) true 283 [.ref r.co, v.pv] H Q E := by
  refine CallL.intro GG (by rfl) (by kernel_rfl) ["self", "value"] (len2 fun w9 w9 => rfl) (by decide) (by decide) (by decide) rfl rfl rfl rfl fun V O => ?_
  cases v with
  | int i =>
    refine EX.ite (ET.cmp (EV.sub (EV.local_ O rfl rfl (EV.int_ ⟨0, _, rfl, by decide, rfl, EV.str_ ?_⟩))))
    exact ⟨nofun, fun w9 => Then.go (EX.ret (EV.local_ O rfl rfl (q H mv fs wt (.int i) (St.refl x iv) (.int i))))⟩
  | char s =>
    refine EX.ite (ET.cmp (EV.sub (EV.local_ O rfl rfl (EV.int_ ⟨0, _, rfl, by decide, rfl, EV.str_ ?_⟩))))
    exact ⟨nofun, fun w9 => Then.go (EX.ret (EV.local_ O rfl rfl (q H mv fs wt (.char s) (St.refl x iv) (.char s))))⟩
  | «at» b =>
    obtain ⟨hb, hr⟩ := hv b rfl
    refine EX.ite (ET.cmp (EV.sub (EV.local_ O rfl rfl (EV.int_ ⟨0, _, rfl, by decide, rfl, EV.str_ ?_⟩))))
    refine ⟨fun w9 => ?_, nofun⟩
    refine EX.ret (EV.tuple_ (EV.str_ (EV.meth O GG (EV.local_ O rfl rfl ⟨r.co, 305, r.cdx, _, 276, rfl, x.i, x.f, kmt_305_move, rfl, EV.sub (EV.local_ O rfl rfl (EV.int_ ⟨1, _, rfl, by decide, rfl, ?_⟩))⟩))))
    exact c_move (n := n) GG x iv sm hb hr (fun H' mv' fs' wt' i e x' v' e' g' p1 p2 hi hle hm => (Then.out (q H' mv' fs' wt' (.at i) ⟨x', v', e', g', p1, p2⟩ (.at hm)))) fun hl H' hx => er ⟨b, rfl, hl⟩ H' hx

theorem take_snoc {α : Type} {l : List α} {k : Nat} {a : α} (h : l[k]? = some a) : l.take (k + 1) = l.take k ++ [a] := by
  rw [List.take_add_one, h]; rfl

theorem c_move_values {vl : Addr} {vs : List Vl} (GG : (gl Z).Ok) (x : CoS cs r H mv fs wt) (iv : Iv cs roots mv wt) (sm : Small cs) (hvl : mns H r.S vl = some (.list (vs.map Vl.pv))) (hz : vs.length ≤ 1000) (hv : ∀ b, .at b ∈ vs → b < 1000 ∧ Rc cs roots b)
    (q : ∀ H' mv' fs' wt' vs' l, St cs roots r H mv fs wt H' mv' fs' wt' → All2 (CpV mv') vs vs' → mns H' r.S l = some (.list (vs'.map Vl.pv)) → H l = none → Q (.ref l) H')
    (er : (∃ b, .at b ∈ vs ∧ lend cs b = none) → ∀ H', Ext (mns H r.S) H' → E H') : CallL (gl Z) (n + 9) true 288 [.ref r.co, .ref vl] H Q E := by
  refine CallL.introC GG (by rfl) (by kernel_rfl) ["self", "values"] (len2 fun w9 w9 => rfl)
    (fun n x hx => by simp only [List.mem_cons, List.not_mem_nil, or_false] at hx; rcases hx with rfl | rfl <;> first | exact .inl rfl | exact .inr ⟨rfl, rfl⟩) (by decide)
    (fun n => by show (["self"] : List Str).Nodup; decide) (fun n x hx => by have hx : x ∈ [(("self" : Str), n)] := hx; rw [List.mem_singleton.mp hx]; rfl) rfl rfl rfl rfl fun V O hcn => ?_
  have hc0 : H (V.L + 1) = none := hcn ("self", V.L + 1) (by exact List.mem_cons_self)
  change EX _ _ _ (upd H (V.L + 1) (.cell (some (.ref r.co)))) _ _
  have X1 : Ext H (upd H (V.L + 1) (.cell (some (.ref r.co)))) := Ext.new hc0
  have hcS := x.notS hc0
  have hcell : mns (upd H (V.L + 1) (.cell (some (.ref r.co)))) r.S (V.L + 1) = some (.cell (some (.ref r.co))) := by rw [mns_at hcS]; exact upd_self
  have x1 := x.ext X1
  have hvl1 := X1.mns _ _ hvl
  generalize upd H (V.L + 1) (.cell (some (.ref r.co))) = H1 at X1 hcell x1 hvl1 ⊢
  refine EX.ret (EV.comp [("self", V.L + 1)] O (EV.local_ O rfl rfl ⟨vs.map Vl.pv, some (vl, .list (vs.map Vl.pv)), IterOf.list (mns_sub _ _ hvl1), by rw [List.length_map, sizeLine_eq]; lia, fun D hD => ⟨fun k acc H2 => Ex4 fun mv' fs' wt' vs' => C4 (St cs roots r H1 mv fs wt H2 mv' fs' wt') (All2 (CpV mv') (vs.take k) vs') (acc = vs'.map Vl.pv) (mns H2 r.S D = some (.list acc)),
    ?_, ?_, ?_, ?_⟩⟩))
  · have hDS := x1.notS hD
    exact ⟨mv, fs, wt, [], (St.refl x1 iv).setD x1 hD, by simpa using All2.nil, rfl, by rw [mns_at hDS]; exact upd_self⟩
  · rintro k acc H2 ⟨mv', fs', wt', vs', st, a2, rfl, hDD⟩
    exact ⟨mns_sub _ _ (st.e _ _ hvl1), mns_sub _ _ hDD⟩
  · rintro C it o k p acc H2 O2 hp ⟨mv', fs', wt', vs', st, a2, rfl, hDD⟩
    apply pvs_at hp; intro v hvk
    have hmem : v ∈ vs := List.mem_iff_getElem?.mpr ⟨k, hvk⟩
    refine AT.local O2 rfl ⟨fun w9 => ?_, nofun⟩
    refine EV.meth O2 GG (EV.cell_ O2 (.inl rfl) rfl (mns_sub _ _ (st.e _ _ hcell)) ⟨r.co, 305, r.cdx, _, 283, rfl, st.x.i, st.x.f, kmt_305_move_value, rfl, EV.local_ O2 rfl rfl ?_⟩)
    refine c_move_value (n := n) GG st.x st.v sm (fun b hb => hv b (hb ▸ hmem)) (fun H5 mv5 fs5 wt5 v' st5 cp => ?_) fun ⟨b, hb, hl⟩ H5 hx => er ⟨b, hb ▸ hmem, hl⟩ H5 (X1.mns.trans (st.e.trans hx))
    have hD5 := st5.e _ _ hDD
    have stt := (st.trans st5).setD (o := .list (vs'.map Vl.pv ++ [v'.pv])) x1 hD
    refine ⟨mns_sub _ _ hD5, mv5, fs5, wt5, vs' ++ [v'], stt, ?_, by simp, ?_⟩
    · rw [take_snoc hvk]; exact (a2.mono fun _ _ z => z.gr st5.g).snoc cp
    · rw [mns_at (mns_some hD5).1]; exact upd_self
  · rintro acc H2 ⟨mv', fs', wt', vs', st, a2, rfl, hDD⟩
    rw [List.length_map, List.take_length] at a2
    refine q H2 mv' fs' wt' vs' D (st.ext X1) a2 hDD ?_
    cases z : H D with
    | none => rfl
    | some o => rw [X1 _ _ z] at hD; cases hD
end
end Mine

namespace Mine

/-- a cell as it is in the new heap -/
inductive CpC (mv : List (Int × PV)) : Cl → Cl → Prop
  | fn (c) {vs vs'} : All2 (CpV mv) vs vs' → CpC mv (.fn c vs) (.fn c vs')
  | th (c) {vs vs'} : All2 (CpV mv) vs vs' → CpC mv (.th c vs) (.th c vs')
  | pa {a j : Nat} {vs vs'} : mv.lookup (a : Int) = some (.int (j : Nat)) → All2 (CpV mv) vs vs' → CpC mv (.pa a vs) (.pa j vs')
  | da (c) {vs vs'} : All2 (CpV mv) vs vs' → CpC mv (.da c vs) (.da c vs')
  | ho : CpC mv .ho .ho
  | pl {v v'} : CpV mv v v' → CpC mv (.pl v) (.pl v')
theorem CpC.gr {mv mv' c c'} (x : CpC mv c c') (g : Gr mv mv') : CpC mv' c c' := by
  cases x with
  | fn c h => exact .fn c (h.mono fun _ _ z => z.gr g)
  | th c h => exact .th c (h.mono fun _ _ z => z.gr g)
  | pa h1 h => exact .pa (g _ _ h1) (h.mono fun _ _ z => z.gr g)
  | da c h => exact .da c (h.mono fun _ _ z => z.gr g)
  | ho => exact .ho
  | pl h => exact .pl (h.gr g)

theorem St.was {cs : List Cl} {roots : List Nat} {r : CoA} {H H1 : AH} {mv mv1 : List (Int × PV)} {fs fs1 : List Addr} {wt wt1 : List Nat} {a : Addr} (st : St cs roots r H mv fs wt H1 mv1 fs1 wt1) (h : H1 a = none) : H a = none := by
  cases q : H a with
  | none => rfl
  | some o =>
    exfalso
    by_cases hm : a ∈ r.S
    · exact st.x.notS h hm
    · have := mns_sub _ _ (st.e a o (by rw [mns_at hm]; exact q))
      rw [h] at this; cases this
/-- what stands in H and not in H0 -/
noncomputable def less (H0 H : AH) : AH := fun a => match H0 a with | some _ => none | none => H a
theorem less_at {H0 H : AH} {a} (n : H0 a = none) : less H0 H a = H a := by unfold less; rw [n]
theorem less_some {H0 H : AH} {a o} (e : less H0 H a = some o) : H0 a = none ∧ H a = some o := by
  unfold less at e; split at e
  · cases e
  · exact ⟨by assumption, e⟩
theorem less_sub {H0 H : AH} : Ext (less H0 H) H := fun a o e => (less_some e).2
theorem less_ext {H0 H H' : AH} (x : Ext H H') : Ext (less H0 H) (less H0 H') := fun a o e => by
  obtain ⟨n, e⟩ := less_some e
  rw [less_at n]; exact x a o e
theorem none_of_ext {H0 H : AH} {S : List Addr} {a} (x : Ext H0 (mns H S)) (n : H a = none) : H0 a = none := by
  cases q : H0 a with
  | none => rfl
  | some o => have := mns_sub _ _ (x a o q); rw [n] at this; cases this
/-- a cell made -/
theorem St.cell {cs : List Cl} {roots : List Nat} {r : CoA} {H0 H H1 : AH} {mv mv1 : List (Int × PV)} {fs fs1 : List Addr} {wt wt1 : List Nat} {a dx l : Addr} {c : Cl} (x : CoS cs r H mv fs wt) (h0 : Ext H0 (mns H r.S)) (st : St cs roots r H mv fs wt H1 mv1 fs1 wt1)
    (ha : H1 a = none) (hdx : H1 dx = none) (hne : a ≠ dx) (hl : c.hasL = true → mns H1 r.S l = some (.list (c.vals.map Vl.pv)) ∧ H0 l = none) :
    St cs roots r H mv fs wt (mkObj H1 a dx c.cls (c.flds l)) mv1 fs1 wt1 ∧ CellAt (less H0 (mns (mkObj H1 a dx c.cls (c.flds l)) r.S)) a c := by
  have h1 := h0.trans st.e
  refine ⟨(st.setD x (st.was hdx)).setD x (st.was ha), ⟨dx, l, ?_, ?_, fun q => ?_⟩⟩
  · rw [less_at (none_of_ext h1 ha), mns_at (st.x.notS ha)]; exact upd_self
  · rw [less_at (none_of_ext h1 hdx), mns_at (st.x.notS hdx)]; exact (upd_ne hne.symm).trans upd_self
  · obtain ⟨h1, h2⟩ := mns_some (hl q).1
    rw [less_at (hl q).2, mns_at h1]
    exact (upd_ne (ne_of_none' ha h2)).trans ((upd_ne (ne_of_none' hdx h2)).trans h2)

section
variable {Z : Zs} {n : Nat} {H : AH} {Q : PV → AH → Prop} {E : AH → Prop}
variable {cs : List Cl} {roots : List Nat} {r : CoA} {mv : List (Int × PV)} {fs : List Addr} {wt : List Nat}

theorem c_copied {H0 : AH} {b : Addr} {c : Cl} (GG : (gl Z).Ok) (x : CoS cs r H mv fs wt) (iv : Iv cs roots mv wt) (sm : Small cs) (h0 : Ext H0 (mns H r.S)) (cb : CellAt (mns H r.S) b c) (hc : c.isLi = false) (hz : c.vals.length ≤ 1000) (hv : ∀ a, a ∈ c.succs → a < 1000 ∧ Rc cs roots a)
    (q : ∀ H' mv' fs' wt' c' b', St cs roots r H mv fs wt H' mv' fs' wt' → CpC mv' c c' → CellAt (less H0 (mns H' r.S)) b' c' → Q (.ref b') H')
    (er : (∃ a, a ∈ c.succs ∧ lend cs a = none) → ∀ H', Ext (mns H r.S) H' → E H') : CallL (gl Z) (n + 11) true 295 [.ref r.co, .ref b] H Q E := by
  refine CallL.intro GG (by rfl) (by kernel_rfl) ["self", "cell"] (len2 fun w9 w9 => rfl) (by decide) (by decide) (by decide) rfl rfl rfl rfl fun V O => ?_
  obtain ⟨bdx, l, b1, b2, b3⟩ := cb.ex
  have b1 := mns_sub _ _ b1
  have b2 := mns_sub _ _ b2
  cases c with
  | fn k vs =>
    refine EX.ite (ET.plain (EV.bcall O GG rfl kb_isinstance rfl (.inr ⟨_, rfl⟩) (EV.local_ O rfl rfl (EV.global_ O GG rfl kn_Function (BCall.isi GG b1 b2 kis_64 kit_64_64 ⟨fun w9 => ?_, nofun⟩)))))
    refine EX.ret (EV.call O GG (EV.global_ O GG rfl kn_Function ⟨64, rfl, kk_64, EV.fld O GG rfl rfl b1 b2 kc_64 kf_64_code rfl (EV.meth O GG (EV.local_ O rfl rfl ⟨r.co, 305, r.cdx, _, 288, rfl, x.i, x.f, kmt_305_move_values, rfl, EV.fld O GG rfl rfl b1 b2 kc_64 kf_64_captured rfl ?_⟩))⟩))
    refine c_move_values (n := n + 1) GG x iv sm (b3 rfl) hz (fun a ha => hv a (by simpa [Cl.succs] using ⟨_, ha, rfl⟩)) (fun H' mv' fs' wt' vs' l' st a2 hl' hl0 => ?_) fun ⟨a, ha, hl⟩ H' hx => er ⟨a, by simpa [Cl.succs] using ⟨_, ha, rfl⟩, hl⟩ H' hx
    refine c_Function (n := n + 8) GG fun a dx ha hdx hne => Then.out ?_
    obtain ⟨st2, ca⟩ := St.cell (c := .fn k vs') (l := l') x h0 st ha hdx hne fun w9 => ⟨hl', none_of_ext h0 hl0⟩
    exact q _ mv' fs' wt' (.fn k vs') a st2 (.fn k a2) ca
  | th k vs =>
    refine EX.ite (ET.plain (EV.bcall O GG rfl kb_isinstance rfl (.inr ⟨_, rfl⟩) (EV.local_ O rfl rfl (EV.global_ O GG rfl kn_Function (BCall.isi GG b1 b2 kis_106 kit_106_64 ⟨nofun, fun w9 => Then.go ?_⟩)))))
    refine EX.ite (ET.plain (EV.bcall O GG rfl kb_isinstance rfl (.inr ⟨_, rfl⟩) (EV.local_ O rfl rfl (EV.global_ O GG rfl kn_Thunk (BCall.isi GG b1 b2 kis_106 kit_106_106 ⟨fun w9 => ?_, nofun⟩)))))
    refine EX.ret (EV.call O GG (EV.global_ O GG rfl kn_Thunk ⟨106, rfl, kk_106, EV.fld O GG rfl rfl b1 b2 kc_106 kf_106_code rfl (EV.meth O GG (EV.local_ O rfl rfl ⟨r.co, 305, r.cdx, _, 288, rfl, x.i, x.f, kmt_305_move_values, rfl, EV.fld O GG rfl rfl b1 b2 kc_106 kf_106_captured rfl ?_⟩))⟩))
    refine c_move_values (n := n + 1) GG x iv sm (b3 rfl) hz (fun a ha => hv a (by simpa [Cl.succs] using ⟨_, ha, rfl⟩)) (fun H' mv' fs' wt' vs' l' st a2 hl' hl0 => ?_) fun ⟨a, ha, hl⟩ H' hx => er ⟨a, by simpa [Cl.succs] using ⟨_, ha, rfl⟩, hl⟩ H' hx
    refine c_Thunk (n := n + 8) GG fun a dx ha hdx hne => Then.out ?_
    obtain ⟨st2, ca⟩ := St.cell (c := .th k vs') (l := l') x h0 st ha hdx hne fun w9 => ⟨hl', none_of_ext h0 hl0⟩
    exact q _ mv' fs' wt' (.th k vs') a st2 (.th k a2) ca
  | pa a vs =>
    refine EX.ite (ET.plain (EV.bcall O GG rfl kb_isinstance rfl (.inr ⟨_, rfl⟩) (EV.local_ O rfl rfl (EV.global_ O GG rfl kn_Function (BCall.isi GG b1 b2 kis_85 kit_85_64 ⟨nofun, fun w9 => Then.go ?_⟩)))))
    refine EX.ite (ET.plain (EV.bcall O GG rfl kb_isinstance rfl (.inr ⟨_, rfl⟩) (EV.local_ O rfl rfl (EV.global_ O GG rfl kn_Thunk (BCall.isi GG b1 b2 kis_85 kit_85_106 ⟨nofun, fun w9 => Then.go ?_⟩)))))
    refine EX.ite (ET.plain (EV.bcall O GG rfl kb_isinstance rfl (.inr ⟨_, rfl⟩) (EV.local_ O rfl rfl (EV.global_ O GG rfl kn_Partial (BCall.isi GG b1 b2 kis_85 kit_85_85 ⟨fun w9 => ?_, nofun⟩)))))
    obtain ⟨ha1, ha2⟩ := hv a (by simp [Cl.succs])
    refine EX.ret (EV.call O GG (EV.global_ O GG rfl kn_Partial ⟨85, rfl, kk_85, EV.meth O GG (EV.local_ O rfl rfl ⟨r.co, 305, r.cdx, _, 276, rfl, x.i, x.f, kmt_305_move, rfl, EV.fld O GG rfl rfl b1 b2 kc_85 kf_85_address rfl ?_⟩)⟩))
    refine c_move (n := n + 3) GG x iv sm ha1 ha2 (fun H1 mv1 fs1 wt1 i e x1 v1 e1 g1 p1 p2 hi hle hm => ?_) fun hl H' hx => er ⟨a, by simp [Cl.succs], hl⟩ H' hx
    have st1 : St cs roots r H mv fs wt H1 mv1 fs1 wt1 := ⟨x1, v1, e1, g1, p1, p2⟩
    have b1' := mns_sub _ _ (e1 _ _ (cb.ex.choose_spec.choose_spec.1))
    obtain ⟨bdx', l2, c1, c2, c3⟩ := (cb.ext e1).ex
    have c1 := mns_sub _ _ c1
    have c2 := mns_sub _ _ c2
    refine EV.meth O GG (EV.local_ O rfl rfl ⟨r.co, 305, r.cdx, _, 288, rfl, x1.i, x1.f, kmt_305_move_values, rfl, EV.fld O GG rfl rfl c1 c2 kc_85 kf_85_values rfl ?_⟩)
    refine c_move_values (n := n + 1) GG x1 v1 sm (c3 rfl) hz (fun a' ha => hv a' (by simp only [Cl.succs, List.mem_cons]; exact .inr (by simpa using ⟨_, ha, rfl⟩))) (fun H' mv' fs' wt' vs' l' st a2 hl' hl0 => ?_) fun ⟨a', ha, hl⟩ H' hx => er ⟨a', by simp only [Cl.succs, List.mem_cons]; exact .inr (by simpa using ⟨_, ha, rfl⟩), hl⟩ H' (e1.trans hx)
    refine c_Partial (n := n + 8) GG fun a' dx ha hdx hne => Then.out ?_
    obtain ⟨st2, ca⟩ := St.cell (c := .pa i vs') (l := l') x h0 (st1.trans st) ha hdx hne fun w9 => ⟨hl', none_of_ext (h0.trans st1.e) hl0⟩
    exact q _ mv' fs' wt' (.pa i vs') a' st2 (.pa (st.g _ _ hm) a2) ca
  | da k vs =>
    refine EX.ite (ET.plain (EV.bcall O GG rfl kb_isinstance rfl (.inr ⟨_, rfl⟩) (EV.local_ O rfl rfl (EV.global_ O GG rfl kn_Function (BCall.isi GG b1 b2 kis_183 kit_183_64 ⟨nofun, fun w9 => Then.go ?_⟩)))))
    refine EX.ite (ET.plain (EV.bcall O GG rfl kb_isinstance rfl (.inr ⟨_, rfl⟩) (EV.local_ O rfl rfl (EV.global_ O GG rfl kn_Thunk (BCall.isi GG b1 b2 kis_183 kit_183_106 ⟨nofun, fun w9 => Then.go ?_⟩)))))
    refine EX.ite (ET.plain (EV.bcall O GG rfl kb_isinstance rfl (.inr ⟨_, rfl⟩) (EV.local_ O rfl rfl (EV.global_ O GG rfl kn_Partial (BCall.isi GG b1 b2 kis_183 kit_183_85 ⟨nofun, fun w9 => Then.go ?_⟩)))))
    refine EX.ite (ET.plain (EV.bcall O GG rfl kb_isinstance rfl (.inr ⟨_, rfl⟩) (EV.local_ O rfl rfl (EV.global_ O GG rfl kn_Data (BCall.isi GG b1 b2 kis_183 kit_183_183 ⟨fun w9 => ?_, nofun⟩)))))
    refine EX.ret (EV.call O GG (EV.global_ O GG rfl kn_Data ⟨183, rfl, kk_183, EV.fld O GG rfl rfl b1 b2 kc_183 kf_183_con rfl (EV.meth O GG (EV.local_ O rfl rfl ⟨r.co, 305, r.cdx, _, 288, rfl, x.i, x.f, kmt_305_move_values, rfl, EV.fld O GG rfl rfl b1 b2 kc_183 kf_183_values rfl ?_⟩))⟩))
    refine c_move_values (n := n + 1) GG x iv sm (b3 rfl) hz (fun a ha => hv a (by simpa [Cl.succs] using ⟨_, ha, rfl⟩)) (fun H' mv' fs' wt' vs' l' st a2 hl' hl0 => ?_) fun ⟨a, ha, hl⟩ H' hx => er ⟨a, by simpa [Cl.succs] using ⟨_, ha, rfl⟩, hl⟩ H' hx
    refine c_Data (n := n + 8) GG fun a dx ha hdx hne => Then.out ?_
    obtain ⟨st2, ca⟩ := St.cell (c := .da k vs') (l := l') x h0 st ha hdx hne fun w9 => ⟨hl', none_of_ext h0 hl0⟩
    exact q _ mv' fs' wt' (.da k vs') a st2 (.da k a2) ca
  | pl v =>
    refine EX.ite (ET.plain (EV.bcall O GG rfl kb_isinstance rfl (.inr ⟨_, rfl⟩) (EV.local_ O rfl rfl (EV.global_ O GG rfl kn_Function (BCall.isi GG b1 b2 kis_162 kit_162_64 ⟨nofun, fun w9 => Then.go ?_⟩)))))
    refine EX.ite (ET.plain (EV.bcall O GG rfl kb_isinstance rfl (.inr ⟨_, rfl⟩) (EV.local_ O rfl rfl (EV.global_ O GG rfl kn_Thunk (BCall.isi GG b1 b2 kis_162 kit_162_106 ⟨nofun, fun w9 => Then.go ?_⟩)))))
    refine EX.ite (ET.plain (EV.bcall O GG rfl kb_isinstance rfl (.inr ⟨_, rfl⟩) (EV.local_ O rfl rfl (EV.global_ O GG rfl kn_Partial (BCall.isi GG b1 b2 kis_162 kit_162_85 ⟨nofun, fun w9 => Then.go ?_⟩)))))
    refine EX.ite (ET.plain (EV.bcall O GG rfl kb_isinstance rfl (.inr ⟨_, rfl⟩) (EV.local_ O rfl rfl (EV.global_ O GG rfl kn_Data (BCall.isi GG b1 b2 kis_162 kit_162_183 ⟨nofun, fun w9 => Then.go ?_⟩)))))
    refine EX.ite (ET.plain (EV.bcall O GG rfl kb_isinstance rfl (.inr ⟨_, rfl⟩) (EV.local_ O rfl rfl (EV.global_ O GG rfl kn_Plain (BCall.isi GG b1 b2 kis_162 kit_162_162 ⟨fun w9 => ?_, nofun⟩)))))
    refine EX.ret (EV.call O GG (EV.global_ O GG rfl kn_Plain ⟨162, rfl, kk_162, EV.meth O GG (EV.local_ O rfl rfl ⟨r.co, 305, r.cdx, _, 283, rfl, x.i, x.f, kmt_305_move_value, rfl, EV.fld O GG rfl rfl b1 b2 kc_162 kf_162_value rfl ?_⟩)⟩))
    refine c_move_value (n := n + 2) GG x iv sm (fun a ha => hv a (by rw [ha]; simp [Cl.succs])) (fun H' mv' fs' wt' v' st cp => ?_) fun ⟨a, ha, hl⟩ H' hx => er ⟨a, by rw [ha]; simp [Cl.succs], hl⟩ H' hx
    refine c_Plain (n := n + 8) GG fun a' dx ha hdx hne => Then.out ?_
    obtain ⟨st2, ca⟩ := St.cell (c := .pl v') (l := 0) x h0 st ha hdx hne nofun
    exact q _ mv' fs' wt' (.pl v') a' st2 (.pl cp) ca
  | ho =>
    refine EX.ite (ET.plain (EV.bcall O GG rfl kb_isinstance rfl (.inr ⟨_, rfl⟩) (EV.local_ O rfl rfl (EV.global_ O GG rfl kn_Function (BCall.isi GG b1 b2 kis_120 kit_120_64 ⟨nofun, fun w9 => Then.go ?_⟩)))))
    refine EX.ite (ET.plain (EV.bcall O GG rfl kb_isinstance rfl (.inr ⟨_, rfl⟩) (EV.local_ O rfl rfl (EV.global_ O GG rfl kn_Thunk (BCall.isi GG b1 b2 kis_120 kit_120_106 ⟨nofun, fun w9 => Then.go ?_⟩)))))
    refine EX.ite (ET.plain (EV.bcall O GG rfl kb_isinstance rfl (.inr ⟨_, rfl⟩) (EV.local_ O rfl rfl (EV.global_ O GG rfl kn_Partial (BCall.isi GG b1 b2 kis_120 kit_120_85 ⟨nofun, fun w9 => Then.go ?_⟩)))))
    refine EX.ite (ET.plain (EV.bcall O GG rfl kb_isinstance rfl (.inr ⟨_, rfl⟩) (EV.local_ O rfl rfl (EV.global_ O GG rfl kn_Data (BCall.isi GG b1 b2 kis_120 kit_120_183 ⟨nofun, fun w9 => Then.go ?_⟩)))))
    refine EX.ite (ET.plain (EV.bcall O GG rfl kb_isinstance rfl (.inr ⟨_, rfl⟩) (EV.local_ O rfl rfl (EV.global_ O GG rfl kn_Plain (BCall.isi GG b1 b2 kis_120 kit_120_162 ⟨nofun, fun w9 => Then.go ?_⟩)))))
    refine EX.ite (ET.plain (EV.bcall O GG rfl kb_isinstance rfl (.inr ⟨_, rfl⟩) (EV.local_ O rfl rfl (EV.global_ O GG rfl kn_Hole (BCall.isi GG b1 b2 kis_120 kit_120_120 ⟨fun w9 => ?_, nofun⟩)))))
    refine EX.ret (EV.call O GG (EV.global_ O GG rfl kn_Hole ⟨120, rfl, kk_120, ?_⟩))
    refine c_Hole GG fun a' dx ha hdx hne => Then.out ?_
    obtain ⟨st2, ca⟩ := St.cell (c := .ho) (l := 0) x h0 (St.refl x iv) ha hdx hne nofun
    exact q _ mv fs wt .ho a' st2 .ho ca
  | li a => cases hc
end
end Mine

namespace Mine

theorem E1.addInt {X : FX} {m : Loc} {H : AH} {E : Loc → AH → Prop} {x : Str} {px pos : Pos} {value : Expr} {i j : Int} {Q : PF → Loc → AH → Prop} (O : X.Ok) (hk : X.env.kindOf x = some .local) (hx : m.lookup x = some (.int i))
    (hv : EV X value m H (fun p m1 H1 => p = .int j ∧ Q .next ((x, .int (i + j)) :: m1) H1) E) : E1 X (.AugAssign (.Name x px) .Add value pos) m H Q E := fun h tk R => by
  obtain ⟨mm, a1, _, a2⟩ := R.r.real X.env.locals _ FX.full_self
  obtain ⟨v, e, r⟩ := a2 x _ hx
  obtain ⟨t, rfl⟩ := r.inv_int
  refine wpAny_AugAssign_Name (wpAny_loadName_local O.kind hk a1 e (hv.run R (.refl _) (.refl _) fun h1 tk1 w p m1 H1 R1 P1 P1' K1 V1 q1 => ?_))
  obtain ⟨rfl, q⟩ := q1
  obtain ⟨u, rfl⟩ := V1.inv_int
  refine wpAny_iadd_int (store_local (tk := tk1 + 1) (p := .int (i + j)) O R1 hk VR.int fun h2 tk2 R2 P2 => ?_)
  exact OKP.at (Q := fun h' f m' H' => ∃ p, FR h' f p ∧ Q p m' H') R2 (P1'.trans P2) K1 ⟨.next, trivial, q⟩

section
variable {cs : List Cl} {r : CoA} {H : AH} {mv : List (Int × PV)} {fs : List Addr} {wt : List Nat}
/-- a cell put in the place of one -/
theorem CoS.setFd {ep' : Nat} {i : Nat} {b : Addr} (x : CoS cs r H mv fs wt) (hi : i < fs.length) : CoS cs r (upd H r.fd (.dict (putI (en (fs.map .ref)) (i : Int) (.ref b)) ep')) mv (fs.set i b) wt := by
  obtain ⟨n1, n2, n3, n4, n5⟩ := x.nes
  obtain ⟨c1, c2, c3⟩ := x.coS
  have mem : r.fd ∈ r.S := by simp [CoA.S]
  have out : ∀ a, a ∉ r.S → a ≠ r.fd := fun a h z => h (z ▸ mem)
  refine ⟨(upd_ne (out _ c1)).trans x.i, (upd_ne (out _ c2)).trans x.f, ⟨(upd_ne (out _ c3)).trans x.fr.i, (upd_ne n1).trans x.fr.f, ⟨ep', ?_⟩⟩, (let ⟨ep, e⟩ := x.md; ⟨ep, (upd_ne x.ne.symm).trans e⟩), (upd_ne n4.symm).trans x.wl, ?_, x.ne, by rw [List.length_set]; exact x.len⟩
  · rw [upd_self, en_put (by rw [List.length_map]; exact hi), List.map_set]
  · rw [mns_in mem]; exact x.old
end

section
variable {Z : Zs} {n : Nat} {H : AH} {Q : PV → AH → Prop} {E : AH → Prop}
variable {cs : List Cl} {roots : List Nat} {r : CoA} {mv : List (Int × PV)} {fs : List Addr} {wt : List Nat}

noncomputable def Done (H0 : AH) (cs : List Cl) (r : CoA) (H : AH) (mv : List (Int × PV)) (fs : List Addr) (wt : List Nat) (k : Nat) : Prop :=
  ∀ j e : Nat, j < k → wt[j]? = some e → Ex3 fun b c c' => C4 (fs[j]? = some b) (cs[e]? = some c) (CpC mv c c') (CellAt (less H0 (mns H r.S)) b c')

theorem prefix_get {α : Type} {l m : List α} (h : l <+: m) {i : Nat} {a : α} (e : l[i]? = some a) : m[i]? = some a := by
  obtain ⟨t, rfl⟩ := h
  rw [List.getElem?_append_left (List.getElem?_eq_some_iff.mp e).1]; exact e

theorem c_run {H0 : AH} (GG : (gl Z).Ok) (x : CoS cs r H mv fs wt) (iv : Iv cs roots mv wt) (sm : Small cs) (h0 : Ext H0 (mns H r.S)) (hz : ∀ (e : Nat) (c : Cl), cs[e]? = some c → c.vals.length ≤ 1000)
    (q : ∀ H' mv' fs' wt', CoS cs r H' mv' fs' wt' → Iv cs roots mv' wt' → Ext (mns H r.S) (mns H' r.S) → Gr mv mv' → wt <+: wt' → Done H0 cs r H' mv' fs' wt' wt'.length → Q .none H')
    (er : (∃ a, Rc cs roots a ∧ lend cs a = none) → ∀ H', Ext (mns H r.S) H' → E H') : CallL (gl Z) (n + 12) true 302 [.ref r.co] H Q E := by
  refine CallL.intro GG (by rfl) (by kernel_rfl) ["self"] (len1 fun w9 => rfl) (by decide) (by decide) (by decide) rfl rfl rfl rfl fun V O => ?_
  refine EX.next (E1.assign (EV.int_ (AT.local O rfl ⟨rfl, ?_⟩)))
  refine EX.next (E1.while_ O (fun f m H2 => Ex3 fun mv2 fs2 wt2 => Ex1 fun (i : Nat) => C10 (Lk m "self" (.ref r.co)) (Lk m "at" (.int (i : Nat))) (CoS cs r H2 mv2 fs2 wt2) (Iv cs roots mv2 wt2) (Ext (mns H r.S) (mns H2 r.S)) (Gr mv mv2) (wt <+: wt2) (i ≤ wt2.length) (f = cs.length - i) (Done H0 cs r H2 mv2 fs2 wt2 i)) cs.length
    ⟨mv, fs, wt, 0, rfl, rfl, x, iv, Ext.refl _, Gr.refl, List.prefix_refl _, Nat.zero_le _, rfl, fun j e h _ => absurd h (Nat.not_lt_zero _)⟩ ?_)
  rintro f m H2 R u ⟨mv2, fs2, wt2, i, k1, k2, x2, v2, e2, g2, p2, hi, rfl, dn⟩
  have hwl := v2.wlen
  have hlen := sm.len
  refine ET.cmp (EV.local_ O rfl k2 (EV.bcall O GG rfl kb_len rfl (.inr ⟨_, rfl⟩) (EV.fld O GG rfl k1 x2.i x2.f kc_305 kf_305_waiting rfl (BCall.len_list x2.wl (by rw [nats_len, sizeLine_eq]; lia) ?_))))
  show (decide ((i : Int) < ((nats wt2).length : Nat)) = true → _) ∧ (decide ((i : Int) < ((nats wt2).length : Nat)) = false → _)
  rw [nats_len]
  refine ⟨fun hb => ?_, fun hb => u.bk ⟨rfl, ?_⟩⟩
  · have hlt : i < wt2.length := by have := of_decide_eq_true hb; lia
    obtain ⟨e, he⟩ : ∃ e, wt2[i]? = some e := ⟨_, List.getElem?_eq_getElem hlt⟩
    obtain ⟨hme, hle⟩ := v2.wtM i e he
    have helt := lend_lt hle
    obtain ⟨a, hra, hla⟩ := v2.rc i e he
    refine EX.next (E1.assign (EV.sub (EV.fld O GG rfl k1 x2.i x2.f kc_305 kf_305_waiting rfl (EV.local_ O rfl k2 (.inl ⟨_, i, _, x2.wl, rfl, by lia, by rw [nats_get, he]; rfl, AT.local O rfl ⟨rfl, ?_⟩⟩)))))
    have k1' := k1.skip (y := "old") (q := .int (e : Nat)) (by decide)
    have k2' := k2.skip (y := "old") (q := .int (e : Nat)) (by decide)
    obtain ⟨ep2, hmd2⟩ := x2.md
    refine EX.next (E1.expr O (EV.meth O GG (EV.fld O GG rfl k1' x2.i x2.f kc_305 kf_305_fresh rfl ⟨r.fr, 232, r.fdx, _, 222, rfl, x2.fr.i, x2.fr.f, kmt_232_put, rfl,
      EV.sub (EV.fld O GG rfl k1' x2.i x2.f kc_305 kf_305_moved rfl (EV.local_ O rfl rfl (.inr ⟨mv2, ep2, _, hmd2, hme, ?_⟩)))⟩)))
    refine EV.meth O GG (EV.local_ O rfl k1' ⟨r.co, 305, r.cdx, _, 295, rfl, x2.i, x2.f, kmt_305_copied, rfl, ?_⟩)
    obtain ⟨dx, dd, as, hp1, hp2⟩ := (x2.old.ext mns_sub).ex
    refine EV.meth O GG (EV.fld O GG rfl k1' x2.i x2.f kc_305 kf_305_heap rfl ⟨r.hp, 232, dx, _, 215, rfl, hp1.i, hp1.f, kmt_232_get, rfl, EV.local_ O rfl rfl ?_⟩)
    obtain ⟨dx', dd', as', hp1', hp2'⟩ := x2.old.ex
    obtain ⟨c, hc, hcl⟩ := lend_end hle
    refine c_get (n := n + 8) GG (hp1'.ext mns_sub) (log_small (by lia)) (fun p hp => ?_) fun hp => ?_
    · rw [en_lookup, List.getElem?_map] at hp
      obtain ⟨b, hb1, cb⟩ := hp2'.right hc
      rw [hb1] at hp; cases hp
      refine c_copied (n := n) GG x2 v2 sm (h0.trans e2) cb hcl (hz e c hc) (fun a' ha' => ⟨sm.su e c a' hc ha', Rc.step hra hla hc ha'⟩) (fun H3 mv3 fs3 wt3 c' b' st cp cb' => ?_) fun ⟨a', ha', hl⟩ H3 hx => er ⟨a', Rc.step hra hla hc ha', hl⟩ H3 (e2.trans hx)
      have hfl : (en (fs3.map PV.ref)).length ≤ sizeLine := by
        have := st.v.wlen
        rw [enF_len, List.length_map, st.x.len, sizeLine_eq]; lia
      refine c_put (n := n + 10) GG st.x.fr hfl fun ep3 => ?_
      have hi3 : i < fs3.length := by
        rw [st.x.len]; exact Nat.lt_of_lt_of_le hlt st.p2.length_le
      have x4 := st.x.setFd (ep' := ep3) (b := b') hi3
      have mem : r.fd ∈ r.S := by simp [CoA.S]
      refine ⟨rfl, EX.next (E1.addInt O rfl k2' (EV.int_ ⟨rfl, rfl, EX.nil (u.nx ⟨cs.length - (i + 1), by lia, mv3, fs3.set i b', wt3, i + 1, ?_⟩)⟩))⟩
      refine ⟨k1'.skip (by decide), rfl, x4, st.v, ?_, g2.trans st.g, p2.trans st.p2, ?_, rfl, ?_⟩
      · rw [mns_in mem]; exact e2.trans st.e
      · have := st.p2.length_le; lia
      · intro j e' hj he'
        rw [mns_in mem]
        by_cases z : j = i
        · subst z
          have := prefix_get st.p2 he
          rw [this] at he'; cases he'
          exact ⟨b', c, c', by rw [List.getElem?_set_self hi3], hc, cp, cb'⟩
        · have hj2 : j < i := by lia
          have hw2 : wt2[j]? = some e' := by
            have hjl : j < wt2.length := by lia
            have := prefix_get st.p2 (List.getElem?_eq_getElem hjl)
            rw [this] at he'; rw [List.getElem?_eq_getElem hjl]; exact he'
          obtain ⟨b0, c0, c0', h1, h2, h3, h4⟩ := dn j e' hj2 hw2
          exact ⟨b0, c0, c0', by rw [List.getElem?_set_ne (Ne.symm z)]; exact prefix_get st.p1 h1, h2, h3.gr st.g, h4.ext (less_ext st.e)⟩
    · rw [en_lookup, List.getElem?_map] at hp
      obtain ⟨b, hb1, _⟩ := hp2'.right hc
      rw [hb1] at hp; cases hp
  · have hge : wt2.length ≤ i := by have := of_decide_eq_false hb; lia
    obtain rfl : i = wt2.length := by lia
    exact EX.nil (q H2 mv2 fs2 wt2 x2 v2 e2 g2 p2 dn)
end
end Mine

namespace Mine
theorem Ext.upd {H H1 : AH} {a o} (x : Ext H H1) (n : H a = none) : Ext H (Mine.upd H1 a o) := fun b ob e => by rw [upd_ne (ne_of_none' n e)]; exact x b ob e
theorem Ext.mnsR {H H1 : AH} {S : List Addr} (x : Ext H H1) (n : ∀ s ∈ S, H s = none) : Ext H (Mine.mns H1 S) := fun b ob e => by
  rw [mns_at fun hm => by rw [n b hm] at e; cases e]; exact x b ob e

theorem Iv.empty {cs roots} : Iv cs roots [] [] := ⟨(fun k p e => by cases e), (fun i e h => by simp at h), (fun i e h => by simp at h)⟩

section
variable {Z : Zs} {n : Nat} {nn : Bool} {H : AH} {Q : PV → AH → Prop} {E : AH → Prop}

theorem c_Collector {hp : Addr} {cs : List Cl} (GG : (gl Z).Ok) (old : HeapAt H hp cs)
    (q : ∀ (r : CoA) H', r.hp = hp → CoS cs r H' [] [] [] → Ext H H' → (∀ s ∈ r.fr :: r.S, H s = none) → Q (.ref r.co) H') :
    CallL (gl Z) (n + 4) nn 305 [.ref hp] H Q E := by
  refine CallL.make GG km_305 ki_305 kt_262 fun a dx ha hdx hne => ?_
  refine CallL.intro GG (by rfl) (by kernel_rfl) ["self", "heap"] (len2 fun w9 w9 => rfl) (by decide) (by decide) (by decide) rfl rfl rfl rfl fun V O => ?_
  have X1 : Ext H (upd (upd H dx (.attrs [])) a (.inst 305 dx)) := ((Ext.refl H).upd hdx).upd ha
  have e1 : upd (upd H dx (.attrs [])) a (.inst 305 dx) a = some (.inst 305 dx) := upd_self
  have e2 : upd (upd H dx (.attrs [])) a (.inst 305 dx) dx = some (.attrs []) := (upd_ne hne.symm).trans upd_self
  generalize upd (upd H dx (.attrs [])) a (.inst 305 dx) = H1 at X1 e1 e2 ⊢
  refine EX.next (E1.setFld O GG rfl (EV.local_ O rfl rfl ⟨a, 305, dx, _, rfl, e1, e2, kc_305, kf_305_heap, Nat.le_of_ble_eq_true rfl, rfl, ?_⟩))
  have X2 : Ext H (upd H1 dx (.attrs (putF [] "heap" (.ref hp)))) := X1.upd hdx
  have a2 : upd H1 dx (.attrs (putF [] "heap" (.ref hp))) a = some (.inst 305 dx) := (upd_ne hne).trans e1
  have d2 : upd H1 dx (.attrs (putF [] "heap" (.ref hp))) dx = some (.attrs [("heap", .ref hp)]) := upd_self
  generalize upd H1 dx (.attrs (putF [] "heap" (.ref hp))) = H2 at X2 a2 d2 ⊢
  have un : ∀ {b}, H2 b = none → H b = none := fun {b} z => by
    cases q : H b with
    | none => rfl
    | some o => rw [X2 _ _ q] at z; cases z
  refine EX.next (E1.setFld O GG rfl (EV.call O GG (EV.global_ O GG rfl kn_Heap ⟨232, rfl, kk_232, ?_⟩)))
  refine c_Heap (n := n) GG fun fr fdx fd ep h1 h2 h3 n1 n2 n3 => ?_
  have X3 : Ext H (upd (mkObj H2 fr fdx 232 [("cells", .ref fd), ("next", .int 0)]) fd (.dict [] ep)) := ((X2.upd (un h2)).upd (un h1)).upd (un h3)
  have w1 : upd (mkObj H2 fr fdx 232 [("cells", .ref fd), ("next", .int 0)]) fd (.dict [] ep) fr = some (.inst 232 fdx) := (upd_ne n2).trans upd_self
  have w2 : upd (mkObj H2 fr fdx 232 [("cells", .ref fd), ("next", .int 0)]) fd (.dict [] ep) fdx = some (.attrs [("cells", .ref fd), ("next", .int 0)]) := (upd_ne n3).trans ((upd_ne n1.symm).trans upd_self)
  have w3 : upd (mkObj H2 fr fdx 232 [("cells", .ref fd), ("next", .int 0)]) fd (.dict [] ep) fd = some (.dict [] ep) := upd_self
  have up3 : ∀ {b o}, H2 b = some o → upd (mkObj H2 fr fdx 232 [("cells", .ref fd), ("next", .int 0)]) fd (.dict [] ep) b = some o := fun e => (upd_ne (ne_of_none' h3 e)).trans ((upd_ne (ne_of_none' h1 e)).trans ((upd_ne (ne_of_none' h2 e)).trans e))
  have a3 := up3 a2
  have d3 := up3 d2
  have nd1 : dx ≠ fr := ne_of_none' h1 d2
  have nd2 : dx ≠ fdx := ne_of_none' h2 d2
  have nd3 : dx ≠ fd := ne_of_none' h3 d2
  generalize upd (mkObj H2 fr fdx 232 [("cells", .ref fd), ("next", .int 0)]) fd (.dict [] ep) = H3 at X3 w1 w2 w3 a3 d3 ⊢
  refine ⟨a, 305, dx, _, rfl, a3, d3, kc_305, kf_305_fresh, Nat.le_of_ble_eq_true rfl, rfl, ?_⟩
  have X4 : Ext H (upd H3 dx (.attrs (putF [("heap", .ref hp)] "fresh" (.ref fr)))) := X3.upd hdx
  have w1 := (upd_ne (o := .attrs (putF [("heap", .ref hp)] "fresh" (.ref fr))) nd1.symm).trans w1
  have w2 := (upd_ne (o := .attrs (putF [("heap", .ref hp)] "fresh" (.ref fr))) nd2.symm).trans w2
  have w3 := (upd_ne (o := .attrs (putF [("heap", .ref hp)] "fresh" (.ref fr))) nd3.symm).trans w3
  have a4 := (upd_ne (o := .attrs (putF [("heap", .ref hp)] "fresh" (.ref fr))) hne).trans a3
  have d4 : upd H3 dx (.attrs (putF [("heap", .ref hp)] "fresh" (.ref fr))) dx = some (.attrs [("heap", .ref hp), ("fresh", .ref fr)]) := upd_self
  generalize upd H3 dx (.attrs (putF [("heap", .ref hp)] "fresh" (.ref fr))) = H4 at X4 w1 w2 w3 a4 d4 ⊢
  refine EX.next (E1.setFld O GG rfl (EV.dict0 fun md ep2 hmd => ?_))
  have X5 : Ext H4 (upd H4 md (.dict [] ep2)) := Ext.new hmd
  have m5 : upd H4 md (.dict [] ep2) md = some (.dict [] ep2) := upd_self
  have nmd : ∀ {b o}, H4 b = some o → b ≠ md := fun e => ne_of_none' hmd e
  have un4 : ∀ {b}, H4 b = none → H b = none := fun {b} z => by
    cases q : H b with
    | none => rfl
    | some o => rw [X4 _ _ q] at z; cases z
  have hmd0 := un4 hmd
  have X5' := X4.trans X5
  have nfd := nmd w3
  have nmdx := nmd d4
  have a5 := X5 _ _ a4
  have d5 := X5 _ _ d4
  have w1 := X5 _ _ w1
  have w2 := X5 _ _ w2
  have w3 := X5 _ _ w3
  generalize upd H4 md (.dict [] ep2) = H5 at X5' m5 a5 d5 w1 w2 w3 ⊢
  refine ⟨a, 305, dx, _, rfl, a5, d5, kc_305, kf_305_moved, Nat.le_of_ble_eq_true rfl, rfl, ?_⟩
  have X6 : Ext H (upd H5 dx (.attrs (putF [("heap", .ref hp), ("fresh", .ref fr)] "moved" (.ref md)))) := X5'.upd hdx
  have w1 := (upd_ne (o := .attrs (putF [("heap", .ref hp), ("fresh", .ref fr)] "moved" (.ref md))) nd1.symm).trans w1
  have w2 := (upd_ne (o := .attrs (putF [("heap", .ref hp), ("fresh", .ref fr)] "moved" (.ref md))) nd2.symm).trans w2
  have w3 := (upd_ne (o := .attrs (putF [("heap", .ref hp), ("fresh", .ref fr)] "moved" (.ref md))) nd3.symm).trans w3
  have a6 := (upd_ne (o := .attrs (putF [("heap", .ref hp), ("fresh", .ref fr)] "moved" (.ref md))) hne).trans a5
  have m6 := (upd_ne (o := .attrs (putF [("heap", .ref hp), ("fresh", .ref fr)] "moved" (.ref md))) nmdx.symm).trans m5
  have d6 : upd H5 dx (.attrs (putF [("heap", .ref hp), ("fresh", .ref fr)] "moved" (.ref md))) dx = some (.attrs [("heap", .ref hp), ("fresh", .ref fr), ("moved", .ref md)]) := upd_self
  generalize upd H5 dx (.attrs (putF [("heap", .ref hp), ("fresh", .ref fr)] "moved" (.ref md))) = H6 at X6 w1 w2 w3 a6 m6 d6 ⊢
  refine EX.next (E1.setFld O GG rfl (EV.list_ fun wl hwl => ?_))
  have X7 : Ext H6 (upd H6 wl (.list [])) := Ext.new hwl
  have l7 : upd H6 wl (.list []) wl = some (.list []) := upd_self
  have nwl : wl ≠ dx := ne_of_none hwl d6
  have un6 : ∀ {b}, H6 b = none → H b = none := fun {b} z => by
    cases q : H b with
    | none => rfl
    | some o => rw [X6 _ _ q] at z; cases z
  have hwl0 := un6 hwl
  have X7' := X6.trans X7
  have a7 := X7 _ _ a6
  have d7 := X7 _ _ d6
  have w1 := X7 _ _ w1
  have w2 := X7 _ _ w2
  have w3 := X7 _ _ w3
  have m7 := X7 _ _ m6
  generalize upd H6 wl (.list []) = H7 at X7' l7 a7 d7 w1 w2 w3 m7 ⊢
  refine ⟨a, 305, dx, _, rfl, a7, d7, kc_305, kf_305_waiting, Nat.le_of_ble_eq_true rfl, rfl, EX.nil ⟨rfl, ?_⟩⟩
  have X8 : Ext H (upd H7 dx (.attrs (putF [("heap", .ref hp), ("fresh", .ref fr), ("moved", .ref md)] "waiting" (.ref wl)))) := X7'.upd hdx
  have sn : ∀ s ∈ [fdx, fd, md, wl], H s = none := fun s hs => by
    simp only [List.mem_cons, List.not_mem_nil, or_false] at hs
    rcases hs with rfl | rfl | rfl | rfl
    · exact un h2
    · exact un h3
    · exact hmd0
    · exact hwl0
  refine q ⟨a, hp, dx, fr, fdx, fd, md, wl⟩ _ rfl ⟨(upd_ne hne).trans a7, upd_self, ⟨(upd_ne nd1.symm).trans w1, (upd_ne nd2.symm).trans w2, ⟨ep, (upd_ne nd3.symm).trans w3⟩⟩, ⟨ep2, (upd_ne nmdx.symm).trans m7⟩, (upd_ne nwl).trans l7, old.ext (X8.mnsR sn), nfd, rfl⟩ X8 fun s hs => ?_
  rcases List.mem_cons.mp hs with rfl | hs
  · exact un h1
  · exact sn s hs

/-- what collecting has made -/
structure Col (cs : List Cl) (rs : List Nat) (mv : List (Int × PV)) (wt : List Nat) (cs' : List Cl) : Prop where
  iv : Iv cs rs mv wt
  len : cs'.length = wt.length
  cp : ∀ j e : Nat, wt[j]? = some e → ∃ c c', cs[e]? = some c ∧ cs'[j]? = some c' ∧ CpC mv c c'
  rts : ∀ a ∈ rs, ∃ i e : Nat, mv.lookup (a : Int) = some (.int (i : Nat)) ∧ wt[i]? = some e ∧ lend cs a = some e

theorem list_of_get {α : Type} {P : Nat → α → Prop} : ∀ (n : Nat), (∀ j, j < n → ∃ a, P j a) → ∃ l : List α, l.length = n ∧ ∀ (j : Nat) a, l[j]? = some a → P j a
  | 0, _ => ⟨[], rfl, fun j a h => by simp at h⟩
  | n + 1, h => by
    obtain ⟨l, h1, h2⟩ := list_of_get n fun j hj => h j (Nat.lt_succ_of_lt hj)
    obtain ⟨a, ha⟩ := h n (Nat.lt_succ_self n)
    refine ⟨l ++ [a], by rw [List.length_append, h1]; rfl, fun j b hb => ?_⟩
    by_cases z : j < n
    · rw [List.getElem?_append_left (by lia)] at hb; exact h2 j b hb
    · rw [List.getElem?_append_right (by lia)] at hb
      have : j - l.length = 0 := by
        cases q : j - l.length with
        | zero => rfl
        | succ k => rw [q] at hb; simp at hb
      rw [this] at hb; simp at hb
      have hj : j = n := by lia
      subst hj; subst hb; exact ha

theorem c_collected {hp ra : Addr} {cs : List Cl} {rs : List Nat} (GG : (gl Z).Ok) (old : HeapAt H hp cs) (sm : Small cs) (hz : ∀ (e : Nat) (c : Cl), cs[e]? = some c → c.vals.length ≤ 1000) (hra : H ra = some (.list (nats rs))) (hrs : ∀ x ∈ rs, x < 1000)
    (q : ∀ fr md mv wt cs' ep H', Ext H H' → HeapAt (mns (less H H') [md]) fr cs' → less H H' md = some (.dict mv ep) → Col cs rs mv wt cs' → Q (.tup [.ref fr, .ref md]) H')
    (er : (∃ a, Rc cs rs a ∧ lend cs a = none) → ∀ H', Ext H H' → E H') : CallL (gl Z) (n + 13) true 316 [.ref hp, .ref ra] H Q E := by
  refine CallL.intro GG (by rfl) (by kernel_rfl) ["heap", "roots"] (len2 fun w9 w9 => rfl) (by decide) (by decide) (by decide) rfl rfl rfl rfl fun V O => ?_
  refine EX.next (E1.assign (EV.call O GG (EV.global_ O GG rfl kn_Collector ⟨305, rfl, kk_305, EV.local_ O rfl rfl ?_⟩)))
  refine c_Collector (n := n + 8) GG old fun r H1 hr x1 X1 hnew => AT.local O rfl ⟨rfl, ?_⟩
  have hS0 : ∀ s ∈ r.S, H s = none := fun s hs => hnew s (List.mem_cons_of_mem _ hs)
  have XS : Ext H (mns H1 r.S) := X1.mnsR hS0
  refine EX.midG (J := fun m2 H2 => Ex3 fun mv fs wt => C5 (Lk m2 "collector" (.ref r.co)) (CoS cs r H2 mv fs wt) (Iv cs rs mv wt) (Ext (mns H1 r.S) (mns H2 r.S)) (∀ (j a : Nat), rs[j]? = some a → ∃ i e : Nat, mv.lookup (a : Int) = some (.int (i : Nat)) ∧ wt[i]? = some e ∧ lend cs a = some e))
    (fun G up => E1.for_ O (EV.local_ O rfl rfl ⟨nats rs, some (ra, .list (nats rs)), IterOf.list (X1 _ _ hra), fun k m2 H2 => Ex3 fun mv fs wt => C5 (Lk m2 "collector" (.ref r.co)) (CoS cs r H2 mv fs wt) (Iv cs rs mv wt) (Ext (mns H1 r.S) (mns H2 r.S)) (∀ (j a : Nat), j < k → rs[j]? = some a → ∃ i e : Nat, mv.lookup (a : Int) = some (.int (i : Nat)) ∧ wt[i]? = some e ∧ lend cs a = some e),
      ⟨[], [], [], rfl, x1, Iv.empty, Ext.refl _, fun j a h _ => absurd h (Nat.not_lt_zero _)⟩, (fun k m2 H2 ⟨_, _, _, _, _, _, e2, _⟩ => mns_sub _ _ (e2 _ _ (XS _ _ hra))), ?_, ?_⟩)) ?_
  · rintro it o k p m2 H2 R u O2 hp2 ⟨mv, fs, wt, k1, x2, v2, e2, dn⟩
    apply nats_at hp2; intro a ha
    have hmem : a ∈ rs := List.mem_iff_getElem?.mpr ⟨k, ha⟩
    refine AT.local O2 rfl (EX.next (E1.expr O2 (EV.meth O2 GG (EV.local_ O2 rfl (k1.skip (by decide)) ⟨r.co, 305, r.cdx, _, 276, rfl, x2.i, x2.f, kmt_305_move, rfl, EV.local_ O2 rfl rfl ?_⟩))))
    refine c_move (n := n + 5) GG x2 v2 sm (hrs a hmem) (.root hmem) (fun H3 mv3 fs3 wt3 i e x3 v3 e3 g3 p1 p2 hi hle hm => ⟨rfl, EX.nil (u.nx ⟨mv3, fs3, wt3, k1.skip (by decide), x3, v3, e2.trans e3, fun j a' hj ha' => ?_⟩)⟩) fun hl H3 hx => er ⟨a, .root hmem, hl⟩ H3 (XS.trans (e2.trans hx))
    by_cases z : j = k
    · subst z; rw [ha] at ha'; cases ha'; exact ⟨i, e, hm, hi, hle⟩
    · obtain ⟨i', e', h1, h2, h3⟩ := dn j a' (by lia) ha'
      exact ⟨i', e', g3 _ _ h1, prefix_get p2 h2, h3⟩
  · rintro m2 H2 ⟨mv, fs, wt, k1, x2, v2, e2, dn⟩
    exact ⟨rfl, up ⟨mv, fs, wt, k1, x2, v2, e2, fun j a h => dn j a (by rw [nats_len]; exact (List.getElem?_eq_some_iff.mp h).1) h⟩⟩
  rintro m2 H2 ⟨mv, fs, wt, k1, x2, v2, e2, dn⟩
  refine EX.next (E1.expr O (EV.meth O GG (EV.local_ O rfl k1 ⟨r.co, 305, r.cdx, _, 302, rfl, x2.i, x2.f, kmt_305_run, rfl, ?_⟩)))
  refine c_run (n := n) GG x2 v2 sm (XS.trans e2) hz (fun H3 mv3 fs3 wt3 x3 v3 e3 g3 p3 dn3 => ⟨rfl, ?_⟩) fun hl H3 hx => er hl H3 (XS.trans (e2.trans hx))
  have X3 : Ext H H3 := XS.trans ((e2.trans e3).trans mns_sub)
  obtain ⟨ep, hmd⟩ := x3.md
  have nmd : ∀ a, a ≠ r.md → mns (less H H3) [r.md] a = less H H3 a := fun a h => mns_at (by simpa using h)
  have hn : ∀ s ∈ r.fr :: r.S, less H H3 s = H3 s := fun s hs => less_at (hnew s hs)
  obtain ⟨cs', hl', hc'⟩ := list_of_get (P := fun (j : Nat) (c' : Cl) => Ex3 fun (b : Addr) (c : Cl) (e : Nat) => C5 (wt3[j]? = some e) (fs3[j]? = some b) (cs[e]? = some c) (CpC mv3 c c') (CellAt (less H (mns H3 r.S)) b c')) wt3.length fun j hj => by
    obtain ⟨b, c, c', h1, h2, h3, h4⟩ := dn3 j wt3[j] hj (List.getElem?_eq_getElem hj)
    exact ⟨c', b, c, _, List.getElem?_eq_getElem hj, h1, h2, h3, h4⟩
  refine EX.ret (EV.tuple_ (EV.fld O GG rfl k1 x3.i x3.f kc_305 kf_305_fresh rfl (EV.fld O GG rfl k1 x3.i x3.f kc_305 kf_305_moved rfl ?_)))
  refine q r.fr r.md mv3 wt3 cs' ep H3 X3 ⟨r.fdx, r.fd, fs3, ⟨?_, ?_, ?_⟩, All2.of_get (by rw [hl', x3.len]) fun i b c' h1 h2 => ?_⟩ ?_ ⟨v3, hl', fun j e he => ?_, fun a ha => ?_⟩
  · rw [nmd _ (fun z => by have := x3.coS.2.2; rw [z] at this; exact this (by simp [CoA.S])), hn _ (by simp)]; exact x3.fr.i
  · rw [nmd _ x3.nes.2.1, hn _ (by simp [CoA.S])]; rw [x3.len]; exact x3.fr.f
  · obtain ⟨ep, e⟩ := x3.fr.d; exact ⟨ep, by rw [nmd _ x3.ne, hn _ (by simp [CoA.S])]; exact e⟩
  · obtain ⟨b', c, e, h3, h4, h5, h6, h7⟩ := hc' i c' h2
    rw [h1] at h4; cases h4
    refine h7.ext fun a o e => ?_
    obtain ⟨e1, e2⟩ := less_some e
    obtain ⟨e3, e4⟩ := mns_some e2
    rw [nmd _ fun z => e3 (by rw [z]; simp [CoA.S]), less_at e1]; exact e4
  · rw [hn _ (by simp [CoA.S])]; exact hmd
  · have hj : j < cs'.length := by rw [hl']; exact (List.getElem?_eq_some_iff.mp he).1
    obtain ⟨b', c, e', h3, h4, h5, h6, h7⟩ := hc' j cs'[j] (List.getElem?_eq_getElem hj)
    rw [he] at h3; cases h3
    exact ⟨c, _, h5, List.getElem?_eq_getElem hj, h6⟩
  · obtain ⟨k, hk⟩ := List.mem_iff_getElem?.mp ha
    obtain ⟨i, e, h1, h2, h3⟩ := dn k a hk
    exact ⟨i, e, g3 _ _ h1, prefix_get p3 h2, h3⟩
end
end Mine

namespace Mine
noncomputable def rowP (c : Cl) (l : Addr) : PV := .tup [.str c.kind, c.name, .ref l]
noncomputable def lpv : Option Nat → PV
  | some e => .int (e : Nat)
  | none => .none
theorem kind_li (c : Cl) : (c.kind == ("link" : Str)) = c.isLi := by cases c <;> first | rfl | decide

/-- the rows as a list of the heap -/
structure RowsAt (H : AH) (a : Addr) (cs : List Cl) : Prop where
  ex : ∃ ps, H a = some (.list ps) ∧ All2 (RowAt H) ps cs
theorem RowsAt.ext {H H' : AH} {a cs} (x : RowsAt H a cs) (y : Ext H H') : RowsAt H' a cs := let ⟨ps, h1, h2⟩ := x.ex; ⟨ps, y _ _ h1, h2.mono fun _ _ z => z.ext y⟩

section
variable {Z : Zs} {n : Nat} {nn : Bool} {H : AH} {Q : PV → AH → Prop} {E : AH → Prop}

theorem c_law_row {a : Addr} {c : Cl} (GG : (gl Z).Ok) (ca : CellAt H a c) (hz : c.vals.length ≤ 1000) (q : ∀ l, H l = none → Q (rowP c l) (upd H l (.list (c.rvals.map Vl.pv)))) :
    CallL (gl Z) (n + 1) nn 358 [.ref a] H Q E := by
  refine CallL.intro GG (by rfl) (by kernel_rfl) ["cell"] (len1 fun w9 => rfl) (by decide) (by decide) (by decide) rfl rfl rfl rfl fun V O => ?_
  obtain ⟨dx, l, b1, b2, b3⟩ := ca.ex
  have hz' : (c.vals.map Vl.pv).length ≤ sizeLine := by rw [List.length_map, sizeLine_eq]; lia
  cases c with
  | fn k vs =>
    refine EX.ite (ET.plain (EV.bcall O GG rfl kb_isinstance rfl (.inr ⟨_, rfl⟩) (EV.local_ O rfl rfl (EV.global_ O GG rfl kn_Function (BCall.isi GG b1 b2 kis_64 kit_64_64 ⟨fun w9 => ?_, nofun⟩)))))
    exact EX.ret (EV.tuple_ (EV.str_ (EV.fld O GG rfl rfl b1 b2 kc_64 kf_64_code rfl (EV.bcall O GG rfl kb_list rfl (.inl ⟨_, rfl⟩) (EV.fld O GG rfl rfl b1 b2 kc_64 kf_64_captured rfl (BCall.list_list (b3 rfl) hz' fun b hb => (Then.out (q b hb))))))))
  | th k vs =>
    refine EX.ite (ET.plain (EV.bcall O GG rfl kb_isinstance rfl (.inr ⟨_, rfl⟩) (EV.local_ O rfl rfl (EV.global_ O GG rfl kn_Function (BCall.isi GG b1 b2 kis_106 kit_106_64 ⟨nofun, fun w9 => Then.go ?_⟩)))))
    refine EX.ite (ET.plain (EV.bcall O GG rfl kb_isinstance rfl (.inr ⟨_, rfl⟩) (EV.local_ O rfl rfl (EV.global_ O GG rfl kn_Thunk (BCall.isi GG b1 b2 kis_106 kit_106_106 ⟨fun w9 => ?_, nofun⟩)))))
    exact EX.ret (EV.tuple_ (EV.str_ (EV.fld O GG rfl rfl b1 b2 kc_106 kf_106_code rfl (EV.bcall O GG rfl kb_list rfl (.inl ⟨_, rfl⟩) (EV.fld O GG rfl rfl b1 b2 kc_106 kf_106_captured rfl (BCall.list_list (b3 rfl) hz' fun b hb => (Then.out (q b hb))))))))
  | pa i vs =>
    refine EX.ite (ET.plain (EV.bcall O GG rfl kb_isinstance rfl (.inr ⟨_, rfl⟩) (EV.local_ O rfl rfl (EV.global_ O GG rfl kn_Function (BCall.isi GG b1 b2 kis_85 kit_85_64 ⟨nofun, fun w9 => Then.go ?_⟩)))))
    refine EX.ite (ET.plain (EV.bcall O GG rfl kb_isinstance rfl (.inr ⟨_, rfl⟩) (EV.local_ O rfl rfl (EV.global_ O GG rfl kn_Thunk (BCall.isi GG b1 b2 kis_85 kit_85_106 ⟨nofun, fun w9 => Then.go ?_⟩)))))
    refine EX.ite (ET.plain (EV.bcall O GG rfl kb_isinstance rfl (.inr ⟨_, rfl⟩) (EV.local_ O rfl rfl (EV.global_ O GG rfl kn_Partial (BCall.isi GG b1 b2 kis_85 kit_85_85 ⟨fun w9 => ?_, nofun⟩)))))
    exact EX.ret (EV.tuple_ (EV.str_ (EV.fld O GG rfl rfl b1 b2 kc_85 kf_85_address rfl (EV.bcall O GG rfl kb_list rfl (.inl ⟨_, rfl⟩) (EV.fld O GG rfl rfl b1 b2 kc_85 kf_85_values rfl (BCall.list_list (b3 rfl) hz' fun b hb => (Then.out (q b hb))))))))
  | da k vs =>
    refine EX.ite (ET.plain (EV.bcall O GG rfl kb_isinstance rfl (.inr ⟨_, rfl⟩) (EV.local_ O rfl rfl (EV.global_ O GG rfl kn_Function (BCall.isi GG b1 b2 kis_183 kit_183_64 ⟨nofun, fun w9 => Then.go ?_⟩)))))
    refine EX.ite (ET.plain (EV.bcall O GG rfl kb_isinstance rfl (.inr ⟨_, rfl⟩) (EV.local_ O rfl rfl (EV.global_ O GG rfl kn_Thunk (BCall.isi GG b1 b2 kis_183 kit_183_106 ⟨nofun, fun w9 => Then.go ?_⟩)))))
    refine EX.ite (ET.plain (EV.bcall O GG rfl kb_isinstance rfl (.inr ⟨_, rfl⟩) (EV.local_ O rfl rfl (EV.global_ O GG rfl kn_Partial (BCall.isi GG b1 b2 kis_183 kit_183_85 ⟨nofun, fun w9 => Then.go ?_⟩)))))
    refine EX.ite (ET.plain (EV.bcall O GG rfl kb_isinstance rfl (.inr ⟨_, rfl⟩) (EV.local_ O rfl rfl (EV.global_ O GG rfl kn_Data (BCall.isi GG b1 b2 kis_183 kit_183_183 ⟨fun w9 => ?_, nofun⟩)))))
    exact EX.ret (EV.tuple_ (EV.str_ (EV.fld O GG rfl rfl b1 b2 kc_183 kf_183_con rfl (EV.bcall O GG rfl kb_list rfl (.inl ⟨_, rfl⟩) (EV.fld O GG rfl rfl b1 b2 kc_183 kf_183_values rfl (BCall.list_list (b3 rfl) hz' fun b hb => (Then.out (q b hb))))))))
  | pl v =>
    refine EX.ite (ET.plain (EV.bcall O GG rfl kb_isinstance rfl (.inr ⟨_, rfl⟩) (EV.local_ O rfl rfl (EV.global_ O GG rfl kn_Function (BCall.isi GG b1 b2 kis_162 kit_162_64 ⟨nofun, fun w9 => Then.go ?_⟩)))))
    refine EX.ite (ET.plain (EV.bcall O GG rfl kb_isinstance rfl (.inr ⟨_, rfl⟩) (EV.local_ O rfl rfl (EV.global_ O GG rfl kn_Thunk (BCall.isi GG b1 b2 kis_162 kit_162_106 ⟨nofun, fun w9 => Then.go ?_⟩)))))
    refine EX.ite (ET.plain (EV.bcall O GG rfl kb_isinstance rfl (.inr ⟨_, rfl⟩) (EV.local_ O rfl rfl (EV.global_ O GG rfl kn_Partial (BCall.isi GG b1 b2 kis_162 kit_162_85 ⟨nofun, fun w9 => Then.go ?_⟩)))))
    refine EX.ite (ET.plain (EV.bcall O GG rfl kb_isinstance rfl (.inr ⟨_, rfl⟩) (EV.local_ O rfl rfl (EV.global_ O GG rfl kn_Data (BCall.isi GG b1 b2 kis_162 kit_162_183 ⟨nofun, fun w9 => Then.go ?_⟩)))))
    refine EX.ite (ET.plain (EV.bcall O GG rfl kb_isinstance rfl (.inr ⟨_, rfl⟩) (EV.local_ O rfl rfl (EV.global_ O GG rfl kn_Plain (BCall.isi GG b1 b2 kis_162 kit_162_162 ⟨fun w9 => ?_, nofun⟩)))))
    exact EX.ret (EV.tuple_ (EV.str_ (EV.str_ (EV.list_ (EV.fld O GG rfl rfl b1 b2 kc_162 kf_162_value rfl (fun b hb => (Then.out (q b hb))))))))
  | ho =>
    refine EX.ite (ET.plain (EV.bcall O GG rfl kb_isinstance rfl (.inr ⟨_, rfl⟩) (EV.local_ O rfl rfl (EV.global_ O GG rfl kn_Function (BCall.isi GG b1 b2 kis_120 kit_120_64 ⟨nofun, fun w9 => Then.go ?_⟩)))))
    refine EX.ite (ET.plain (EV.bcall O GG rfl kb_isinstance rfl (.inr ⟨_, rfl⟩) (EV.local_ O rfl rfl (EV.global_ O GG rfl kn_Thunk (BCall.isi GG b1 b2 kis_120 kit_120_106 ⟨nofun, fun w9 => Then.go ?_⟩)))))
    refine EX.ite (ET.plain (EV.bcall O GG rfl kb_isinstance rfl (.inr ⟨_, rfl⟩) (EV.local_ O rfl rfl (EV.global_ O GG rfl kn_Partial (BCall.isi GG b1 b2 kis_120 kit_120_85 ⟨nofun, fun w9 => Then.go ?_⟩)))))
    refine EX.ite (ET.plain (EV.bcall O GG rfl kb_isinstance rfl (.inr ⟨_, rfl⟩) (EV.local_ O rfl rfl (EV.global_ O GG rfl kn_Data (BCall.isi GG b1 b2 kis_120 kit_120_183 ⟨nofun, fun w9 => Then.go ?_⟩)))))
    refine EX.ite (ET.plain (EV.bcall O GG rfl kb_isinstance rfl (.inr ⟨_, rfl⟩) (EV.local_ O rfl rfl (EV.global_ O GG rfl kn_Plain (BCall.isi GG b1 b2 kis_120 kit_120_162 ⟨nofun, fun w9 => Then.go ?_⟩)))))
    refine EX.ret (EV.ifexp (ET.plain (EV.bcall O GG rfl kb_isinstance rfl (.inr ⟨_, rfl⟩) (EV.local_ O rfl rfl (EV.global_ O GG rfl kn_Link (BCall.isi GG b1 b2 kis_120 kit_120_141 ⟨nofun, fun w9 => ?_⟩))))))
    exact EV.tuple_ (EV.str_ (EV.str_ (EV.list_ (fun b hb => ((q b hb))))))
  | li i =>
    refine EX.ite (ET.plain (EV.bcall O GG rfl kb_isinstance rfl (.inr ⟨_, rfl⟩) (EV.local_ O rfl rfl (EV.global_ O GG rfl kn_Function (BCall.isi GG b1 b2 kis_141 kit_141_64 ⟨nofun, fun w9 => Then.go ?_⟩)))))
    refine EX.ite (ET.plain (EV.bcall O GG rfl kb_isinstance rfl (.inr ⟨_, rfl⟩) (EV.local_ O rfl rfl (EV.global_ O GG rfl kn_Thunk (BCall.isi GG b1 b2 kis_141 kit_141_106 ⟨nofun, fun w9 => Then.go ?_⟩)))))
    refine EX.ite (ET.plain (EV.bcall O GG rfl kb_isinstance rfl (.inr ⟨_, rfl⟩) (EV.local_ O rfl rfl (EV.global_ O GG rfl kn_Partial (BCall.isi GG b1 b2 kis_141 kit_141_85 ⟨nofun, fun w9 => Then.go ?_⟩)))))
    refine EX.ite (ET.plain (EV.bcall O GG rfl kb_isinstance rfl (.inr ⟨_, rfl⟩) (EV.local_ O rfl rfl (EV.global_ O GG rfl kn_Data (BCall.isi GG b1 b2 kis_141 kit_141_183 ⟨nofun, fun w9 => Then.go ?_⟩)))))
    refine EX.ite (ET.plain (EV.bcall O GG rfl kb_isinstance rfl (.inr ⟨_, rfl⟩) (EV.local_ O rfl rfl (EV.global_ O GG rfl kn_Plain (BCall.isi GG b1 b2 kis_141 kit_141_162 ⟨nofun, fun w9 => Then.go ?_⟩)))))
    refine EX.ret (EV.ifexp (ET.plain (EV.bcall O GG rfl kb_isinstance rfl (.inr ⟨_, rfl⟩) (EV.local_ O rfl rfl (EV.global_ O GG rfl kn_Link (BCall.isi GG b1 b2 kis_141 kit_141_141 ⟨fun w9 => ?_, nofun⟩))))))
    exact EV.tuple_ (EV.str_ (EV.fld O GG rfl rfl b1 b2 kc_141 kf_141_address rfl (EV.list_ (fun b hb => ((q b hb))))))

/-- a statement that goes on, or returns -/
theorem EX.mid2 {X : FX} {m : Loc} {H : AH} {E : Loc → AH → Prop} {st : Stmt} {rest : List Stmt} {Q : PF → Loc → AH → Prop} (J : Loc → AH → Prop) (x : E1 X st m H (fun f m1 H1 => (f = .next ∧ J m1 H1) ∨ (f ≠ .next ∧ Q f m1 H1)) E) (y : ∀ m1 H1, J m1 H1 → EX X rest m1 H1 Q E) : EX X (st :: rest) m H Q E :=
  EX.cons (x.mono fun p m' H' z => by
    rcases z with ⟨a, b⟩ | ⟨a, b⟩
    · exact ⟨fun w9 => y _ _ b, fun n => absurd a n⟩
    · exact ⟨fun n => absurd n a, fun w9 => b⟩)

theorem nats_any {seen : List Nat} {a : Nat} : (seen.map fun x => ((x : Nat) : Int)).any (· == ((a : Nat) : Int)) = decide (a ∈ seen) := by
  rw [Bool.eq_iff_iff]; simp only [List.any_map, List.any_eq_true, decide_eq_true_eq, Function.comp, beq_iff_eq]
  constructor
  · rintro ⟨x, hx, e⟩; have : x = a := by lia
    exact this ▸ hx
  · intro hx; exact ⟨a, hx, rfl⟩
theorem nats_int {l : List Nat} : nats l = (l.map fun x => ((x : Nat) : Int)).map PV.int := by unfold nats; rw [List.map_map]; rfl

theorem c_law_end {rl : Addr} {cs : List Cl} {a : Nat} (GG : (gl Z).Ok) (rows : RowsAt H rl cs) (sm : Small cs) (ha : a < 2 ^ 30)
    (q : ∀ H', Ext H H' → Q (lpv (lend cs a)) H') : CallL (gl Z) (n + 1) nn 365 [.ref rl, .int (a : Nat)] H Q E := by
  refine CallL.intro GG (by rfl) (by kernel_rfl) ["rows", "at"] (len2 fun w9 w9 => rfl) (by decide) (by decide) (by decide) rfl rfl rfl rfl fun V O => ?_
  refine EX.next (E1.assign (EV.list_ fun l hl => AT.local O rfl ⟨rfl, ?_⟩))
  have X1 : ∀ {s : List PV}, Ext H (upd H l (.list s)) := Ext.new hl
  obtain ⟨ps, hrl, h2⟩ := rows.ex
  have hlen := h2.len
  have hcl := sm.len
  have hz : ps.length ≤ sizeLine := by rw [hlen, sizeLine_eq]; lia
  refine EX.mid2 (fun m' H' => Ex1 fun (a' : Nat) => C4 (Lk m' "rows" (.ref rl)) (Lk m' "at" (.int (a' : Nat))) (Ext H H') (lend cs a = if a' < cs.length then some a' else none))
    (E1.while_ O (fun f m H' => Ex2 fun (seen : List Nat) (a' : Nat) => C9 (Lk m "rows" (.ref rl)) (Lk m "gone_by" (.ref l)) (Lk m "at" (.int (a' : Nat))) (H' = upd H l (.list (nats seen))) (a' < 2 ^ 30) (walk cs f seen a' = wk cs a) (f + seen.length = cs.length + 2) seen.Nodup ((∀ x ∈ seen, x < cs.length))) (cs.length + 2)
    ⟨[], a, rfl, rfl, rfl, rfl, ha, rfl, rfl, List.nodup_nil, (fun x hx => by cases hx)⟩ ?_) ?_
  · rintro f m H' R u ⟨seen, a', m1, m2, m3, rfl, ha', hw, hf, nd, hs⟩
    have hf2 := walk_fuel nd hs hf
    refine ET.and_ (ET.cmp (EV.local_ O rfl m3 (EV.bcall O GG rfl kb_len rfl (.inr ⟨_, rfl⟩) (EV.local_ O rfl m1 (BCall.len_list (X1 _ _ hrl) hz ?_)))))
    rw [hlen]
    obtain ⟨f', rfl⟩ : ∃ f', f = f' + 1 := ⟨f - 1, by lia⟩
    refine ⟨fun hb => ?_, fun hb => ⟨nofun, fun w9 => u.bk (.inl ⟨rfl, a', m1, m3, X1, ?_⟩)⟩⟩
    · have hlt : a' < cs.length := by have := of_decide_eq_true hb; lia
      obtain ⟨c, hc⟩ : ∃ c, cs[a']? = some c := ⟨_, List.getElem?_eq_getElem hlt⟩
      obtain ⟨p, hp, ⟨rl', rfl, _⟩⟩ := h2.right hc
      refine ET.and_ (ET.cmp (EV.sub (EV.sub (EV.local_ O rfl m1 (EV.local_ O rfl m3 (.inl ⟨ps, a', _, X1 _ _ hrl, rfl, by lia, hp, EV.int_ ⟨0, _, rfl, by decide, rfl, EV.str_ ?_⟩⟩))))))
      show ((c.kind == ("link" : Str)) = true → _) ∧ ((c.kind == ("link" : Str)) = false → _)
      rw [kind_li]
      refine ⟨fun hli => ET.and_nil ⟨fun w9 => ?_, nofun⟩, fun hli => ⟨nofun, fun w9 => u.bk (.inl ⟨rfl, a', m1, m3, X1, ?_⟩)⟩⟩
      · obtain ⟨b, rfl⟩ : ∃ b, c = .li b := by
          clear hc hp hw
          cases c with
          | li b => exact ⟨b, rfl⟩
          | _ => cases hli
        rw [walk_li hc] at hw
        have hb2 := sm.li _ _ hc
        refine EX.ite (ET.cmp (EV.local_ O rfl m3 (EV.local_ O rfl m2 (.inl ⟨seen.map fun x => ((x : Nat) : Int), by rw [upd_self, nats_int], ?_⟩))))
        rw [nats_any]
        by_cases hm : a' ∈ seen
        · rw [if_pos hm] at hw
          rw [decide_eq_true hm]
          refine ⟨fun w9 => EX.ret (EV.none_ ⟨nofun, fun w9 => u.rt (.inr ⟨nofun, ?_⟩)⟩), nofun⟩
          have := q _ (X1 (s := nats seen))
          rw [lend_none hw.symm] at this; exact this
        · rw [if_neg hm] at hw
          rw [decide_eq_false hm]
          refine ⟨nofun, fun w9 => Then.go ?_⟩
          have hsz : seen.length ≤ 1000 := Nat.le_trans (nodup_bound nd hs) sm.len
          refine EX.next (E1.expr O (EV.append (EV.local_ O rfl m2 ⟨l, rfl, ⟨_, upd_self⟩, EV.local_ O rfl m3 ⟨_, upd_self, by rw [nats_len, sizeLine_eq]; lia, rfl, ?_⟩⟩)))
          rw [upd_upd, nats_snoc]
          refine EX.next (E1.assign (EV.sub (EV.sub (EV.local_ O rfl m1 (EV.local_ O rfl m3 (.inl ⟨ps, a', _, X1 _ _ hrl, rfl, by lia, hp, EV.int_ ⟨1, _, rfl, by decide, rfl, AT.local O rfl ⟨rfl, EX.nil (u.nx ⟨f', by lia, seen ++ [a'], b, ?_⟩)⟩⟩⟩))))))
          refine ⟨m1, m2, rfl, rfl, by lia, hw, by rw [List.length_append]; show f' + (seen.length + 1) = _; lia, ?_, ?_⟩
          · rw [List.nodup_append]
            exact ⟨nd, by simp, fun x hx y hy e => by rw [List.mem_singleton.mp hy] at e; exact hm (e ▸ hx)⟩
          · intro x hx
            rcases List.mem_append.mp hx with z | z
            · exact hs x z
            · rw [List.mem_singleton.mp z]; exact hlt
      · rw [walk_end hc hli] at hw
        rw [lend_wk hw.symm, if_pos hlt]
    · have hge : cs.length ≤ a' := by have := of_decide_eq_false hb; lia
      rw [walk_none (List.getElem?_eq_none_iff.mpr hge)] at hw
      rw [lend_none hw.symm, if_neg (by lia)]
  · rintro m H' ⟨a', m1, m3, X2, hl'⟩
    have := q _ X2
    rw [hl'] at this
    refine EX.ret (EV.ifexp (ET.cmp (EV.local_ O rfl m3 (EV.bcall O GG rfl kb_len rfl (.inr ⟨_, rfl⟩) (EV.local_ O rfl m1 (BCall.len_list (X2 _ _ hrl) hz ?_))))))
    rw [hlen]
    refine ⟨fun hb => EV.local_ O rfl m3 ?_, fun hb => EV.none_ ?_⟩
    · rw [if_pos (by have := of_decide_eq_true hb; lia)] at this; exact this
    · rw [if_neg (by have := of_decide_eq_false hb; lia)] at this; exact this
end
end Mine

namespace Mine
theorem mk_cell {H : AH} {a dx l : Addr} {c : Cl} (ha : H a = none) (hdx : H dx = none) (hne : a ≠ dx) (hl : c.hasL = true → H l = some (.list (c.vals.map Vl.pv))) : CellAt (mkObj H a dx c.cls (c.flds l)) a c ∧ Ext H (mkObj H a dx c.cls (c.flds l)) :=
  ⟨⟨dx, l, upd_self, (upd_ne hne.symm).trans upd_self, fun q => (upd_ne (ne_of_none' ha (hl q))).trans ((upd_ne (ne_of_none' hdx (hl q))).trans (hl q))⟩, ((Ext.refl H).upd hdx).upd ha⟩

section
variable {Z : Zs} {n : Nat} {nn : Bool} {H : AH} {Q : PV → AH → Prop} {E : AH → Prop}

theorem c_law_cell {p : PV} {c : Cl} (GG : (gl Z).Ok) (rw' : RowAt H p c) (hz : c.rvals.length ≤ 1000) (q : ∀ a H', Ext H H' → CellAt H' a c → Q (.ref a) H') :
    CallL (gl Z) (n + 3) nn 351 [p] H Q E := by
  obtain ⟨l, rfl, hl⟩ := rw'.ex
  refine CallL.intro GG (by rfl) (by kernel_rfl) ["row"] (len1 fun w9 => rfl) (by decide) (by decide) (by decide) rfl rfl rfl rfl fun V O => ?_
  have hz' : (c.rvals.map Vl.pv).length ≤ sizeLine := by rw [List.length_map, sizeLine_eq]; lia
  refine EX.next (E1.assign (EV.local_ O rfl rfl (AT.tuple rfl (AT.local O rfl (AT.local O rfl (AT.local O rfl ⟨rfl, ?_⟩))))))
  refine EX.next (E1.assign (EV.sdict (kvs := [("function", 64), ("thunk", 106), ("partial", 85), ("data", 183)]) O GG (.cons rfl kn_Function (by decide) (.cons rfl kn_Thunk (by decide) (.cons rfl kn_Partial (by decide) (.cons rfl kn_Data (by decide) .nil)))) (by show (["function", "thunk", "partial", "data"] : List Str).Nodup; decide) (by intro z; cases z) (by show 4 ≤ 15; decide) fun wa o hw hs hne => AT.local O rfl ⟨rfl, ?_⟩))
  have X1 : Ext H (upd H wa (.raw o)) := Ext.new hw
  have hwa : upd H wa (.raw o) wa = some (.raw o) := upd_self
  have hl1 := X1 _ _ hl
  generalize upd H wa (.raw o) = H1 at X1 hwa hl1 ⊢
  refine EX.ite (ET.inSD (EV.local_ O rfl rfl (EV.local_ O rfl rfl ⟨_, wa, o, _, rfl, rfl, hwa, hs, hne, ?_⟩)))
  cases c with
  | fn k vs =>
    refine ⟨fun w9 => ?_, nofun⟩
    refine EX.ret (EV.call O GG (EV.subSD (EV.local_ O rfl rfl (EV.local_ O rfl rfl ⟨_, wa, o, _, 64, rfl, rfl, hwa, hs, rfl, 64, rfl, kk_64, EV.local_ O rfl rfl (EV.bcall O GG rfl kb_list rfl (.inl ⟨_, rfl⟩) (EV.local_ O rfl rfl (BCall.list_list hl1 hz' fun b hb => ?_)))⟩))))
    refine c_Function (n := n) GG fun a dx ha hdx hne => Then.out ?_
    obtain ⟨ca, X2⟩ := mk_cell (c := .fn k vs) (l := b) ha hdx hne fun w9 => upd_self
    exact q a _ ((X1.trans (Ext.new hb)).trans X2) ca
  | th k vs =>
    refine ⟨fun w9 => ?_, nofun⟩
    refine EX.ret (EV.call O GG (EV.subSD (EV.local_ O rfl rfl (EV.local_ O rfl rfl ⟨_, wa, o, _, 106, rfl, rfl, hwa, hs, rfl, 106, rfl, kk_106, EV.local_ O rfl rfl (EV.bcall O GG rfl kb_list rfl (.inl ⟨_, rfl⟩) (EV.local_ O rfl rfl (BCall.list_list hl1 hz' fun b hb => ?_)))⟩))))
    refine c_Thunk (n := n) GG fun a dx ha hdx hne => Then.out ?_
    obtain ⟨ca, X2⟩ := mk_cell (c := .th k vs) (l := b) ha hdx hne fun w9 => upd_self
    exact q a _ ((X1.trans (Ext.new hb)).trans X2) ca
  | pa i vs =>
    refine ⟨fun w9 => ?_, nofun⟩
    refine EX.ret (EV.call O GG (EV.subSD (EV.local_ O rfl rfl (EV.local_ O rfl rfl ⟨_, wa, o, _, 85, rfl, rfl, hwa, hs, rfl, 85, rfl, kk_85, EV.local_ O rfl rfl (EV.bcall O GG rfl kb_list rfl (.inl ⟨_, rfl⟩) (EV.local_ O rfl rfl (BCall.list_list hl1 hz' fun b hb => ?_)))⟩))))
    refine c_Partial (n := n) GG fun a dx ha hdx hne => Then.out ?_
    obtain ⟨ca, X2⟩ := mk_cell (c := .pa i vs) (l := b) ha hdx hne fun w9 => upd_self
    exact q a _ ((X1.trans (Ext.new hb)).trans X2) ca
  | da k vs =>
    refine ⟨fun w9 => ?_, nofun⟩
    refine EX.ret (EV.call O GG (EV.subSD (EV.local_ O rfl rfl (EV.local_ O rfl rfl ⟨_, wa, o, _, 183, rfl, rfl, hwa, hs, rfl, 183, rfl, kk_183, EV.local_ O rfl rfl (EV.bcall O GG rfl kb_list rfl (.inl ⟨_, rfl⟩) (EV.local_ O rfl rfl (BCall.list_list hl1 hz' fun b hb => ?_)))⟩))))
    refine c_Data (n := n) GG fun a dx ha hdx hne => Then.out ?_
    obtain ⟨ca, X2⟩ := mk_cell (c := .da k vs) (l := b) ha hdx hne fun w9 => upd_self
    exact q a _ ((X1.trans (Ext.new hb)).trans X2) ca
  | pl v =>
    refine ⟨nofun, fun w9 => Then.go ?_⟩
    refine EX.ret (EV.ifexp (ET.cmp (EV.local_ O rfl rfl (EV.str_ ⟨fun w9 => ?_, nofun⟩))))
    refine EV.call O GG (EV.global_ O GG rfl kn_Plain ⟨162, rfl, kk_162, EV.sub (EV.local_ O rfl rfl (EV.int_ (.inl ⟨_, 0, v.pv, hl1, rfl, by decide, rfl, ?_⟩)))⟩)
    refine c_Plain (n := n) GG fun a dx ha hdx hne => ?_
    obtain ⟨ca, X2⟩ := mk_cell (c := .pl v) (l := 0) ha hdx hne nofun
    exact q a _ (X1.trans X2) ca
  | li i =>
    refine ⟨nofun, fun w9 => Then.go ?_⟩
    refine EX.ret (EV.ifexp (ET.cmp (EV.local_ O rfl rfl (EV.str_ ⟨nofun, fun w9 => ?_⟩))))
    refine EV.ifexp (ET.cmp (EV.local_ O rfl rfl (EV.str_ ⟨fun w9 => ?_, nofun⟩)))
    refine EV.call O GG (EV.global_ O GG rfl kn_Link ⟨141, rfl, kk_141, EV.local_ O rfl rfl ?_⟩)
    refine c_Link (n := n) GG fun a dx ha hdx hne => ?_
    obtain ⟨ca, X2⟩ := mk_cell (c := .li i) (l := 0) ha hdx hne nofun
    exact q a _ (X1.trans X2) ca
  | ho =>
    refine ⟨nofun, fun w9 => Then.go ?_⟩
    refine EX.ret (EV.ifexp (ET.cmp (EV.local_ O rfl rfl (EV.str_ ⟨nofun, fun w9 => ?_⟩))))
    refine EV.ifexp (ET.cmp (EV.local_ O rfl rfl (EV.str_ ⟨nofun, fun w9 => ?_⟩)))
    refine EV.call O GG (EV.global_ O GG rfl kn_Hole ⟨120, rfl, kk_120, ?_⟩)
    refine c_Hole GG fun a dx ha hdx hne => ?_
    obtain ⟨ca, X2⟩ := mk_cell (c := .ho) (l := 0) ha hdx hne nofun
    exact q a _ (X1.trans X2) ca

theorem CellAt.mnsHp {a dx dd b : Addr} {es : List (Int × PV)} {k : Int} {c : Cl} (x : CellAt H b c) (h : HpAt H a dx dd es k) : CellAt (mns H [dx, dd]) b c := by
  obtain ⟨bdx, l, h1, h2, h3⟩ := x.ex
  obtain ⟨ep, hd⟩ := h.d
  have hf := h.f
  have out : ∀ {z o}, H z = some o → (∀ q, o ≠ .attrs q) → (∀ q e, o ≠ .dict q e) → z ∉ [dx, dd] := fun {z o} e n1 n2 hm => by
    simp only [List.mem_cons, List.not_mem_nil, or_false] at hm
    rcases hm with rfl | rfl
    · rw [e] at hf; exact n1 _ (Option.some.inj hf)
    · rw [e] at hd; exact n2 _ _ (Option.some.inj hd)
  refine ⟨bdx, l, ?_, ?_, fun q => ?_⟩
  · rw [mns_at (out h1 nofun nofun)]; exact h1
  · rw [mns_at fun hm => ?_]
    · exact h2
    · simp only [List.mem_cons, List.not_mem_nil, or_false] at hm
      rcases hm with rfl | rfl
      · rw [h2] at hf
        have hf := AO.attrs.inj (Option.some.inj hf)
        have := congrArg (fun z => z.map (·.1)) hf
        cases c <;> exact absurd this (by simp only [Cl.flds, List.map_cons, List.map_nil]; decide)
      · rw [h2] at hd; cases hd
  · rw [mns_at (out (h3 q) nofun nofun)]; exact h3 q

theorem c_law_laid {rl : Addr} {cs : List Cl} (GG : (gl Z).Ok) (rows : RowsAt H rl cs) (hz : ∀ c ∈ cs, c.rvals.length ≤ 1000) (hn : cs.length ≤ 1000) (q : ∀ a H', Ext H H' → HeapAt H' a cs → Q (.ref a) H') :
    CallL (gl Z) (n + 4) nn 382 [.ref rl] H Q E := by
  refine CallL.intro GG (by rfl) (by kernel_rfl) ["rows"] (len1 fun w9 => rfl) (by decide) (by decide) (by decide) rfl rfl rfl rfl fun V O => ?_
  obtain ⟨ps, hrl, h2⟩ := rows.ex
  have hlen := h2.len
  refine EX.next (E1.assign (EV.call O GG (EV.global_ O GG rfl kn_Heap ⟨232, rfl, kk_232, ?_⟩)))
  refine c_Heap (n := n + 1) GG fun a dx dd ep ha hdx hdd n1 n2 n3 => AT.local O rfl ⟨rfl, ?_⟩
  have sn : ∀ s ∈ [dx, dd], H s = none := fun s hs => by
    simp only [List.mem_cons, List.not_mem_nil, or_false] at hs
    rcases hs with rfl | rfl
    · exact hdx
    · exact hdd
  have X1 : Ext H (mns (upd (mkObj H a dx 232 [("cells", .ref dd), ("next", .int 0)]) dd (.dict [] ep)) [dx, dd]) := ((((Ext.refl H).upd hdx).upd ha).upd hdd).mnsR sn
  have hp1 : HpAt (upd (mkObj H a dx 232 [("cells", .ref dd), ("next", .int 0)]) dd (.dict [] ep)) a dx dd [] 0 := ⟨(upd_ne n2).trans upd_self, (upd_ne n3).trans ((upd_ne n1.symm).trans upd_self), ep, upd_self⟩
  generalize upd (mkObj H a dx 232 [("cells", .ref dd), ("next", .int 0)]) dd (.dict [] ep) = H1 at X1 hp1 ⊢
  have mm1 : dx ∈ [dx, dd] := by simp
  have mm2 : dd ∈ [dx, dd] := by simp
  refine EX.mid (J := fun m2 H2 => Lk m2 "heap" (.ref a) ∧ ∃ as : List Addr, HpAt H2 a dx dd (en (as.map .ref)) (as.length : Nat) ∧ All2 (CellAt (mns H2 [dx, dd])) as cs ∧ Ext H (mns H2 [dx, dd]))
    (E1.for_ O (EV.local_ O rfl rfl ⟨ps, some (rl, .list ps), IterOf.list (mns_sub _ _ (X1 _ _ hrl)), fun k m2 H2 => Lk m2 "heap" (.ref a) ∧ Ex1 fun (as : List Addr) => C4 (HpAt H2 a dx dd (en (as.map .ref)) (as.length : Nat)) (as.length = k) (All2 (CellAt (mns H2 [dx, dd])) as (cs.take k)) (Ext H (mns H2 [dx, dd])),
      ⟨rfl, [], hp1, rfl, by simpa using All2.nil, X1⟩, (fun k m2 H2 ⟨_, _, _, _, _, x⟩ => mns_sub _ _ (x _ _ hrl)), ?_, ?_⟩)) ?_
  · rintro it o k p m2 H2 R u O2 hp ⟨k1, as, hp2, hk, a2, x2⟩
    obtain ⟨c, hc, rc⟩ := h2.left hp
    have hcz := hz c (List.mem_iff_getElem?.mpr ⟨k, hc⟩)
    have hka : k < 1000 := by have := (List.getElem?_eq_some_iff.mp hc).1; lia
    refine AT.local O2 rfl (EX.next (E1.expr O2 (EV.meth O2 GG (EV.local_ O2 rfl (k1.skip (by decide)) ⟨a, 232, dx, _, 208, rfl, hp2.i, hp2.f, kmt_232_new, rfl, EV.call O2 GG (EV.global_ O2 GG rfl kn_law_cell ⟨351, rfl, kk_351, EV.local_ O2 rfl rfl ?_⟩)⟩))))
    refine c_law_cell (n := n) GG ((rc.ext x2).ext mns_sub) hcz fun b H3 x3 cb => ?_
    have hp3 := hp2.ext x3
    refine c_new (n := n + 2) GG hp3 (by rw [enF_len, List.length_map, sizeLine_eq]; lia) fun ep' => ⟨rfl, EX.nil (u.nx ⟨k1.skip (by decide), as ++ [b], ?_, by rw [List.length_append, hk]; rfl, ?_, ?_⟩)⟩
    · have ek : putI (en (as.map PV.ref)) (as.length : Nat) (.ref b) = en ((as ++ [b]).map .ref) := by
        have := en_put_new (ps := as.map PV.ref) (p := .ref b)
        rw [List.length_map] at this
        rw [this, List.map_append]; rfl
      refine ⟨(upd_ne hp3.ne2).trans ((upd_ne hp3.ne1).trans hp3.i), (upd_ne hp3.ne3).trans (upd_self.trans (by rw [List.length_append]; rfl)), ep', upd_self.trans (by rw [ek])⟩
    · rw [mns_in mm2, mns_in mm1, take_snoc hc]
      exact (a2.mono fun _ _ z => z.ext x3.mns).snoc (cb.mnsHp hp3)
    · rw [mns_in mm2, mns_in mm1]; exact x2.trans x3.mns
  · rintro m2 H2 ⟨k1, as, hp2, hk, a2, x2⟩
    rw [hlen, List.take_length] at a2
    exact ⟨rfl, k1, as, hp2, a2, x2⟩
  rintro m2 H2 ⟨k1, as, hp2, a2, x2⟩
  exact EX.ret (EV.local_ O rfl k1 (q a H2 (x2.trans mns_sub) ⟨dx, dd, as, hp2, a2.mono fun _ _ z => z.ext mns_sub⟩))
end
end Mine

namespace Mine

theorem rdL_all {f : PV → Option PyData} : ∀ {ps : List PV}, (∀ p ∈ ps, ∃ d, f p = some d) → ∃ ds, rdL f ps = some ds ∧ ds.length = ps.length
  | [], _ => ⟨[], rfl, rfl⟩
  | p :: ps, h => by
    obtain ⟨d, hd⟩ := h p List.mem_cons_self
    obtain ⟨ds, h1, h2⟩ := rdL_all (f := f) (ps := ps) fun q hq => h q (List.mem_cons_of_mem _ hq)
    exact ⟨d :: ds, by unfold rdL; rw [hd, h1], by simp [h2]⟩
theorem eqvAll_nil {ds : List PyData} : PyData.eqvAll ds [] = decide (ds = []) := by cases ds <;> simp [PyData.eqvAll]

section
variable {X : FX} {m : Loc} {H : AH} {E : Loc → AH → Prop}
/-- `x != []` -/
theorem ET.notNil {x : Str} {px pl pos : Pos} {a : Addr} {ps : List PV} {Q : Bool → Loc → AH → Prop} (O : X.Ok) (hl : X.env.kindOf x = some .local) (hv : m.lookup x = some (.ref a)) (ha : H a = some (.list ps)) (hrd : ∀ p ∈ ps, ∃ d, rd H 59 p = some d)
    (q : ∀ b, H b = none → Q (decide (ps ≠ [])) m (upd H b (.list []))) (hm : behindInMarks .NotEq (.List [] pl) = false := by with_unfolding_all rfl) (hdb : (x == ("__debug__" : Str)) = false := by decide) : ET X (.Compare (.Name x px) [.NotEq] [.List [] pl] pos) m H Q E := by
  obtain ⟨ds, h1, h2⟩ := rdL_all hrd
  refine ET.cmpD O (.inr rfl) (EV.local_ O hl hv (EV.list_ (fun b hb => ⟨.list ds, .list [], ?_, ?_, ?_⟩)) hdb) hm
  · refine rd_sub (Ext.new hb) _ _ _ ?_
    unfold rd; dsimp only; rw [ha]; dsimp only; rw [h1]; rfl
  · unfold rd; dsimp only; rw [upd_self]; rfl
  · have := q b hb
    have e : (if CmpOp.NotEq = CmpOp.Eq then PyData.eqv (.list ds) (.list []) else !PyData.eqv (.list ds) (.list [])) = decide (ps ≠ []) := by
      rw [if_neg (by decide)]
      show (!PyData.eqvAll ds []) = _
      rw [eqvAll_nil]
      cases ps with
      | nil => cases ds with | nil => rfl | cons => simp at h2
      | cons => cases ds with | nil => simp at h2 | cons => simp
    rw [e]; exact this
end

noncomputable def ats (vs : List Vl) : List Nat := vs.filterMap fun | .at a => some a | _ => none
noncomputable def pn : Cl → List Nat
  | .pa b _ => [b] | _ => []
theorem mem_succs {c : Cl} {b : Nat} : b ∈ c.succs ↔ b ∈ ats c.rvals ++ pn c := by
  cases c with
  | fn k vs => show b ∈ ats vs ↔ b ∈ ats vs ++ []; rw [List.append_nil]
  | th k vs => show b ∈ ats vs ↔ b ∈ ats vs ++ []; rw [List.append_nil]
  | da k vs => show b ∈ ats vs ↔ b ∈ ats vs ++ []; rw [List.append_nil]
  | pa a vs => show b ∈ a :: ats vs ↔ b ∈ ats vs ++ [a]; rw [List.mem_cons, List.mem_append, List.mem_singleton, Or.comm]
  | pl v => cases v <;> simp [Cl.succs, Cl.rvals, pn, ats]
  | ho => simp [Cl.succs, Cl.rvals, pn, ats]
  | li i => simp [Cl.succs, Cl.rvals, pn, ats]
theorem ats_len {vs : List Vl} : (ats vs).length ≤ vs.length := List.length_filterMap_le _ _
theorem kind_pa (c : Cl) : (c.kind == ("partial" : Str)) = !(pn c).isEmpty := by cases c <;> rfl
theorem ats_snoc {vs : List Vl} {k : Nat} {v : Vl} (h : vs[k]? = some v) : ats (vs.take (k + 1)) = ats (vs.take k) ++ (match v with | .at a => [a] | _ => []) := by
  rw [take_snoc h]; unfold ats; rw [List.filterMap_append]; cases v <;> rfl
theorem nats_append {a b : List Nat} : nats a ++ nats b = nats (a ++ b) := by simp [nats]
theorem rd_nats {H : AH} {l : List Nat} : ∀ p ∈ nats l, ∃ d, rd H 59 p = some d := fun p hp => by
  obtain ⟨x, _, rfl⟩ := List.mem_map.mp hp; exact ⟨_, rfl⟩

theorem none_of_x {H H' : AH} {a} (x : Ext H H') (n : H' a = none) : H a = none := by
  cases q : H a with
  | none => rfl
  | some o => rw [x _ _ q] at n; cases n
/-- sizes of cells -/
noncomputable def Fit (cs : List Cl) : Prop := ∀ c ∈ cs, c.rvals.length ≤ 1000
theorem Fit.at {cs} (x : Fit cs) {i : Nat} {c} (h : cs[i]? = some c) : c.rvals.length ≤ 1000 := x c (List.mem_iff_getElem?.mpr ⟨i, h⟩)

/-- what holds between the turns of `_law_is_whole` -/
inductive WI (cs : List Cl) (rs : List Nat) (H : AH) (rl ma : Addr) (f : Nat) (m : Loc) (H' : AH) : Prop
  | mk (la : Addr) (met left : List Nat) (h1 : Lk m "rows" (.ref rl)) (h2 : Lk m "met_at" (.ref ma)) (h3 : Lk m "left" (.ref la)) (h4 : H' ma = some (.list (nats met))) (h5 : H' la = some (.list (nats left))) (h6 : la ≠ ma) (h7 : H la = none) (h8 : Ext H H') (h9 : met.Nodup) (h10 : (∀ e ∈ met, e < cs.length)) (h11 : (∀ a ∈ left, Rc cs rs a)) (h12 : (∀ a ∈ rs, a ∈ left ∨ ∃ e ∈ met, lend cs a = some e)) (h13 : (∀ e ∈ met, ∀ c, cs[e]? = some c → ∀ b ∈ c.succs, b ∈ left ∨ ∃ e' ∈ met, lend cs b = some e')) (h14 : f = (cs.length - met.length) * 1002 + left.length) (h15 : f ≤ 2100000)
section
variable {Z : Zs} {n : Nat} {nn : Bool} {H : AH} {Q : PV → AH → Prop} {E : AH → Prop}

theorem c_is_whole {rl ra : Addr} {cs : List Cl} {rs : List Nat} (GG : (gl Z).Ok) (rows : RowsAt H rl cs) (sm : Small cs) (ft : Fit cs) (hra : H ra = some (.list (nats rs))) (hrs : ∀ x ∈ rs, x < 1000) (hrn : rs.length ≤ 1000)
    (q : ∀ b H', Ext H H' → (b = true → ∀ a, Rc cs rs a → ∃ e, lend cs a = some e) → (b = false → ∃ a, Rc cs rs a ∧ lend cs a = none) → Q (.bool b) H') : CallL (gl Z) (n + 2) nn 375 [.ref rl, .ref ra] H Q E := by
  refine CallL.intro GG (by rfl) (by kernel_rfl) ["rows", "roots"] (len2 fun w9 w9 => rfl) (by decide) (by decide) (by decide) rfl rfl rfl rfl fun V O => ?_
  have hcl := sm.len
  refine EX.next (E1.assignTup2 O rfl rfl (EV.tuple_ (EV.list_ (fun ma hma => EV.bcall O GG rfl kb_list rfl (.inl ⟨_, rfl⟩) (EV.local_ O rfl rfl (BCall.list_list ((upd_ne (ne_of_none' hma hra)).trans hra) (by rw [nats_len, sizeLine_eq]; lia) fun la hla => ⟨_, _, rfl, rfl, ?_⟩))))))
  have hlma : la ≠ ma := ne_of_none hla (upd_self)
  have hla0 : H la = none := by rw [upd_ne hlma] at hla; exact hla
  have X1 : Ext H (upd (upd H ma (.list [])) la (.list (nats rs))) := ((Ext.refl H).upd hma).upd hla0
  have g1 : upd (upd H ma (.list [])) la (.list (nats rs)) ma = some (.list (nats [])) := (upd_ne hlma.symm).trans upd_self
  have g2 : upd (upd H ma (.list [])) la (.list (nats rs)) la = some (.list (nats rs)) := upd_self
  generalize upd (upd H ma (.list [])) la (.list (nats rs)) = H1 at X1 g1 g2 ⊢
  refine EX.mid2 (fun m' H' => Ext H H' ∧ ∀ a, Rc cs rs a → ∃ e, lend cs a = some e)
    (E1.while_ O (WI cs rs H rl ma) (cs.length * 1002 + rs.length)
    ⟨la, [], rs, rfl, rfl, rfl, g1, g2, hlma, hla0, X1, List.nodup_nil, (fun e h => by cases h), (fun a h => .root h), (fun a h => .inl h), (fun e h => by cases h), rfl, by lia⟩ ?_) ?_
  · rintro f m H2 R u ⟨la, met, left, m1, m2, m3, g1, g2, hlm, hla0, X2, nd, hmb, hleft, hroot, hclo, hf, hfb⟩
    refine ET.notNil O rfl m3 g2 rd_nats fun b hb => ?_
    have g1 := Ext.new (o := .list []) hb _ _ g1
    have g2 := Ext.new (o := .list []) hb _ _ g2
    have X3 := X2.trans (Ext.new (o := .list []) hb)
    generalize upd H2 b (.list []) = H3 at g1 g2 X3 ⊢
    refine ⟨fun ht => ?_, fun hfalse => u.bk (.inl ⟨rfl, X3, fun a ha => ?_⟩)⟩
    · have hne : left ≠ [] := by
        intro z; subst z; exact absurd ht (by simp [nats])
      obtain ⟨l', x, rfl⟩ : ∃ l' x, left = l' ++ [x] := ⟨_, _, (List.dropLast_concat_getLast hne).symm⟩
      rw [List.length_append] at hf
      have hf' : f = (cs.length - met.length) * 1002 + l'.length + 1 := hf
      have hx := hleft x (by simp)
      have hxs : x < 1000 := by
        cases hx with
        | root h => exact hrs _ h
        | step h1 h2 h3 h4 => exact sm.su _ _ _ h3 h4
      -- at = _law_end(rows, left.pop())
      refine EX.next (E1.assign (EV.call O GG (EV.global_ O GG rfl kn_law_end ⟨365, rfl, kk_365, EV.local_ O rfl m1 (EV.pop (EV.local_ O rfl m3 ⟨la, nats l', .int (x : Nat), rfl, by rw [g2, ← nats_snoc], by rw [nats_len, sizeLine_eq]; lia, ?_⟩))⟩)))
      have X4 : Ext H (upd H3 la (.list (nats l'))) := X3.upd hla0
      have g1 : upd H3 la (.list (nats l')) ma = some (.list (nats met)) := (upd_ne hlm.symm).trans g1
      have g2 : upd H3 la (.list (nats l')) la = some (.list (nats l')) := upd_self
      generalize upd H3 la (.list (nats l')) = H4 at X4 g1 g2 ⊢
      refine c_law_end (n := n) GG (rows.ext X4) sm (by lia) fun H5 X5 => AT.local O rfl ⟨rfl, ?_⟩
      have m1 := m1.skip (y := "at") (q := lpv (lend cs x)) (by decide)
      have m2 := m2.skip (y := "at") (q := lpv (lend cs x)) (by decide)
      have m3 := m3.skip (y := "at") (q := lpv (lend cs x)) (by decide)
      have g1 := X5 _ _ g1
      have g2 := X5 _ _ g2
      have X5 := X4.trans X5
      cases hle : lend cs x with
      | none =>
        refine EX.ite (ET.cmp (EV.local_ O rfl rfl (EV.none_ ⟨fun w9 => ?_, nofun⟩)))
        exact EX.ret (EV.bool_ ⟨nofun, fun w9 => u.rt (.inr ⟨nofun, q false H5 X5 nofun fun w9 => ⟨x, hx, hle⟩⟩)⟩)
      | some e =>
        rw [hle] at m1 m2 m3
        obtain ⟨c, hc, hcl'⟩ := lend_end hle
        have hec : e < cs.length := (List.getElem?_eq_some_iff.mp hc).1
        refine EX.ite (ET.cmp (EV.local_ O rfl rfl (EV.none_ ⟨nofun, fun w9 => Then.go ?_⟩)))
        refine EX.ite (ET.cmp (EV.local_ O rfl rfl (EV.local_ O rfl m2 (.inl ⟨met.map fun x => ((x : Nat) : Int), by rw [g1, nats_int], ?_⟩))))
        rw [nats_any]
        by_cases hm : e ∈ met
        · rw [decide_eq_true hm]
          refine ⟨nofun, fun w9 => Then.go (EX.nil (u.nx ⟨_, ?_, la, met, l', m1, m2, m3, g1, g2, hlm, hla0, X5, nd, hmb, fun a ha => hleft a (by simp [ha]), fun a ha => ?_, fun e' he' c' hc' b hb => ?_, rfl, ?_⟩))⟩
          · lia
          · rcases hroot a ha with h | h
            · rcases List.mem_append.mp h with h | h
              · exact .inl h
              · rw [List.mem_singleton.mp h]; exact .inr ⟨e, hm, hle⟩
            · exact .inr h
          · rcases hclo e' he' c' hc' b hb with h | h
            · rcases List.mem_append.mp h with h | h
              · exact .inl h
              · rw [List.mem_singleton.mp h]; exact .inr ⟨e, hm, hle⟩
            · exact .inr h
          · lia
        · rw [decide_eq_false hm]
          refine ⟨fun w9 => ?_, nofun⟩
          have hml : met.length + 1 ≤ cs.length := by
            have := nodup_bound (l := e :: met) (List.nodup_cons.mpr ⟨hm, nd⟩) (n := cs.length) fun y hy => by
              rcases List.mem_cons.mp hy with rfl | hy
              · exact hec
              · exact hmb y hy
            simpa using this
          have hcz := ft.at hc
          refine EX.next (E1.expr O (EV.append (EV.local_ O rfl m2 ⟨ma, rfl, ⟨_, g1⟩, EV.local_ O rfl rfl ⟨_, g1, by rw [nats_len, sizeLine_eq]; lia, rfl, ?_⟩⟩)))
          rw [show nats met ++ [lpv (some e)] = nats (met ++ [e]) from nats_snoc]
          have X6 : Ext H (upd H5 ma (.list (nats (met ++ [e])))) := X5.upd hma
          have g1 : upd H5 ma (.list (nats (met ++ [e]))) ma = some (.list (nats (met ++ [e]))) := upd_self
          have g2 : upd H5 ma (.list (nats (met ++ [e]))) la = some (.list (nats l')) := (upd_ne hlm).trans g2
          generalize upd H5 ma (.list (nats (met ++ [e]))) = H6 at X6 g1 g2 ⊢
          obtain ⟨ps, hrl, h2⟩ := (rows.ext X6).ex
          obtain ⟨p, hp, ⟨rl', rfl, hrl'⟩⟩ := h2.right hc
          refine EX.next (E1.assign (EV.bin (EV.bin (EV.local_ O rfl m3 (EV.comp [] O (EV.sub (EV.sub (EV.local_ O rfl m1 (EV.local_ O rfl rfl (.inl ⟨ps, e, _, hrl, rfl, by lia, hp, EV.int_ ⟨2, _, rfl, by decide, rfl, ?_⟩⟩))))))))))
          refine ⟨c.rvals.map Vl.pv, some (rl', _), IterOf.list hrl', by rw [List.length_map, sizeLine_eq]; lia, fun D hD => ⟨fun k acc H7 => C4 (Ext H6 H7) (H6 D = none) (H7 D = some (.list acc)) (acc = nats (ats (c.rvals.take k))), ⟨Ext.new hD, hD, upd_self, rfl⟩, fun k acc H7 ⟨x7, _, h7, _⟩ => ⟨x7 _ _ hrl', h7⟩, ?_, ?_⟩⟩
          · rintro C it o k p acc H7 O7 hp7 ⟨x7, hD, h7, rfl⟩
            apply pvs_at hp7; intro v hvk
            have es := ats_snoc hvk
            refine AT.local O7 rfl ?_
            cases v with
            | int i =>
              refine ET.cmp (EV.sub (EV.local_ O7 rfl rfl (EV.int_ ⟨0, _, rfl, by decide, rfl, EV.str_ ⟨nofun, fun w9 => ⟨x7, hD, h7, ?_⟩⟩⟩)))
              rw [es]; simp
            | char i =>
              refine ET.cmp (EV.sub (EV.local_ O7 rfl rfl (EV.int_ ⟨0, _, rfl, by decide, rfl, EV.str_ ⟨nofun, fun w9 => ⟨x7, hD, h7, ?_⟩⟩⟩)))
              rw [es]; simp
            | «at» i =>
              refine ET.cmp (EV.sub (EV.local_ O7 rfl rfl (EV.int_ ⟨0, _, rfl, by decide, rfl, EV.str_ ⟨fun w9 => ?_, nofun⟩⟩)))
              refine EV.sub (EV.local_ O7 rfl rfl (EV.int_ ⟨1, _, rfl, by decide, rfl, h7, x7.upd hD, hD, upd_self, ?_⟩))
              rw [es]; exact nats_snoc
          · rintro acc H7 ⟨x7, hD, h7, rfl⟩
            rw [List.length_map, List.take_length] at h7
            have hal := ats_len (vs := c.rvals)
            refine ⟨nats l', nats (ats c.rvals), x7 _ _ g2, h7, by rw [nats_len, nats_len, sizeLine_eq]; lia, fun l2 hl2 => ?_⟩
            rw [nats_append]
            have x8 : Ext H6 (upd H7 l2 (.list (nats (l' ++ ats c.rvals)))) := x7.trans (Ext.new hl2)
            have g3 : upd H7 l2 (.list (nats (l' ++ ats c.rvals))) l2 = some (.list (nats (l' ++ ats c.rvals))) := upd_self
            generalize upd H7 l2 (.list (nats (l' ++ ats c.rvals))) = H8 at x8 g3 ⊢
            -- the last part
            refine EV.ifexp (ET.cmp (EV.sub (EV.sub (EV.local_ O rfl m1 (EV.local_ O rfl rfl (.inl ⟨ps, e, _, x8 _ _ hrl, rfl, by lia, hp, EV.int_ ⟨0, _, rfl, by decide, rfl, EV.str_ ?_⟩⟩))))))
            show ((c.kind == ("partial" : Str)) = true → _) ∧ ((c.kind == ("partial" : Str)) = false → _)
            rw [kind_pa]
            have fin : ∀ H9 l4, Ext H6 H9 → H9 l4 = some (.list (nats ((l' ++ ats c.rvals) ++ pn c))) → H6 l4 = none → ∃ k, k < f ∧ WI cs rs H rl ma k (("left", .ref l4) :: ("at", lpv (some e)) :: m) H9 := by
              intro H9 l4 x9 h9 hn
              have hl4 : H l4 = none := by
                cases z : H l4 with
                | none => rfl
                | some o => rw [X6 _ _ z] at hn; cases hn
              have hpn : (pn c).length ≤ 1 := by cases c <;> simp [pn]
              refine ⟨_, ?_, l4, met ++ [e], (l' ++ ats c.rvals) ++ pn c, m1.skip (by decide), m2.skip (by decide), rfl, x9 _ _ g1, h9, ne_of_none hn g1, hl4, X6.trans x9, ?_, ?_, ?_, ?_, ?_, rfl, ?_⟩
              · rw [List.length_append, List.length_append, List.length_append]
                show (cs.length - (met.length + 1)) * 1002 + _ < f
                lia
              · rw [List.nodup_append]
                exact ⟨nd, by simp, fun x hx y hy z => by rw [List.mem_singleton.mp hy] at z; exact hm (z ▸ hx)⟩
              · intro y hy
                rcases List.mem_append.mp hy with z | z
                · exact hmb y z
                · rw [List.mem_singleton.mp z]; exact hec
              · intro a ha
                rcases List.mem_append.mp ha with z | z
                · rcases List.mem_append.mp z with z | z
                  · exact hleft a (by simp [z])
                  · exact .step hx hle hc (mem_succs.mpr (List.mem_append_left _ z))
                · exact .step hx hle hc (mem_succs.mpr (List.mem_append_right _ z))
              · intro a ha
                rcases hroot a ha with h | ⟨e', h, h'⟩
                · rcases List.mem_append.mp h with h | h
                  · exact .inl (by simp [h])
                  · rw [List.mem_singleton.mp h]; exact .inr ⟨e, by simp, hle⟩
                · exact .inr ⟨e', by simp [h], h'⟩
              · intro e' he' c' hc' b hb
                rcases List.mem_append.mp he' with he' | he'
                · rcases hclo e' he' c' hc' b hb with h | ⟨e2, h, h'⟩
                  · rcases List.mem_append.mp h with h | h
                    · exact .inl (by simp [h])
                    · rw [List.mem_singleton.mp h]; exact .inr ⟨e, by simp, hle⟩
                  · exact .inr ⟨e2, by simp [h], h'⟩
                · rw [List.mem_singleton.mp he'] at hc'
                  rw [hc] at hc'; cases hc'
                  have := mem_succs.mp hb
                  exact .inl (by rw [List.append_assoc]; exact List.mem_append_right _ this)
              · rw [List.length_append, List.length_append, List.length_append]
                show (cs.length - (met.length + 1)) * 1002 + _ ≤ 2100000
                lia
            have szb : (l' ++ ats c.rvals).length + 1 ≤ sizeLine := by rw [List.length_append, sizeLine_eq]; lia
            cases hpc : pn c with
            | nil =>
              refine ⟨nofun, fun w9 => EV.list_ (fun l3 hl3 => ⟨_, _, (Ext.new hl3) _ _ g3, upd_self, by rw [nats_len]; exact Nat.le_of_lt szb, fun l4 hl4 => AT.local O rfl ⟨rfl, Then.go (EX.nil (u.nx (fin _ l4 ((x8.trans (Ext.new hl3)).trans (Ext.new hl4)) (by rw [hpc]; exact upd_self.trans (by simp [nats])) ?_)))⟩⟩)⟩
              exact none_of_x (x8.trans (Ext.new hl3)) hl4
            | cons b0 r0 =>
              obtain ⟨vs, rfl⟩ : ∃ vs, c = .pa b0 vs := by
                clear hc hp hrl' g3 x8 fin szb
                cases c <;> first | exact ⟨_, by cases hpc; rfl⟩ | cases hpc
              obtain rfl : r0 = [] := by cases hpc; rfl
              refine ⟨fun w9 => EV.list_ (EV.sub (EV.sub (EV.local_ O rfl m1 (EV.local_ O rfl rfl (.inl ⟨ps, e, _, x8 _ _ hrl, rfl, by lia, hp, EV.int_ ⟨1, _, rfl, by decide, rfl, fun l3 hl3 => ⟨_, _, (Ext.new hl3) _ _ g3, upd_self, by rw [nats_len]; exact szb, fun l4 hl4 => AT.local O rfl ⟨rfl, Then.go (EX.nil (u.nx (fin _ l4 ((x8.trans (Ext.new hl3)).trans (Ext.new hl4)) (upd_self.trans (congrArg (fun z => some (AO.list z)) nats_snoc)) ?_)))⟩⟩⟩⟩))))), nofun⟩
              exact none_of_x (x8.trans (Ext.new hl3)) hl4
    · have hl0 : left = [] := by
        cases left with
        | nil => rfl
        | cons => exact absurd hfalse (by simp [nats])
      subst hl0
      have key : ∀ a, Rc cs rs a → ∃ e ∈ met, lend cs a = some e := by
        intro a ha
        induction ha with
        | root h => rcases hroot _ h with h | h; (cases h); exact h
        | step h1 h2 h3 h4 ih =>
          obtain ⟨e', h5, h6⟩ := ih
          rw [h2] at h6; cases h6
          rcases hclo _ h5 _ h3 _ h4 with h | h
          · cases h
          · exact h
      obtain ⟨e, _, h⟩ := key a ha
      exact ⟨e, h⟩
  · rintro m H2 ⟨X2, hall⟩
    exact EX.ret (EV.bool_ (q true H2 X2 (fun w9 => hall) nofun))
end
end Mine

namespace Mine

/-! ## Plain parts of `_law_pairs` -/
noncomputable def vpairs (c c' : Cl) : List (Vl × Vl) := c.rvals.zip c'.rvals ++ (match c, c' with | .pa a _, .pa b _ => [(.at a, .at b)] | _, _ => [])
theorem All2.zip_mem {α β : Type} {R : α → β → Prop} {l : List α} {m : List β} (x : All2 R l m) : ∀ y ∈ l.zip m, R y.1 y.2 := by
  induction x with
  | nil => intro y hy; cases hy
  | cons h _ ih =>
    intro y hy
    rw [List.zip_cons_cons] at hy
    rcases List.mem_cons.mp hy with rfl | hy
    · exact h
    · exact ih y hy
theorem All2.zip_left {α β : Type} {R : α → β → Prop} {l : List α} {m : List β} (x : All2 R l m) : ∀ a ∈ l, ∃ b, (a, b) ∈ l.zip m := by
  induction x with
  | nil => intro a ha; cases ha
  | @cons a0 b0 l m h _ ih =>
    intro a ha
    rcases List.mem_cons.mp ha with rfl | ha
    · exact ⟨b0, by rw [List.zip_cons_cons]; exact List.mem_cons_self⟩
    · obtain ⟨b, hb⟩ := ih a ha
      exact ⟨b, by rw [List.zip_cons_cons]; exact List.mem_cons_of_mem _ hb⟩
theorem mem_ats {vs : List Vl} {b : Nat} : b ∈ ats vs ↔ Vl.at b ∈ vs := by
  unfold ats
  rw [List.mem_filterMap]
  constructor
  · rintro ⟨v, hv, e⟩
    cases v with
    | int i => cases e
    | char s => cases e
    | «at» a => cases e; exact hv
  · intro h; exact ⟨_, h, rfl⟩
theorem CpC.rvals {mv c c'} (x : CpC mv c c') : All2 (CpV mv) c.rvals c'.rvals := by
  cases x with
  | fn k h => exact h
  | th k h => exact h
  | pa h1 h => exact h
  | da k h => exact h
  | ho => exact .nil
  | pl h => exact .cons h .nil
theorem CpC.kind {mv c c'} (x : CpC mv c c') : c.kind = c'.kind := by cases x <;> rfl
theorem CpC.alt {mv c c'} (x : CpC mv c c') : (∃ a b : Nat, C6 ((c.kind == ("partial" : Str)) = true) (c.name = .int a) (c'.name = .int b) (vpairs c c' = c.rvals.zip c'.rvals ++ [(.at a, .at b)]) (pn c = [a]) (CpV mv (.at a) (.at b))) ∨ (∃ s, C5 ((c.kind == ("partial" : Str)) = false) (c.name = .str s) (c'.name = .str s) (vpairs c c' = c.rvals.zip c'.rvals) (pn c = [])) := by
  cases x with
  | pa h1 h => exact .inl ⟨_, _, rfl, rfl, rfl, rfl, rfl, .at h1⟩
  | _ => exact .inr ⟨_, rfl, rfl, rfl, List.append_nil _, rfl⟩
theorem CpV.alt {mv v v'} (x : CpV mv v v') : (v' = v ∧ ∃ t p, (v.pv = .tup [.str t, p] ∧ (t == ("at" : Str)) = false)) ∨ ∃ a j : Nat, v = .at a ∧ v' = .at j ∧ mv.lookup (a : Int) = some (.int (j : Nat)) := by
  cases x with
  | int i => exact .inl ⟨rfl, _, _, rfl, rfl⟩
  | char s => exact .inl ⟨rfl, _, _, rfl, rfl⟩
  | «at» h => exact .inr ⟨_, _, rfl, rfl, h⟩
theorem CpC.mem {mv c c'} (x : CpC mv c c') {y : Vl × Vl} (h : y ∈ vpairs c c') : y ∈ c.rvals.zip c'.rvals ∨ ∃ a b : Nat, y = (.at a, .at b) ∧ pn c = [a] ∧ CpV mv (.at a) (.at b) := by
  rcases x.alt with ⟨a, b, _, _, _, e, e2, e3⟩ | ⟨_, _, _, _, e, _⟩
  · rw [e] at h
    exact (List.mem_append.mp h).imp_right fun h => ⟨a, b, List.mem_singleton.mp h, e2, e3⟩
  · exact .inl (e ▸ h)
theorem CpC.succ_mem {mv c c'} (x : CpC mv c c') {b v'} (h : (Vl.at b, v') ∈ vpairs c c') : b ∈ ats c.rvals ++ pn c := by
  rcases x.mem h with h | ⟨a, b', e, e2, _⟩
  · exact List.mem_append_left _ (mem_ats.mpr (List.of_mem_zip h).1)
  · rw [e2, Vl.at.inj (Prod.mk.inj e).1]; exact List.mem_append_right _ List.mem_cons_self
theorem CpC.char_mem {mv c c'} (x : CpC mv c c') {s v'} (h : (Vl.char s, v') ∈ vpairs c c') : Vl.char s ∈ c.rvals := by
  rcases x.mem h with h | ⟨a, b', e, _⟩
  · exact (List.of_mem_zip h).1
  · exact Vl.noConfusion (Prod.mk.inj e).1
theorem CpC.pairs {mv c c'} (x : CpC mv c c') : (∀ y ∈ vpairs c c', CpV mv y.1 y.2) ∧ ∀ b ∈ c.succs, ∃ v', (Vl.at b, v') ∈ vpairs c c' := by
  have r := x.rvals
  refine ⟨fun y hy => ?_, fun b hb => ?_⟩
  · rcases x.mem hy with h | ⟨a, b', e, _, h⟩
    · exact r.zip_mem y h
    · rw [e]; exact h
  · have z := x.alt
    rcases List.mem_append.mp (mem_succs.mp hb) with h | h
    · obtain ⟨v', h'⟩ := r.zip_left _ (mem_ats.mp h)
      refine ⟨v', ?_⟩
      rcases z with ⟨a, b, _, _, _, e, _, _⟩ | ⟨_, _, _, _, e, _⟩
      · rw [e]; exact List.mem_append_left _ h'
      · rw [e]; exact h'
    · rcases z with ⟨a, b, _, _, _, e, e2, _⟩ | ⟨_, _, _, _, e, e2⟩
      · rw [e2] at h
        rw [List.mem_singleton.mp h, e]
        exact ⟨_, List.mem_append_right _ List.mem_cons_self⟩
      · rw [e2] at h; exact absurd h List.not_mem_nil
theorem vpairs_len {mv c c'} (x : CpC mv c c') : (vpairs c c').length ≤ c.rvals.length + 1 := by
  have h : (c.rvals.zip c'.rvals).length = c.rvals.length := by rw [List.length_zip, x.rvals.len, Nat.min_self]
  rcases x.alt with ⟨a, b, _, _, _, e, _, _⟩ | ⟨_, _, _, _, e, _⟩
  · rw [e, List.length_append, h]; exact Nat.le_refl _
  · rw [e, h]; exact Nat.le_succ _

/-- chars and names are good strings -/
noncomputable def Okc (cs : List Cl) : Prop := ∀ c ∈ cs, (∀ s, Vl.char s ∈ c.rvals → PyData.strOk s = true) ∧ (∀ s, c.name = .str s → PyData.strOk s = true)

/-- pairs of numbers as they stand in dicts and lists -/
noncomputable def fdP (fl : List (Nat × Nat)) : List (Int × PV) := fl.map fun x => ((x.1 : Nat), .int (x.2 : Nat))
noncomputable def lfP (lf : List (Nat × Nat)) : List PV := lf.map fun x => .tup [.int (x.1 : Nat), .int (x.2 : Nat)]
theorem fdPk_at {fl : List (Nat × Nat)} {k : Nat} {p : PV} (h : ((fdP fl).map fun x => PV.int x.1)[k]? = some p) : ∃ x, fl[k]? = some x ∧ p = .int (x.1 : Nat) := by
  unfold fdP at h
  rw [List.map_map] at h
  exact map_at h
theorem fdP_lookup {e : Nat} : ∀ {fl : List (Nat × Nat)}, (fdP fl).lookup (e : Int) = (fl.lookup e).map fun j => PV.int (j : Nat)
  | [] => rfl
  | (a, b) :: r => by
    show List.lookup (e : Int) ((((a : Nat) : Int), PV.int (b : Nat)) :: fdP r) = _
    rw [List.lookup_cons, List.lookup_cons]
    by_cases z : e = a
    · subst z; simp
    · have z1 : (e == a) = false := by simpa using z
      have z2 : ((e : Int) == ((a : Nat) : Int)) = false := by rw [beq_eq_false_iff_ne]; lia
      rw [z1, z2]; exact fdP_lookup
theorem lookup_mem' {fl : List (Nat × Nat)} {e j : Nat} (h : fl.lookup e = some j) : (e, j) ∈ fl := by
  induction fl with
  | nil => cases h
  | cons x r ih =>
    obtain ⟨a, b⟩ := x
    rw [List.lookup_cons] at h
    by_cases z : e = a
    · subst z; simp at h; subst h; exact List.mem_cons_self
    · have z1 : (e == a) = false := by simpa using z
      rw [z1] at h; exact List.mem_cons_of_mem _ (ih h)
theorem lookup_none' {fl : List (Nat × Nat)} {e : Nat} (h : fl.lookup e = none) : e ∉ fl.map (·.1) := by
  induction fl with
  | nil => simp
  | cons x r ih =>
    obtain ⟨a, b⟩ := x
    rw [List.lookup_cons] at h
    by_cases z : e = a
    · subst z; simp at h
    · have z1 : (e == a) = false := by simpa using z
      rw [z1] at h
      rw [List.map_cons, List.mem_cons, not_or]; exact ⟨z, ih h⟩
theorem putI_fresh {es : List (Int × PV)} {k : Int} {p : PV} (h : k ∉ es.map (·.1)) : putI es k p = es ++ [(k, p)] := by
  unfold putI
  rw [if_neg fun z => ?_]
  obtain ⟨x, hx, e⟩ := List.any_eq_true.mp z
  exact h (List.mem_map.mpr ⟨x, hx, of_decide_eq_true e⟩)
theorem fdP_keys {fl : List (Nat × Nat)} : (fdP fl).map (·.1) = (fl.map (·.1)).map fun x => ((x : Nat) : Int) := by simp [fdP]
theorem fdP_put {fl : List (Nat × Nat)} {e j : Nat} (h : e ∉ fl.map (·.1)) : putI (fdP fl) (e : Nat) (.int (j : Nat)) = fdP (fl ++ [(e, j)]) := by
  rw [putI_fresh]
  · simp [fdP]
  · rw [fdP_keys]; intro hm
    obtain ⟨x, hx, e'⟩ := List.mem_map.mp hm
    have : x = e := by lia
    exact h (this ▸ hx)
theorem putAll_fresh : ∀ {l es : List (Int × PV)}, ((es ++ l).map (·.1)).Nodup → putAll es l = es ++ l
  | [], es, _ => by simp [putAll]
  | (k, p) :: r, es, h => by
    show putAll (putI es k p) r = _
    rw [putI_fresh, putAll_fresh]
    · simp
    · simpa using h
    · intro hm
      rw [List.map_append, List.nodup_append] at h
      exact h.2.2 k hm k (by simp) rfl
theorem nodup_sub : ∀ {l m : List Nat}, l.Nodup → (∀ x ∈ l, x ∈ m) → l.length ≤ m.length
  | [], _, _, _ => Nat.zero_le _
  | x :: r, m, nd, h => by
    rw [List.nodup_cons] at nd
    have hx := h x List.mem_cons_self
    have := nodup_sub (l := r) (m := m.erase x) nd.2 fun y hy => by
      have : y ≠ x := fun e => nd.1 (e ▸ hy)
      exact (List.mem_erase_of_ne this).mpr (h y (List.mem_cons_of_mem _ hy))
    rw [List.length_erase_of_mem hx] at this
    have : 0 < m.length := List.length_pos_of_mem hx
    rw [List.length_cons]; lia
theorem rd_lf {H : AH} {lf : List (Nat × Nat)} : ∀ p ∈ lfP lf, ∃ d, rd H 59 p = some d := fun p hp => by
  obtain ⟨x, _, rfl⟩ := List.mem_map.mp hp; exact ⟨_, rfl⟩
theorem lfP_snoc {lf : List (Nat × Nat)} {x : Nat × Nat} : lfP lf ++ [.tup [.int (x.1 : Nat), .int (x.2 : Nat)]] = lfP (lf ++ [x]) := by simp [lfP]
theorem lfP_len {lf : List (Nat × Nat)} : (lfP lf).length = lf.length := by simp [lfP]
theorem fdP_len {lf : List (Nat × Nat)} : (fdP lf).length = lf.length := by simp [fdP]

/-- to be met, or met -/
noncomputable def In2 (lf fl : List (Nat × Nat)) (e : Nat) : Prop := (∃ j, (e, j) ∈ lf) ∨ ∃ j, (e, j) ∈ fl
/-- what holds between the turns of `_law_pairs` -/
inductive PI (cs : List Cl) (rs wt : List Nat) (H : AH) (fr fd : Addr) (f : Nat) (m : Loc) (H' : AH) : Prop
  | mk (la : Addr) (fl lf : List (Nat × Nat)) (ep : Nat) (h1 : Lk m "fresh" (.ref fr)) (h2 : Lk m "found" (.ref fd)) (h3 : Lk m "left" (.ref la)) (h4 : H' fd = some (.dict (fdP fl) ep)) (h5 : H' la = some (.list (lfP lf))) (h6 : H fd = none) (h7 : H la = none) (h8 : Ext H H') (h9 : (fl.map (·.1)).Nodup) (h10 : (∀ x ∈ fl, wt[x.2]? = some x.1)) (h11 : (∀ x ∈ lf, wt[x.2]? = some x.1)) (h12 : (∀ a ∈ rs, ∀ e, lend cs a = some e → In2 lf fl e)) (h13 : (∀ x ∈ fl, ∀ c, cs[x.1]? = some c → ∀ b ∈ c.succs, ∀ e, lend cs b = some e → In2 lf fl e)) (h14 : f = (wt.length - fl.length) * 1002 + lf.length) (h15 : f ≤ 2100000)
end Mine

namespace Mine
theorem nodup_of_map {α β : Type} {f : α → β} : ∀ {l : List α}, (l.map f).Nodup → l.Nodup
  | [], _ => List.nodup_nil
  | x :: r, h => by
    rw [List.map_cons, List.nodup_cons] at h
    rw [List.nodup_cons]
    exact ⟨fun hm => h.1 (List.mem_map.mpr ⟨x, hm, rfl⟩), nodup_of_map h.2⟩
section
variable {Z : Zs} {n : Nat} {nn : Bool} {H : AH} {Q : PV → AH → Prop} {E : AH → Prop}

noncomputable def vpP (vp : List (Vl × Vl)) : List PV := vp.map fun x => .tup [x.1.pv, x.2.pv]
theorem vpP_at {l : List (Vl × Vl)} {k : Nat} {p : PV} (h : (vpP l)[k]? = some p) : ∃ y, l[k]? = some y ∧ p = .tup [y.1.pv, y.2.pv] := map_at h
noncomputable def dv : Vl → PyData
  | .int i => .tuple [.str "int", .int i]
  | .char s => .tuple [.str "char", .str s]
  | .at a => .tuple [.str "at", .int (a : Nat)]
theorem rd_str {H : AH} {n : Nat} {s : Str} (h : PyData.strOk s = true) : rd H (n + 1) (.str s) = some (.str s) := by
  show (if PyData.strOk s = true then some (PyData.str s) else none) = _; rw [if_pos h]
theorem rd_pair {H : AH} {n : Nat} {s : Str} {p : PV} {d : PyData} (h : PyData.strOk s = true) (h2 : rd H (n + 1) p = some d) : rd H (n + 2) (.tup [.str s, p]) = some (.tuple [.str s, d]) := by
  show (rdL (rd H (n + 1)) [.str s, p]).map PyData.tuple = _
  unfold rdL rdL rdL
  rw [rd_str h, h2]; rfl
theorem rd_vl {H : AH} {n : Nat} {v : Vl} (h : ∀ s, v = .char s → PyData.strOk s = true) : rd H (n + 2) v.pv = some (dv v) := by
  cases v with
  | int i => exact rd_pair (by decide +kernel) rfl
  | char s => exact rd_pair (by decide +kernel) (rd_str (h s rfl))
  | «at» a => exact rd_pair (by decide +kernel) rfl
theorem dv_eq {v : Vl} : PyData.eqv (dv v) (dv v) = true := by cases v <;> simp [dv, PyData.eqv, PyData.eqvAll]
theorem map_zip_pv : ∀ {a b : List Vl}, ((a.map Vl.pv).zip (b.map Vl.pv)).map (fun x => PV.tup [x.1, x.2]) = vpP (a.zip b)
  | [], _ => rfl
  | _ :: _, [] => rfl
  | x :: r, y :: s => by
    have ih := map_zip_pv (a := r) (b := s)
    unfold vpP at ih ⊢
    simp only [List.map_cons, List.zip_cons_cons]
    rw [ih]

theorem c_pairs {rl ra fr md : Addr} {cs cs' : List Cl} {rs wt : List Nat} {mv : List (Int × PV)} {ep : Nat} (GG : (gl Z).Ok) (rows : RowsAt H rl cs) (sm : Small cs) (ft : Fit cs) (ok : Okc cs) (hra : H ra = some (.list (nats rs))) (hrs : ∀ x ∈ rs, x < 1000) (hrn : rs.length ≤ 1000)
    (fresh : HeapAt H fr cs') (hmd : H md = some (.dict mv ep)) (col : Col cs rs mv wt cs')
    (q : ∀ fd fl ep H', Ext H H' → H fd = none → H' fd = some (.dict (fdP fl) ep) → (fl.map (·.1)).Nodup → (∀ x ∈ fl, wt[x.2]? = some x.1) → (∀ j e : Nat, wt[j]? = some e → (e, j) ∈ fl) → Q (.ref fd) H') :
    CallL (gl Z) (n + 4) true 370 [.ref rl, .ref ra, .ref fr, .ref md] H Q E := by
  refine CallL.introC GG (by rfl) (by kernel_rfl) ["rows", "roots", "fresh", "moved"] (len4 fun w9 w9 w9 w9 => rfl)
    (fun n x hx => by simp only [List.mem_cons, List.not_mem_nil, or_false] at hx; rcases hx with rfl | rfl | rfl | rfl <;> first | exact .inl rfl | exact .inr ⟨rfl, rfl⟩) (by decide)
    (fun n => by show (["moved", "rows"] : List Str).Nodup; decide) (fun n x hx => by have hx : x ∈ [(("moved" : Str), n + 1), ("rows", n)] := hx; simp only [List.mem_cons, List.not_mem_nil, or_false] at hx; rcases hx with rfl | rfl <;> rfl) rfl rfl rfl rfl fun V O hcn => ?_
  have hc0 : H (V.L + 1) = none := hcn ("rows", V.L + 1) (by exact List.mem_cons_of_mem _ List.mem_cons_self)
  have hc1 : H (V.L + 2) = none := hcn ("moved", V.L + 2) (by exact List.mem_cons_self)
  change EX _ _ _ (upd (upd H (V.L + 1) (.cell (some (.ref rl)))) (V.L + 2) (.cell (some (.ref md)))) _ _
  have X1 : Ext H (upd (upd H (V.L + 1) (.cell (some (.ref rl)))) (V.L + 2) (.cell (some (.ref md)))) := ((Ext.refl H).upd hc0).upd hc1
  have cr : upd (upd H (V.L + 1) (.cell (some (.ref rl)))) (V.L + 2) (.cell (some (.ref md))) (V.L + 1) = some (.cell (some (.ref rl))) := (upd_ne (fun z : V.L + 1 = V.L + 2 => Nat.succ_ne_self V.L (Nat.succ.inj z).symm)).trans upd_self
  have cm : upd (upd H (V.L + 1) (.cell (some (.ref rl)))) (V.L + 2) (.cell (some (.ref md))) (V.L + 2) = some (.cell (some (.ref md))) := upd_self
  generalize upd (upd H (V.L + 1) (.cell (some (.ref rl)))) (V.L + 2) (.cell (some (.ref md))) = H1 at X1 cr cm ⊢
  have hcl := sm.len
  have hwl := col.iv.wlen
  have uni : ∀ {i j e : Nat}, wt[i]? = some e → wt[j]? = some e → i = j := fun h1 h2 => col.iv.uniq h1 h2
  have hwt : ∀ {j e : Nat}, wt[j]? = some e → e < cs.length := fun h => lend_lt (col.iv.wtM _ _ h).2
  -- found, left = ({}, [...])
  refine EX.next (E1.assignTup2 O rfl rfl (EV.tuple_ (EV.dict0 fun fd ep0 hfd => EV.comp [("rows", V.L + 1), ("moved", V.L + 2)] O (EV.local_ O rfl rfl ?_))))
  have X2 := Ext.new (o := .dict [] ep0) hfd
  have gfd : upd H1 fd (.dict [] ep0) fd = some (.dict [] ep0) := upd_self
  generalize upd H1 fd (.dict [] ep0) = H2 at X2 gfd ⊢
  have hra2 := X2 _ _ (X1 _ _ hra)
  have rows2 := (rows.ext X1).ext X2
  have hmd2 := X2 _ _ (X1 _ _ hmd)
  have cr2 := X2 _ _ cr
  have cm2 := X2 _ _ cm
  have hfd0 : H fd = none := none_of_x X1 hfd
  refine ⟨nats rs, some (ra, _), IterOf.list hra2, by rw [nats_len, sizeLine_eq]; lia, fun D hD => ⟨fun k acc H3 => C4 (Ext H2 H3) (H2 D = none) (H3 D = some (.list acc)) (Ex1 fun lf => C4 (acc = lfP lf) (lf.length = k) ((∀ x ∈ lf, wt[x.2]? = some x.1)) (∀ (j a e : Nat), j < k → rs[j]? = some a → lend cs a = some e → ∃ i, (e, i) ∈ lf)),
    ⟨Ext.new hD, hD, upd_self, [], rfl, rfl, (fun x h => by cases h), fun j a e h _ _ => absurd h (Nat.not_lt_zero _)⟩, fun k acc H3 ⟨x3, _, h3, _⟩ => ⟨x3 _ _ hra2, h3⟩, ?_, ?_⟩⟩
  · rintro C it o k p acc H3 O3 hp ⟨x3, hD, h3, lf, rfl, hk, hlf, hrt⟩
    apply nats_at hp; intro a ha
    have hmem : a ∈ rs := List.mem_iff_getElem?.mpr ⟨k, ha⟩
    obtain ⟨i, e, h5, h6, h7⟩ := col.rts a hmem
    refine AT.local O3 rfl ⟨fun w9 => ?_, nofun⟩
    refine EV.tuple_ (EV.call O3 GG (EV.global_ O3 GG rfl kn_law_end ⟨365, rfl, kk_365, EV.cell_ O3 (.inl rfl) rfl (x3 _ _ cr2) (EV.local_ O3 rfl rfl ?_)⟩))
    refine c_law_end (n := n + 2) GG (rows2.ext x3) sm (by have := hrs a hmem; lia) fun H4 X4 => ?_
    rw [h7]
    refine EV.get (EV.cell_ O3 (.inl rfl) rfl (X4 _ _ (x3 _ _ cm2)) ⟨md, rfl, ⟨mv, ep, X4 _ _ (x3 _ _ hmd2)⟩, EV.local_ O3 rfl rfl ⟨mv, ep, _, rfl, X4 _ _ (x3 _ _ hmd2), ?_⟩⟩)
    rw [h5]
    refine ⟨X4 _ _ h3, (x3.trans X4).upd hD, hD, upd_self, lf ++ [(e, i)], lfP_snoc (x := (e, i)), by rw [List.length_append, hk]; rfl, ?_, ?_⟩
    · intro x hx
      rcases List.mem_append.mp hx with z | z
      · exact hlf x z
      · rw [List.mem_singleton.mp z]; exact h6
    · intro j a' e' hj ha' he'
      by_cases z : j = k
      · subst z; rw [ha] at ha'; cases ha'; rw [h7] at he'; cases he'; exact ⟨i, by simp⟩
      · obtain ⟨i', h8⟩ := hrt j a' e' (by lia) ha' he'
        exact ⟨i', by simp [h8]⟩
  rintro acc H3 ⟨x3, hD, h3, lf, rfl, hk, hlf, hrt⟩
  rw [nats_len] at hrt hk
  have X3 : Ext H H3 := (X1.trans X2).trans x3
  have hD0 : H D = none := none_of_x (X1.trans X2) hD
  refine ⟨_, _, rfl, rfl, ?_⟩
  have gfd3 := x3 _ _ gfd
  have cr3 := x3 _ _ cr2
  generalize hm0 : ((("found", .ref fd) : Str × PV) :: ("left", .ref D) :: onlyLoc _ _) = m0
  have k1 : Lk m0 "fresh" (.ref fr) := by rw [← hm0]; rfl
  have k2 : Lk m0 "found" (.ref fd) := by rw [← hm0]; rfl
  have k3 : Lk m0 "left" (.ref D) := by rw [← hm0]; rfl
  clear hm0
  refine EX.mid2 (fun m' H' => Ex2 fun fl ep => C6 (Lk m' "found" (.ref fd)) (H' fd = some (.dict (fdP fl) ep)) (Ext H H') ((fl.map (·.1)).Nodup) ((∀ x ∈ fl, wt[x.2]? = some x.1)) ((∀ j e : Nat, wt[j]? = some e → (e, j) ∈ fl)))
    (E1.while_ O (fun f m H' => PI cs rs wt H fr fd f m H' ∧ H' (V.L + 1) = some (.cell (some (.ref rl)))) (wt.length * 1002 + lf.length)
      ⟨⟨D, [], lf, ep0, k1, k2, k3, gfd3, h3, hfd0, hD0, X3, List.nodup_nil, (fun x h => by cases h), hlf, fun a ha e he => ?_, (fun x h => by cases h), rfl, by rw [hk]; lia⟩, cr3⟩ ?_) ?_
  · obtain ⟨j, hj⟩ := List.mem_iff_getElem?.mp ha
    obtain ⟨i, hi⟩ := hrt j a e (List.getElem?_eq_some_iff.mp hj).1 hj he
    exact .inl ⟨i, hi⟩
  · clear k1 k2 k3 gfd3 cr3 h3 hlf hrt hk hD0 X3 x3 hD cr2 cm2 hmd2 rows2 hra2 gfd X2 hfd cr cm X1 m0
    rintro f m H4 R u ⟨⟨la, fl, lf, ep, k1, k2, k3, gd, gl, hfd, hla, X4, nd, hfl, hlf, hro, hcl2, hf, hfb⟩, cr⟩
    refine ET.notNil O rfl k3 gl rd_lf fun b hb => ?_
    have Xb := Ext.new (o := .list []) hb
    have gd := Xb _ _ gd
    have gl := Xb _ _ gl
    have X4 := X4.trans Xb
    have cr := Xb _ _ cr
    generalize upd H4 b (.list []) = H5 at gd gl X4 cr ⊢
    refine ⟨fun ht => ?_, fun hfalse => u.bk (.inl ⟨rfl, fl, ep, k2, gd, X4, nd, hfl, ?_⟩)⟩
    · have hne : lf ≠ [] := by
        intro z; subst z; exact absurd ht (by simp [lfP])
      obtain ⟨l', x, rfl⟩ : ∃ l' x, lf = l' ++ [x] := ⟨_, _, (List.dropLast_concat_getLast hne).symm⟩
      obtain ⟨e, j⟩ := x
      have hje : wt[j]? = some e := hlf (e, j) (by simp)
      have hje' := hwt hje
      have hjl : j < wt.length := (List.getElem?_eq_some_iff.mp hje).1
      rw [List.length_append] at hf
      have hf' : f = (wt.length - fl.length) * 1002 + l'.length + 1 := hf
      have hlf' : ∀ x ∈ l', wt[x.2]? = some x.1 := fun x h => hlf x (by simp [h])
      refine EX.next (E1.assign (EV.pop (EV.local_ O rfl k3 ⟨la, lfP l', _, rfl, by rw [gl, ← lfP_snoc], by rw [lfP_len, sizeLine_eq]; lia, ?_⟩)))
      have gd : upd H5 la (.list (lfP l')) fd = some (.dict (fdP fl) ep) := (upd_ne fun z => by rw [z, gl] at gd; cases gd).trans gd
      have X4 := X4.upd (o := .list (lfP l')) hla
      have cr : upd H5 la (.list (lfP l')) (V.L + 1) = some (.cell (some (.ref rl))) := (upd_ne fun z => by rw [z, gl] at cr; cases cr).trans cr
      have gl2 : upd H5 la (.list (lfP l')) la = some (.list (lfP l')) := upd_self
      clear gl
      generalize upd H5 la (.list (lfP l')) = H6 at gd gl2 X4 cr ⊢
      refine AT.tuple rfl (AT.local O rfl (AT.local O rfl ⟨rfl, ?_⟩))
      have k1 := (k1.skip (y := "old") (q := .int (e : Nat)) (by decide)).skip (y := "new") (q := .int (j : Nat)) (by decide)
      have k2 := (k2.skip (y := "old") (q := .int (e : Nat)) (by decide)).skip (y := "new") (q := .int (j : Nat)) (by decide)
      have k3 := (k3.skip (y := "old") (q := .int (e : Nat)) (by decide)).skip (y := "new") (q := .int (j : Nat)) (by decide)
      have back : ∀ {e' : Nat}, In2 (l' ++ [(e, j)]) fl e' → e' = e ∨ In2 l' fl e' := fun {e'} h => by
        rcases h with ⟨i, h⟩ | h
        · rcases List.mem_append.mp h with h | h
          · exact .inr (.inl ⟨i, h⟩)
          · exact .inl (congrArg Prod.fst (List.mem_singleton.mp h))
        · exact .inr (.inr h)
      refine EX.ite (ET.or_ (ET.cmp (EV.local_ O rfl rfl (EV.local_ O rfl k2 (.inr ⟨_, ep, gd, ?_⟩)))))
      rw [fdP_lookup, Option.isSome_map]
      cases hlk : fl.lookup e with
      | some j' =>
        have hj' := hfl _ (lookup_mem' hlk)
        obtain rfl : j' = j := uni hj' hje
        refine ⟨nofun, fun w9 => ⟨fun w9 => ?_, nofun⟩⟩
        refine EX.ite (ET.or_ (ET.cmp (EV.local_ O rfl rfl (EV.none_ ⟨fun w9 => ?_, nofun⟩))))
        refine ET.or_ (ET.cmp (EV.sub (EV.local_ O rfl k2 (EV.local_ O rfl rfl (.inr ⟨_, ep, .int (j' : Nat), gd, by rw [fdP_lookup, hlk]; rfl, EV.local_ O rfl rfl ?_⟩)))))
        refine ⟨fun w9 => ET.or_nil ⟨nofun, fun w9 => Then.go (EX.cont (Then.cont ?_))⟩, fun hb => absurd hb (by simp)⟩
        have hin : In2 l' fl e := .inr ⟨j', lookup_mem' hlk⟩
        refine u.ct ⟨_, ?_, ⟨la, fl, l', ep, k1, k2, k3, gd, gl2, hfd, hla, X4, nd, hfl, hlf', fun a ha e' he' => ?_, fun x hx c hc b hb e' he' => ?_, rfl, ?_⟩, cr⟩
        · lia
        · rcases back (hro a ha e' he') with rfl | h
          · exact hin
          · exact h
        · rcases back (hcl2 x hx c hc b hb e' he') with rfl | h
          · exact hin
          · exact h
        · lia
      | none =>
        refine ⟨fun w9 => ET.or_ (ET.cmp (EV.local_ O rfl rfl (EV.none_ ⟨fun w9 => ET.or_nil ⟨nofun, fun w9 => Then.go ?_⟩, nofun⟩))), nofun⟩
        have hne' := lookup_none' hlk
        have hfll : fl.length + 1 ≤ wt.length := by
          have := nodup_bound (n := wt.length) (l := (fl.map (·.2)) ++ [j]) ?_ fun y hy => ?_
          · simpa using this
          · rw [List.nodup_append]
            refine ⟨?_, by simp, fun y hy z hz e1 => ?_⟩
            · refine nodup_map (f := fun x : Nat × Nat => x.2) (nodup_of_map nd) fun x hx y hy z => ?_
              have h1 := hfl x hx
              have h2 := hfl y hy
              have z' : x.2 = y.2 := z
              rw [z', h2] at h1
              exact Prod.ext (Option.some.inj h1).symm z'
            · rw [List.mem_singleton.mp hz] at e1; subst e1
              obtain ⟨x, hx, rfl⟩ := List.mem_map.mp hy
              have := hfl x hx
              rw [hje] at this; cases this
              exact hne' (List.mem_map.mpr ⟨x, hx, rfl⟩)
          · rcases List.mem_append.mp hy with hy | hy
            · obtain ⟨x, hx, rfl⟩ := List.mem_map.mp hy
              exact (List.getElem?_eq_some_iff.mp (hfl x hx)).1
            · rw [List.mem_singleton.mp hy]; exact hjl
        -- found[old] = new
        refine EX.next (E1.assignSub (EV.local_ O rfl rfl (EV.local_ O rfl k2 (EV.local_ O rfl rfl (.inl ⟨_, ep, gd, fun w9 => by rw [fdP_len, sizeLine_eq]; lia, fun ep2 => ⟨rfl, ?_⟩⟩)))))
        rw [fdP_put hne']
        have X5 := X4.upd (o := .dict (fdP (fl ++ [(e, j)])) ep2) hfd
        have gl3 : upd H6 fd (.dict (fdP (fl ++ [(e, j)])) ep2) la = some (.list (lfP l')) := (upd_ne fun z => by rw [z, gd] at gl2; cases gl2).trans gl2
        have cr2 : upd H6 fd (.dict (fdP (fl ++ [(e, j)])) ep2) (V.L + 1) = some (.cell (some (.ref rl))) := (upd_ne fun z => by rw [z, gd] at cr; cases cr).trans cr
        have gd2 : upd H6 fd (.dict (fdP (fl ++ [(e, j)])) ep2) fd = some (.dict (fdP (fl ++ [(e, j)])) ep2) := upd_self
        clear gl2 gd cr X4
        generalize upd H6 fd (.dict (fdP (fl ++ [(e, j)])) ep2) = H7 at gd2 gl3 X5 cr2 ⊢
        -- the rows
        obtain ⟨c, c', hc, hc', cp⟩ := col.cp j e hje
        obtain ⟨ps, hrl, h2⟩ := (rows.ext X5).ex
        obtain ⟨p, hp, ⟨rl', rfl, hrl'⟩⟩ := h2.right hc
        have hcz := ft.at hc
        have hcz' : c'.rvals.length ≤ 1000 := by rw [← cp.rvals.len]; exact hcz
        have hcz2 : c'.vals.length ≤ 1000 := by cases c' <;> first | exact hcz' | exact Nat.zero_le _
        have fresh5 := fresh.ext X5
        obtain ⟨dx, dd, as, hp1, hp2⟩ := id fresh5.ex
        refine EX.next (E1.assign (EV.tuple_ (EV.sub (EV.cell_ O (.inl rfl) rfl cr2 (EV.local_ O rfl rfl (.inl ⟨ps, e, _, hrl, rfl, by lia, hp, ?_⟩))))))
        refine EV.call O GG (EV.global_ O GG rfl kn_law_row ⟨358, rfl, kk_358, EV.meth O GG (EV.local_ O rfl k1 ⟨fr, 232, dx, _, 215, rfl, hp1.i, hp1.f, kmt_232_get, rfl, EV.local_ O rfl rfl ?_⟩)⟩)
        refine HeapAt.get (n := n) GG fresh5 (by lia) (fun b c2 hc2 cb => ?_) fun hn => by rw [hc'] at hn; cases hn
        rw [hc'] at hc2; cases hc2
        refine c_law_row (n := n + 2) GG cb hcz2 fun l2 hl2 => ?_
        refine AT.tuple rfl (AT.tuple rfl (AT.local O rfl (AT.local O rfl (AT.local O rfl (AT.tuple rfl (AT.local O rfl (AT.local O rfl (AT.local O rfl ⟨rfl, ?_⟩))))))))
        have hv8 := Ext.new (o := .list (c'.rvals.map Vl.pv)) hl2
        have go8 : upd H7 l2 (.list (c'.rvals.map Vl.pv)) l2 = some (.list (c'.rvals.map Vl.pv)) := upd_self
        generalize upd H7 l2 (.list (c'.rvals.map Vl.pv)) = H8 at hv8 go8 ⊢
        generalize hm9 : ((("others", .ref l2) : Str × PV) :: _) = m9
        have q1 : Lk m9 "fresh" (.ref fr) := by rw [← hm9]; exact k1
        have q2 : Lk m9 "found" (.ref fd) := by rw [← hm9]; exact k2
        have q3 : Lk m9 "left" (.ref la) := by rw [← hm9]; exact k3
        have q4 : Lk m9 "kind" (.str c.kind) := by rw [← hm9]; rfl
        have q5 : Lk m9 "name" c.name := by rw [← hm9]; rfl
        have q6 : Lk m9 "values" (.ref rl') := by rw [← hm9]; rfl
        have q7 : Lk m9 "other" (.str c'.kind) := by rw [← hm9]; rfl
        have q8 : Lk m9 "told" c'.name := by rw [← hm9]; rfl
        have q9 : Lk m9 "others" (.ref l2) := by rw [← hm9]; rfl
        clear hm9
        have hrl8 := hv8 _ _ hrl'
        have zc : (c.rvals.map Vl.pv).length ≤ sizeLine := by rw [List.length_map, sizeLine_eq]; lia
        have zc' : (c'.rvals.map Vl.pv).length ≤ sizeLine := by rw [List.length_map, sizeLine_eq]; lia
        -- the same kind
        refine EX.mid (J := fun m' H' => m' = m9 ∧ H' = H8) (E1.ite (ET.or_ (ET.cmp (EV.local_ O rfl q4 (EV.local_ O rfl q7 ?_))))) ?_
        · show ((c.kind != c'.kind) = false → _) ∧ ((c.kind != c'.kind) = true → _)
          rw [← cp.kind, bne_self_eq_false]
          refine ⟨fun w9 => ?_, nofun⟩
          refine ET.or_ (ET.cmp (EV.bcall O GG rfl kb_len rfl (.inr ⟨_, rfl⟩) (EV.local_ O rfl q6 (BCall.len_list hrl8 zc (EV.bcall O GG rfl kb_len rfl (.inr ⟨_, rfl⟩) (EV.local_ O rfl q9 (BCall.len_list go8 zc' ?_)))))))
          show ((_ != _) = false → _) ∧ ((_ != _) = true → _)
          rw [List.length_map, List.length_map, ← cp.rvals.len, bne_self_eq_false]
          refine ⟨fun w9 => ?_, nofun⟩
          refine ET.or_ (ET.and_ (ET.cmp (EV.local_ O rfl q4 (EV.str_ ?_))))
          show ((c.kind != ("partial" : Str)) = true → _) ∧ ((c.kind != ("partial" : Str)) = false → _)
          rcases cp.alt with ⟨a, b, hkp, _, _, _, _, _⟩ | ⟨sn, hkp, hn1, hn2, _, _⟩
          · exact ⟨fun z => absurd z (by rw [bne, hkp]; decide), fun w9 => ⟨fun w9 => ET.or_nil ⟨nofun, fun w9 => EX.nil ⟨rfl, rfl, rfl⟩⟩, nofun⟩⟩
          · refine ⟨fun w9 => ET.and_ (ET.cmp (EV.local_ O rfl (q5.trans (congrArg some hn1)) (EV.local_ O rfl (q8.trans (congrArg some hn2)) ⟨fun z => absurd z (by rw [bne_self_eq_false]; decide), fun w9 => ⟨fun w9 => ET.or_nil ⟨nofun, fun w9 => EX.nil ⟨rfl, rfl, rfl⟩⟩, nofun⟩⟩))), fun z => absurd z (by rw [bne, hkp]; decide)⟩
        rintro m' H' ⟨em, eH⟩
        rw [em, eH]
        clear em eH m' H'
        -- the pairs
        refine EX.mid (J := fun m' H' => Ex1 fun pl => C4 (m' = (("pairs", .ref pl) : Str × PV) :: m9) (H8 pl = none) (Ext H8 H') (H' pl = some (.list (vpP (vpairs c c'))))) (E1.assign (EV.bin (EV.listzip O GG rfl rfl kb_list kb_zip rfl (EV.local_ O rfl q6 (EV.local_ O rfl q9 ⟨rl', l2, _, _, rfl, hrl8, go8, by rw [List.length_map, List.length_map, cp.rvals.len], zc, fun l3 hl3 => EV.ifexp (ET.cmp (EV.local_ O rfl q4 (EV.str_ ?_)))⟩))))) ?_
        · rw [map_zip_pv]
          have x3 := Ext.new (o := .list (vpP (c.rvals.zip c'.rvals))) hl3
          have g3 : upd H8 l3 (.list (vpP (c.rvals.zip c'.rvals))) l3 = some (.list (vpP (c.rvals.zip c'.rvals))) := upd_self
          generalize upd H8 l3 (.list (vpP (c.rvals.zip c'.rvals))) = H9 at x3 g3 ⊢
          show ((c.kind == ("partial" : Str)) = true → _) ∧ ((c.kind == ("partial" : Str)) = false → _)
          have zz : (vpP (c.rvals.zip c'.rvals)).length + 1 ≤ sizeLine := by
            have : (c.rvals.zip c'.rvals).length ≤ c.rvals.length := by rw [List.length_zip]; exact Nat.min_le_left _ _
            unfold vpP
            rw [List.length_map, sizeLine_eq]; lia
          rcases cp.alt with ⟨a, b, hkp, hn1, hn2, hvq, _, _⟩ | ⟨sn, hkp, hn1, hn2, hvq, _⟩
          · refine ⟨fun w9 => EV.list_ (EV.tuple_ (EV.tuple_ (EV.str_ (EV.local_ O rfl (q5.trans (congrArg some hn1)) (EV.tuple_ (EV.str_ (EV.local_ O rfl (q8.trans (congrArg some hn2)) (fun l4 hl4 => ⟨_, _, Ext.new hl4 _ _ g3, upd_self, zz, fun l5 hl5 => AT.local O rfl ⟨rfl, l5, rfl, none_of_x (x3.trans (Ext.new hl4)) hl5, (x3.trans (Ext.new hl4)).trans (Ext.new hl5), ?_⟩⟩)))))))), fun z => absurd z (by rw [hkp]; decide)⟩
            rw [hvq]
            refine upd_self.trans ?_
            unfold vpP
            rw [List.map_append]; rfl
          · refine ⟨fun z => absurd z (by rw [hkp]; decide), fun w9 => EV.list_ (fun l4 hl4 => ⟨_, _, Ext.new hl4 _ _ g3, upd_self, Nat.le_of_lt zz, fun l5 hl5 => AT.local O rfl ⟨rfl, l5, rfl, none_of_x (x3.trans (Ext.new hl4)) hl5, (x3.trans (Ext.new hl4)).trans (Ext.new hl5), ?_⟩⟩)⟩
            rw [hvq]
            refine upd_self.trans ?_
            rw [List.append_nil]
        rintro _ H9 ⟨pl, rfl, hpn0, x9, hpl⟩
        have q1 : Lk ((("pairs", .ref pl) : Str × PV) :: m9) "fresh" (.ref fr) := q1.skip (by decide)
        have q2 : Lk ((("pairs", .ref pl) : Str × PV) :: m9) "found" (.ref fd) := q2.skip (by decide)
        have q3 : Lk ((("pairs", .ref pl) : Str × PV) :: m9) "left" (.ref la) := q3.skip (by decide)
        have q10 : Lk ((("pairs", .ref pl) : Str × PV) :: m9) "pairs" (.ref pl) := rfl
        generalize ((("pairs", .ref pl) : Str × PV) :: m9) = m10 at q1 q2 q3 q10 ⊢
        have X8 : Ext H H8 := X5.trans hv8
        have gl9 := x9 _ _ (hv8 _ _ gl3)
        have gd9 := x9 _ _ (hv8 _ _ gd2)
        have cr9 := x9 _ _ (hv8 _ _ cr2)
        have X9 := X8.trans x9
        have hpla : pl ≠ la := fun z => by rw [z, hv8 _ _ gl3] at hpn0; cases hpn0
        have hvl := vpairs_len cp
        obtain ⟨hvp, hvs⟩ := cp.pairs
        have okc := ok c (List.mem_iff_getElem?.mpr ⟨e, hc⟩)
        have sml : ∀ {b : Nat} {v' : Vl}, (Vl.at b, v') ∈ vpairs c c' → b < 1000 := fun {b v'} h => by
          refine sm.su e c b hc (mem_succs.mpr ?_)
          exact cp.succ_mem h
        refine EX.cons (E1.for_ O (EV.local_ O rfl q10 ⟨vpP (vpairs c c'), some (pl, _), IterOf.list hpl, fun k m' H' => Ex1 fun (dn : List (Nat × Nat)) => C11 (Lk m' "fresh" (.ref fr)) (Lk m' "found" (.ref fd)) (Lk m' "left" (.ref la)) (H' la = some (.list (lfP (l' ++ dn)))) (H' fd = some (.dict (fdP (fl ++ [(e, j)])) ep2)) (H' (V.L + 1) = some (.cell (some (.ref rl)))) (H' pl = some (.list (vpP (vpairs c c')))) (Ext H H') ((∀ x ∈ dn, wt[x.2]? = some x.1)) ((∀ (i b : Nat) (v' : Vl), i < k → (vpairs c c')[i]? = some (.at b, v') → ∀ e', lend cs b = some e' → ∃ j', (e', j') ∈ dn)) (dn.length ≤ k),
          ⟨[], q1, q2, q3, by rw [List.append_nil]; exact gl9, gd9, cr9, hpl, X9, (fun x h => by cases h), (fun i b v' h _ => absurd h (Nat.not_lt_zero _)), Nat.le_refl _⟩, (fun k m' H' ⟨_, _, _, _, _, _, _, h, _, _, _, _⟩ => h), ?_, ?_⟩))
        · rintro it o k p m' H' R2 u2 O2 hpk ⟨dn, q1, q2, q3, g1, g2, g3, g4, X10, hdn, hdv, hdl⟩
          obtain ⟨⟨v1, v2⟩, hvk, rfl⟩ := vpP_at hpk
          have hvm := List.mem_iff_getElem?.mpr ⟨k, hvk⟩
          have hcv := hvp _ hvm
          have hkl := (List.getElem?_eq_some_iff.mp hvk).1
          refine AT.tuple rfl (AT.local O2 rfl (AT.local O2 rfl ?_))
          have q1 := (q1.skip (y := "one") (q := v1.pv) (by decide)).skip (y := "two") (q := v2.pv) (by decide)
          have q2 := (q2.skip (y := "one") (q := v1.pv) (by decide)).skip (y := "two") (q := v2.pv) (by decide)
          have q3 := (q3.skip (y := "one") (q := v1.pv) (by decide)).skip (y := "two") (q := v2.pv) (by decide)
          rcases hcv.alt with ⟨hv21, t, p0, hk1, hta⟩ | ⟨b, j1, e1, e2, hmv⟩
          · have hv21 : v2 = v1 := hv21
            have hk2 : v2.pv = .tup [.str t, p0] := (congrArg Vl.pv hv21).trans hk1
            have okv : ∀ s, v1 = .char s → PyData.strOk s = true := fun s hs => okc.1 s (cp.char_mem (v' := v2) (hs ▸ hvm))
            have rd1 : rd H' 60 v1.pv = some (dv v1) := rd_vl okv
            have rd2 : rd H' 60 v2.pv = some (dv v1) := (congrArg (fun v => rd H' 60 (Vl.pv v)) hv21).trans rd1
            refine EX.ite (ET.or_ (ET.cmp (EV.sub (EV.local_ O2 rfl (congrArg some hk1) (EV.int_ ⟨0, _, rfl, by decide, rfl, EV.sub (EV.local_ O2 rfl (congrArg some hk2) (EV.int_ ⟨0, _, rfl, by decide, rfl, ⟨fun w9 => ?_, fun z => absurd z (by rw [bne_self_eq_false]; decide)⟩⟩))⟩)))))
            refine ET.or_ (ET.and_ (ET.cmp (EV.sub (EV.local_ O2 rfl (congrArg some hk1) (EV.int_ ⟨0, _, rfl, by decide, rfl, EV.str_ ⟨fun w9 => ?_, fun z => absurd z (by rw [bne, hta]; decide)⟩⟩)))))
            refine ET.and_ (ET.cmpD O2 (.inr rfl) (EV.local_ O2 rfl rfl (EV.local_ O2 rfl rfl ⟨_, _, rd1, rd2, ⟨fun z => absurd z (by rw [if_neg (by decide), dv_eq]; decide), fun w9 => ⟨fun w9 => ET.or_nil ⟨nofun, fun w9 => Then.go ?_⟩, nofun⟩⟩⟩)))
            refine EX.ite (ET.cmp (EV.sub (EV.local_ O2 rfl (congrArg some hk1) (EV.int_ ⟨0, _, rfl, by decide, rfl, EV.str_ ⟨fun z => absurd z (by rw [hta]; decide), fun w9 => Then.go (EX.nil ?_)⟩⟩))))
            refine u2.nx ⟨dn, q1, q2, q3, g1, g2, g3, g4, X10, hdn, fun i' b v' hi hx => ?_, by lia⟩
            by_cases z : i' = k
            · rw [z, hvk] at hx
              rw [(Prod.mk.inj (Option.some.inj hx)).1] at hk1
              cases hk1; cases hta
            · exact hdv i' b v' (by lia) hx
          · have e1 : v1 = .at b := e1
            have hk1 : v1.pv = .tup [.str "at", .int b] := congrArg Vl.pv e1
            have hk2 : v2.pv = .tup [.str "at", .int j1] := congrArg Vl.pv e2
            obtain ⟨a', i', e', h1, h2, h3, h4⟩ := col.iv.mvI _ _ hmv
            have hjb : b = a' ∧ j1 = i' := ⟨by lia, by injection h2 with h2; lia⟩
            rw [← hjb.1] at h4
            rw [← hjb.2] at h3
            refine EX.ite (ET.or_ (ET.cmp (EV.sub (EV.local_ O2 rfl (congrArg some hk1) (EV.int_ ⟨0, _, rfl, by decide, rfl, EV.sub (EV.local_ O2 rfl (congrArg some hk2) (EV.int_ ⟨0, _, rfl, by decide, rfl, ⟨fun w9 => ?_, nofun⟩⟩))⟩)))))
            refine ET.or_ (ET.and_ (ET.cmp (EV.sub (EV.local_ O2 rfl (congrArg some hk1) (EV.int_ ⟨0, _, rfl, by decide, rfl, EV.str_ ⟨nofun, fun w9 => ⟨fun w9 => ET.or_nil ⟨nofun, fun w9 => Then.go ?_⟩, nofun⟩⟩⟩)))))
            refine EX.ite (ET.cmp (EV.sub (EV.local_ O2 rfl (congrArg some hk1) (EV.int_ ⟨0, _, rfl, by decide, rfl, EV.str_ ⟨fun w9 => ?_, nofun⟩⟩))))
            refine EX.next (E1.expr O2 (EV.append (EV.local_ O2 rfl q3 ⟨la, rfl, ⟨_, g1⟩, EV.tuple_ (EV.call O2 GG (EV.global_ O2 GG rfl kn_law_end ⟨365, rfl, kk_365, EV.cell_ O2 (.inl rfl) rfl g3 (EV.sub (EV.local_ O2 rfl (congrArg some hk1) (EV.int_ ⟨1, _, rfl, by decide, rfl, ?_⟩)))⟩))⟩)))
            refine c_law_end (n := n + 2) GG (rows.ext X10) sm (by have := sml (v' := v2) (e1 ▸ hvm); lia) fun H11 X11 => ?_
            rw [h4]
            refine EV.sub (EV.local_ O2 rfl (congrArg some hk2) (EV.int_ ⟨1, _, rfl, by decide, rfl, _, X11 _ _ g1, by rw [lfP_len, List.length_append, sizeLine_eq]; lia, rfl, Then.go (EX.nil ?_)⟩))
            have g1' := X11 _ _ g1
            refine u2.nx ⟨dn ++ [(e', j1)], q1, q2, q3, ?_, (upd_ne fun z => by rw [← z, X11 _ _ g2] at g1'; cases g1').trans (X11 _ _ g2), (upd_ne fun z => by rw [← z, X11 _ _ g3] at g1'; cases g1').trans (X11 _ _ g3), ?_, (X10.trans X11).upd hla, ?_, ?_, by rw [List.length_append]; exact Nat.succ_le_succ hdl⟩
            · rw [upd_self]
              have := lfP_snoc (lf := l' ++ dn) (x := (e', j1))
              rw [List.append_assoc] at this
              exact congrArg (fun z => some (AO.list z)) this
            · exact (upd_ne hpla).trans (X11 _ _ g4)
            · intro x hx
              rcases List.mem_append.mp hx with z | z
              · exact hdn x z
              · rw [List.mem_singleton.mp z]; exact h3
            · intro i2 b2 v2 hi hx e2 he2
              by_cases z : i2 = k
              · rw [z, hvk, e1] at hx; cases hx; rw [h4] at he2; cases he2; exact ⟨j1, by simp⟩
              · obtain ⟨j', h⟩ := hdv i2 b2 v2 (by lia) hx e2 he2
                exact ⟨j', by simp [h]⟩
        · rintro m' H' ⟨dn, q1, q2, q3, g1, g2, g3, g4, X10, hdn, hdv, hdl⟩
          have hvlen : (vpP (vpairs c c')).length = (vpairs c c').length := by unfold vpP; rw [List.length_map]
          rw [hvlen] at hdv hdl
          have mono : ∀ {e' : Nat}, In2 (l' ++ [(e, j)]) fl e' → In2 (l' ++ dn) (fl ++ [(e, j)]) e' := fun {e'} h => by
            rcases back h with rfl | ⟨i, h⟩ | ⟨i, h⟩
            · exact .inr ⟨j, by simp⟩
            · exact .inl ⟨i, by simp [h]⟩
            · exact .inr ⟨i, by simp [h]⟩
          refine ⟨fun w9 => EX.nil (u.nx ⟨(wt.length - (fl ++ [(e, j)]).length) * 1002 + (l' ++ dn).length, ?_, ⟨la, fl ++ [(e, j)], l' ++ dn, ep2, q1, q2, q3, g2, g1, hfd, hla, X10, ?_, ?_, ?_, fun a ha e' he' => mono (hro a ha e' he'), ?_, rfl, ?_⟩, g3⟩), fun z => absurd rfl z⟩
          · rw [List.length_append, List.length_append]
            show (wt.length - (fl.length + 1)) * 1002 + _ < f
            lia
          · rw [List.map_append, List.nodup_append]
            exact ⟨nd, by simp, fun x hx y hy z => by
              simp at hy; subst hy
              exact hne' (z ▸ hx)⟩
          · intro x hx
            rcases List.mem_append.mp hx with z | z
            · exact hfl x z
            · rw [List.mem_singleton.mp z]; exact hje
          · intro x hx
            rcases List.mem_append.mp hx with z | z
            · exact hlf' x z
            · exact hdn x z
          · intro x hx c2 hc2 b hb e' he'
            rcases List.mem_append.mp hx with z | z
            · exact mono (hcl2 x z c2 hc2 b hb e' he')
            · rw [List.mem_singleton.mp z] at hc2
              rw [hc] at hc2; cases hc2
              obtain ⟨v', hv⟩ := hvs b hb
              obtain ⟨i, hi⟩ := List.mem_iff_getElem?.mp hv
              obtain ⟨j', h⟩ := hdv i b v' (List.getElem?_eq_some_iff.mp hi).1 hi e' he'
              exact .inl ⟨j', by simp [h]⟩
          · rw [List.length_append, List.length_append]
            show (wt.length - (fl.length + 1)) * 1002 + _ ≤ 2100000
            lia
    · have hl0 : lf = [] := by
        cases lf with
        | nil => rfl
        | cons => exact absurd hfalse (by simp [lfP])
      subst hl0
      have key : ∀ a, Rc cs rs a → ∀ e, lend cs a = some e → ∃ j, (e, j) ∈ fl := by
        intro a ha
        induction ha with
        | root h => intro e he; rcases hro _ h e he with ⟨j, h⟩ | h; (cases h); exact h
        | step h1 h2 h3 h4 ih =>
          intro e he
          obtain ⟨j', h5⟩ := ih _ h2
          rcases hcl2 _ h5 _ h3 _ h4 e he with ⟨j, h⟩ | h
          · cases h
          · exact h
      intro j e hj
      obtain ⟨a, h1, h2⟩ := col.iv.rc j e hj
      obtain ⟨j', h3⟩ := key a h1 e h2
      obtain rfl := uni (hfl _ h3) hj
      exact h3
  · rintro m H4 ⟨fl, ep, k2, gd, X4, nd, hfl, hall⟩
    have hfn := hfl
    have hll : fl.length ≤ cs.length := by
      have := nodup_bound (n := cs.length) nd fun y hy => by
        obtain ⟨x, hx, rfl⟩ := List.mem_map.mp hy
        exact hwt (hfl x hx)
      simpa using this
    have nd2 : (fl.map (·.2)).Nodup := nodup_map (f := fun x : Nat × Nat => x.2) (nodup_of_map nd) fun x hx y hy z => by
      have h1 := hfl x hx
      have h2 := hfl y hy
      have z' : x.2 = y.2 := z
      rw [z', h2] at h1
      exact Prod.ext (Option.some.inj h1).symm z'
    have kvd : (fl.map fun x => (((x.2 : Nat) : Int), PV.int (x.1 : Nat))).map (fun kv => PV.tup [.int kv.1, kv.2]) = fl.map fun x => PV.tup [.int (x.2 : Nat), .int (x.1 : Nat)] := by rw [List.map_map]; rfl
    have kvn : (([] : List (Int × PV)) ++ (fl.map fun x : Nat × Nat => (((x.2 : Nat) : Int), PV.int (x.1 : Nat)))).map (·.1) = (fl.map (·.2)).map fun x => ((x : Nat) : Int) := by simp
    have kvl : (putAll [] (fl.map fun x => (((x.2 : Nat) : Int), PV.int (x.1 : Nat)))).length = fl.length := by
      rw [putAll_fresh]
      · simp
      · rw [kvn]
        exact nodup_map nd2 fun a _ b _ z => by lia
    refine EX.ret (EV.ifexp (ET.cmp (EV.bcall O GG rfl kb_len rfl (.inr ⟨_, rfl⟩) (EV.bcall O GG rfl kb_dict rfl (.inl ⟨_, rfl⟩) (EV.compG [] O (EV.items (EV.local_ O rfl k2 ⟨fd, _, ep, rfl, gd, fun r ob hr hob => ?_⟩)))))))
    have xr := Ext.new (o := .raw ob) hr
    have gr : upd H4 r (.raw ob) r = some (.raw ob) := upd_self
    generalize upd H4 r (.raw ob) = H5 at xr gr ⊢
    have gd5 := xr _ _ gd
    refine ⟨_, _, IterOfG.items rfl gr hob gd5, by rw [List.length_map, fdP_len, sizeLine_eq]; lia, fun D hD => ⟨fun k acc H6 => C4 (Ext H5 H6) (H5 D = none) (H6 D = some (.list acc)) (acc = (fl.take k).map fun x => PV.tup [.int (x.2 : Nat), .int (x.1 : Nat)]), ⟨Ext.new hD, hD, upd_self, rfl⟩, fun k acc H6 ⟨x6, _, h6, _⟩ => ⟨x6 _ _ gd5, h6⟩, ?_, ?_⟩⟩
    · rintro C it o k p acc H6 O6 hp ⟨x6, hD, h6, rfl⟩
      obtain ⟨x, hx, rfl⟩ : ∃ x, fl[k]? = some x ∧ p = .tup [.int (x.1 : Nat), .int (x.2 : Nat)] := by
        unfold fdP at hp
        rw [List.map_map, List.getElem?_map] at hp
        cases z : fl[k]? with
        | none => rw [z] at hp; cases hp
        | some x => rw [z] at hp; cases hp; exact ⟨x, rfl, rfl⟩
      refine AT.tuple rfl (AT.local O6 rfl (AT.local O6 rfl ⟨fun w9 => EV.tuple_ (EV.local_ O6 rfl rfl (EV.local_ O6 rfl rfl ⟨h6, x6.upd hD, hD, upd_self, ?_⟩)), nofun⟩))
      rw [take_snoc hx, List.map_append]; rfl
    · rintro acc H6 ⟨x6, hD, h6, rfl⟩
      rw [List.length_map, fdP_len, List.take_length] at h6
      refine BCall.dict_pairs O rfl (kvs := fl.map fun x => (((x.2 : Nat) : Int), PV.int (x.1 : Nat))) (by rw [kvd]; exact h6) (by rw [List.length_map, sizeLine_eq]; lia) fun b ep3 hb => ?_
      refine BCall.len_dict upd_self (fun w9 => by rw [kvl, sizeLine_eq]; lia) ?_
      have x7 := (x6.trans (Ext.new (o := .dict (putAll [] (fl.map fun x => (((x.2 : Nat) : Int), PV.int (x.1 : Nat)))) ep3) hb))
      generalize upd H6 b (.dict (putAll [] (fl.map fun x => (((x.2 : Nat) : Int), PV.int (x.1 : Nat)))) ep3) = H7 at x7 ⊢
      refine EV.bcall O GG rfl kb_len rfl (.inr ⟨_, rfl⟩) (EV.local_ O rfl k2 (BCall.len_dict (x7 _ _ gd5) (fun w9 => by rw [fdP_len, sizeLine_eq]; lia) ?_))
      rw [kvl, fdP_len]
      refine ⟨fun w9 => EV.local_ O rfl k2 (q fd fl ep H7 ((X4.trans xr).trans x7) hfd0 (x7 _ _ gd5) nd hfl hall), fun hb => absurd hb (by simp)⟩
end
end Mine

namespace Mine
section
variable {Z : Zs} {n : Nat} {nn : Bool} {H : AH} {Q : PV → AH → Prop} {E : AH → Prop}

theorem c_value_moved {v v' : Vl} {md : Addr} {mv : List (Int × PV)} {ep : Nat} (GG : (gl Z).Ok) (hmd : H md = some (.dict mv ep)) (cp : CpV mv v v') (q : Q v'.pv H) : CallL (gl Z) (n + 1) nn 243 [v.pv, .ref md] H Q E := by
  refine CallL.intro GG (by rfl) (by kernel_rfl) ["value", "moved"] (len2 fun w9 w9 => rfl) (by decide) (by decide) (by decide) rfl rfl rfl rfl fun V O => ?_
  cases cp with
  | int i => exact EX.ite (ET.cmp (EV.sub (EV.local_ O rfl rfl (EV.int_ ⟨0, _, rfl, by decide, rfl, EV.str_ ⟨nofun, fun w9 => Then.go (EX.ret (EV.local_ O rfl rfl q))⟩⟩))))
  | char s => exact EX.ite (ET.cmp (EV.sub (EV.local_ O rfl rfl (EV.int_ ⟨0, _, rfl, by decide, rfl, EV.str_ ⟨nofun, fun w9 => Then.go (EX.ret (EV.local_ O rfl rfl q))⟩⟩))))
  | «at» h =>
    refine EX.ite (ET.cmp (EV.sub (EV.local_ O rfl rfl (EV.int_ ⟨0, _, rfl, by decide, rfl, EV.str_ ⟨fun w9 => ?_, nofun⟩⟩))))
    exact EX.ret (EV.tuple_ (EV.str_ (EV.sub (EV.local_ O rfl rfl (EV.sub (EV.local_ O rfl rfl (EV.int_ ⟨1, _, rfl, by decide, rfl, .inr ⟨mv, ep, _, hmd, h, Then.out q⟩⟩)))))))

theorem c_values_moved {vl md : Addr} {vs vs' : List Vl} {mv : List (Int × PV)} {ep : Nat} (GG : (gl Z).Ok) (hvl : H vl = some (.list (vs.map Vl.pv))) (hz : vs.length ≤ 1000) (hmd : H md = some (.dict mv ep)) (cp : All2 (CpV mv) vs vs')
    (q : ∀ l H', Ext H H' → H' l = some (.list (vs'.map Vl.pv)) → Q (.ref l) H') : CallL (gl Z) (n + 2) nn 248 [.ref vl, .ref md] H Q E := by
  refine CallL.introC GG (by rfl) (by kernel_rfl) ["values", "moved"] (len2 fun w9 w9 => rfl)
    (fun n x hx => by simp only [List.mem_cons, List.not_mem_nil, or_false] at hx; rcases hx with rfl | rfl <;> first | exact .inl rfl | exact .inr ⟨rfl, rfl⟩) (by decide)
    (fun n => by show (["moved"] : List Str).Nodup; decide) (fun n x hx => by have hx : x ∈ [(("moved" : Str), n)] := hx; rw [List.mem_singleton.mp hx]; rfl) rfl rfl rfl rfl fun V O hcn => ?_
  have hc0 : H (V.L + 1) = none := hcn ("moved", V.L + 1) (by exact List.mem_cons_self)
  change EX _ _ _ (upd H (V.L + 1) (.cell (some (.ref md)))) _ _
  have X1 : Ext H (upd H (V.L + 1) (.cell (some (.ref md)))) := Ext.new hc0
  have cm : upd H (V.L + 1) (.cell (some (.ref md))) (V.L + 1) = some (.cell (some (.ref md))) := upd_self
  generalize upd H (V.L + 1) (.cell (some (.ref md))) = H1 at X1 cm ⊢
  have hvl1 := X1 _ _ hvl
  refine EX.ret (EV.comp [("moved", V.L + 1)] O (EV.local_ O rfl rfl ⟨vs.map Vl.pv, some (vl, _), IterOf.list hvl1, by rw [List.length_map, sizeLine_eq]; lia, fun D hD => ⟨fun k acc H2 => C4 (Ext H1 H2) (H1 D = none) (H2 D = some (.list acc)) (acc = (vs'.take k).map Vl.pv),
    ⟨Ext.new hD, hD, upd_self, rfl⟩, fun k acc H2 ⟨x2, _, h2, _⟩ => ⟨x2 _ _ hvl1, h2⟩, ?_, ?_⟩⟩))
  · rintro C it o k p acc H2 O2 hp ⟨x2, hD, h2, rfl⟩
    apply pvs_at hp; intro v hvk
    obtain ⟨v', hv', cpv⟩ := cp.left hvk
    refine AT.local O2 rfl ⟨fun w9 => EV.call O2 GG (EV.global_ O2 GG rfl kn_value_moved ⟨243, rfl, kk_243, EV.local_ O2 rfl rfl (EV.cell_ O2 (.inl rfl) rfl (x2 _ _ cm) ?_)⟩), nofun⟩
    refine c_value_moved (n := n) GG (x2 _ _ (X1 _ _ hmd)) cpv ⟨h2, x2.upd hD, hD, upd_self, ?_⟩
    rw [take_snoc hv', List.map_append]; rfl
  · rintro acc H2 ⟨x2, hD, h2, rfl⟩
    rw [List.length_map, cp.len, List.take_length] at h2
    exact q D H2 (X1.trans x2) h2
end
end Mine

namespace Mine
/-! ## Written constants -/
inductive CEs : List Expr → List PV → Prop
  | nil : CEs [] []
  | str {s k pos es ps} : CEs es ps → CEs (.Constant (.str s) k pos :: es) (.str s :: ps)
  | int {i k pos es ps} : CEs es ps → CEs (.Constant (.int i) k pos :: es) (.int i :: ps)
theorem EVs.consts {X : FX} {E : Loc → AH → Prop} {m : Loc} {H : AH} {es : List Expr} {ps : List PV} {Q : List PV → Loc → AH → Prop} (c : CEs es ps) (q : Q ps m H) : EVs X es m H Q E := by
  induction c generalizing Q with
  | nil => exact q
  | str _ ih => exact EV.str_ (ih q)
  | int _ ih => exact EV.int_ (ih q)

/-! ## Values put behind those of a cell -/
noncomputable def addN (k : Nat) : Cl → Cl
  | .fn c vs => .fn c (vs ++ List.replicate k (.int 99))
  | .th c vs => .th c (vs ++ List.replicate k (.int 99))
  | .pa a vs => .pa a (vs ++ List.replicate k (.int 99))
  | .da c vs => .da c (vs ++ List.replicate k (.int 99))
  | c => c
theorem addN_zero {c : Cl} : addN 0 c = c := by cases c <;> simp [addN]
theorem addN_succ {c : Cl} {k : Nat} : addN 1 (addN k c) = addN (k + 1) c := by
  cases c <;> simp only [addN, List.append_assoc] <;> rw [List.replicate_append_replicate]
theorem addN_vals {c : Cl} {k : Nat} : (addN k c).vals.length ≤ c.vals.length + k := by cases c <;> simp [addN, Cl.vals]
theorem ats_append {a b : List Vl} : ats (a ++ b) = ats a ++ ats b := by unfold ats; rw [List.filterMap_append]
theorem ats_rep {k : Nat} : ats (List.replicate k (.int 99)) = [] := by induction k with | zero => rfl | succ k ih => rw [List.replicate_succ]; exact ih
theorem addN_mem {c : Cl} {k b : Nat} : b ∈ (addN k c).succs ↔ b ∈ c.succs := by
  rw [mem_succs, mem_succs]
  cases c <;> simp only [addN, Cl.rvals, pn, ats_append, ats_rep, List.append_nil]
theorem addN_li {c : Cl} {k : Nat} : (addN k c).isLi = c.isLi := by cases c <;> rfl
noncomputable def Up (i : Nat) (c c' : Cl) : Prop := ∃ k, k ≤ i ∧ c' = addN k c

theorem CellAt.app {H : AH} {l b : Addr} {vs : List Vl} {c : Cl} (x : CellAt H b c) (hl : H l = some (.list (vs.map Vl.pv))) : ∃ c', CellAt (upd H l (.list ((vs ++ [Vl.int 99]).map Vl.pv))) b c' ∧ Up 1 c c' := by
  obtain ⟨dx, l0, h1, h2, h3⟩ := x.ex
  have n1 : b ≠ l := fun z => by rw [z, hl] at h1; cases h1
  have n2 : dx ≠ l := fun z => by rw [z, hl] at h2; cases h2
  by_cases z : c.hasL = true ∧ l0 = l
  · obtain ⟨z1, rfl⟩ := z
    have h4 := h3 z1
    rw [hl] at h4
    have h5 := AO.list.inj (Option.some.inj h4)
    have e : (upd H l0 (.list ((vs ++ [Vl.int 99]).map Vl.pv))) l0 = some (.list ((addN 1 c).vals.map Vl.pv)) := by
      rw [upd_self, List.map_append, h5]
      cases c <;> first | (rw [← List.map_append]; rfl) | exact Bool.noConfusion z1
    exact ⟨addN 1 c, ⟨dx, l0, by rw [upd_ne n1, h1]; cases c <;> rfl, by rw [upd_ne n2, h2]; cases c <;> rfl, fun w9 => e⟩, 1, Nat.le_refl _, rfl⟩
  · refine ⟨c, ⟨dx, l0, (upd_ne n1).trans h1, (upd_ne n2).trans h2, fun q => (upd_ne fun e => z ⟨q, e⟩).trans (h3 q)⟩, 0, Nat.zero_le _, addN_zero.symm⟩
theorem All2.gather {α β γ : Type} {R : α → β → Prop} {S : α → γ → Prop} {T : β → γ → Prop} {l : List α} {m : List β} (x : All2 R l m) (f : ∀ a b, R a b → ∃ c, S a c ∧ T b c) : ∃ n, All2 S l n ∧ All2 T m n := by
  induction x with
  | nil => exact ⟨[], .nil, .nil⟩
  | cons h _ ih =>
    obtain ⟨n, h1, h2⟩ := ih
    obtain ⟨c, h3, h4⟩ := f _ _ h
    exact ⟨c :: n, .cons h3 h1, .cons h4 h2⟩
theorem All2.comp {α β γ : Type} {R : α → β → Prop} {S : β → γ → Prop} {T : α → γ → Prop} {l : List α} {m : List β} {n : List γ} (x : All2 R l m) (y : All2 S m n) (f : ∀ a b c, R a b → S b c → T a c) : All2 T l n := by
  induction x generalizing n with
  | nil => cases y; exact .nil
  | cons h _ ih => cases y with | cons h2 y2 => exact .cons (f _ _ _ h h2) (ih y2)
theorem HeapAt.app {H : AH} {l a : Addr} {vs : List Vl} {cs : List Cl} (x : HeapAt H a cs) (hl : H l = some (.list (vs.map Vl.pv))) : ∃ cs', HeapAt (upd H l (.list ((vs ++ [Vl.int 99]).map Vl.pv))) a cs' ∧ All2 (Up 1) cs cs' := by
  obtain ⟨dx, dd, as, hp, a2⟩ := x.ex
  obtain ⟨cs', h1, h2⟩ := a2.gather fun b c h => h.app hl
  obtain ⟨ep, hd⟩ := hp.d
  refine ⟨cs', ⟨dx, dd, as, ⟨(upd_ne fun z => ?_).trans hp.i, (upd_ne fun z => ?_).trans hp.f, ep, (upd_ne fun z => ?_).trans hd⟩, h1⟩, h2⟩
  · have := hp.i; rw [z, hl] at this; cases this
  · have := hp.f; rw [z, hl] at this; cases this
  · rw [z, hl] at hd; cases hd
theorem less_upd {W H : AH} {l o} (n : W l = none) : less W (upd H l o) = upd (less W H) l o := by
  funext a
  by_cases z : a = l
  · subst z; rw [less_at n, upd_self, upd_self]
  · rw [upd_ne z]; unfold less; rw [upd_ne z]

/-- rows as data -/
noncomputable def nmD : PV → PyData
  | .str s => .str s
  | .int i => .int i
  | _ => .none
noncomputable def rowD (c : Cl) : PyData := .tuple [.str c.kind, nmD c.name, .list (c.rvals.map dv)]
theorem rdL_map {α : Type} {f : PV → Option PyData} {g : α → PV} {k : α → PyData} : ∀ {l : List α}, (∀ a ∈ l, f (g a) = some (k a)) → rdL f (l.map g) = some (l.map k)
  | [], _ => rfl
  | a :: r, h => by
    rw [List.map_cons, List.map_cons]
    unfold rdL
    rw [h a List.mem_cons_self, rdL_map fun b hb => h b (List.mem_cons_of_mem _ hb)]
theorem kind_ok (c : Cl) : PyData.strOk c.kind = true := by cases c <;> (dsimp only [Cl.kind]; decide +kernel)
theorem rd_row {H : AH} {n : Nat} {p : PV} {c : Cl} (x : RowAt H p c) (h1 : ∀ s, Vl.char s ∈ c.rvals → PyData.strOk s = true) (h2 : ∀ s, c.name = .str s → PyData.strOk s = true) : rd H (n + 4) p = some (rowD c) := by
  obtain ⟨l, rfl, hl⟩ := x.ex
  have e1 : rd H (n + 3) (.str c.kind) = some (.str c.kind) := rd_str (kind_ok c)
  have e2 : rd H (n + 3) c.name = some (nmD c.name) := by
    cases c <;> first | exact rd_str (h2 _ rfl) | rfl
  have e3 : rd H (n + 3) (.ref l) = some (.list (c.rvals.map dv)) := by
    show (match H l with | some (.list ps) => (rdL (rd H (n + 2)) ps).map PyData.list | _ => none) = _
    rw [hl]
    dsimp only
    rw [rdL_map fun v hv => rd_vl fun s hs => h1 s (hs ▸ hv)]; rfl
  show (rdL (rd H (n + 3)) [.str c.kind, c.name, .ref l]).map PyData.tuple = _
  unfold rdL rdL rdL rdL
  rw [e1, e2, e3]; rfl
theorem rdL_rows {H : AH} {n : Nat} : ∀ {ps : List PV} {cs : List Cl}, All2 (RowAt H) ps cs → Okc cs → rdL (rd H (n + 4)) ps = some (cs.map rowD)
  | _, _, .nil, _ => rfl
  | _, _, .cons (a := p) (b := c) h t, ok => by
    obtain ⟨h1, h2⟩ := ok c List.mem_cons_self
    rw [List.map_cons]
    unfold rdL
    rw [rd_row h h1 h2, rdL_rows t fun c hc => ok c (List.mem_cons_of_mem _ hc)]
theorem rowD_eq {c : Cl} : PyData.eqv (rowD c) (rowD c) = true := by
  have e : ∀ vs : List Vl, PyData.eqvAll (vs.map dv) (vs.map dv) = true := by
    intro vs
    induction vs with
    | nil => rfl
    | cons v r ih => simp only [List.map_cons, PyData.eqvAll, dv_eq, ih, Bool.and_self]
  cases c <;> simp [rowD, PyData.eqv, PyData.eqvAll, nmD, Cl.name, Cl.rvals, e, dv_eq]
theorem rows_eq : ∀ {cs : List Cl}, PyData.eqvAll (cs.map rowD) (cs.map rowD) = true
  | [] => rfl
  | c :: r => by simp only [List.map_cons, PyData.eqvAll, rowD_eq, rows_eq, Bool.and_self]
end Mine

namespace Mine
theorem All2.refl {α : Type} {R : α → α → Prop} (h : ∀ a, R a a) : ∀ l : List α, All2 R l l
  | [] => .nil
  | a :: r => .cons (h a) (All2.refl h r)
theorem CellAt.mnsHp2 {H : AH} {a dx dd b : Addr} {es : List (Int × PV)} {k : Int} {c : Cl} (x : CellAt H b c) (h : HpAt H a dx dd es k) (o1 o2 : AO) : CellAt (upd (upd H dx o1) dd o2) b c :=
  (x.mnsHp h).ext fun z o e => by
    obtain ⟨n, e⟩ := mns_some e
    simp only [List.mem_cons, List.not_mem_nil, or_false, not_or] at n
    rw [upd_ne n.2, upd_ne n.1]; exact e
/-- a new cell behind the others -/
theorem HeapAt.grow {H : AH} {a dx dd b : Addr} {as : List Addr} {cs : List Cl} {c : Cl} {ep : Nat} (hp : HpAt H a dx dd (en (as.map .ref)) (as.length : Nat)) (a2 : All2 (CellAt H) as cs) (cb : CellAt H b c) :
    HeapAt (upd (upd H dx (.attrs [("cells", .ref dd), ("next", .int ((as.length : Nat) + 1))])) dd (.dict (putI (en (as.map .ref)) (as.length : Nat) (.ref b)) ep)) a (cs ++ [c]) := by
  have ek : putI (en (as.map PV.ref)) (as.length : Nat) (.ref b) = en ((as ++ [b]).map .ref) := by
    have := en_put_new (ps := as.map PV.ref) (p := .ref b)
    rw [List.length_map] at this
    rw [this, List.map_append]; rfl
  refine ⟨dx, dd, as ++ [b], ⟨(upd_ne hp.ne2).trans ((upd_ne hp.ne1).trans hp.i), (upd_ne hp.ne3).trans (upd_self.trans (by rw [List.length_append]; rfl)), ep, upd_self.trans (by rw [ek])⟩, ?_⟩
  exact (a2.mono fun _ _ z => z.mnsHp2 hp _ _).snoc (cb.mnsHp2 hp _ _)

section
variable {Z : Zs} {n : Nat} {nn : Bool} {H : AH} {Q : PV → AH → Prop} {E : AH → Prop}

theorem c_gone {W : AH} {rl hp fr fd : Addr} {cs cs' : List Cl} {fl : List (Nat × Nat)} {ep : Nat} (GG : (gl Z).Ok) (hW : Ext W H) (rows : RowsAt W rl cs) (old : HeapAt W hp cs) (frs : HeapAt (less W H) fr cs') (hfd : W fd = some (.dict (fdP fl) ep))
    (hfl : ∀ x ∈ fl, x.2 < cs'.length) (hne : fl ≠ []) (hfn : fl.length < 60) (hcs : cs.length ≤ 1000) (ft : Fit cs) (ok : Okc cs) (hcs' : cs'.length ≤ 900) (hz : ∀ c ∈ cs', c.vals.length ≤ 800)
    (q : ∀ H' cs'' a0, Ext W H' → HeapAt H' fr cs'' → a0 < cs'.length → All2 (Up 60) (cs' ++ [.da "new" [.at a0]]) cs'' → Q (.bool true) H') :
    CallL (gl Z) (n + 4) true 387 [.ref rl, .ref hp, .ref fr, .ref fd] H Q E := by
  refine CallL.introC GG (by rfl) (by kernel_rfl) ["rows", "heap", "fresh", "found"] (len4 fun w9 w9 w9 w9 => rfl)
    (fun n x hx => by simp only [List.mem_cons, List.not_mem_nil, or_false] at hx; rcases hx with rfl | rfl | rfl | rfl <;> first | exact .inl rfl | exact .inr ⟨rfl, rfl⟩) (by decide)
    (fun n => by show (["heap"] : List Str).Nodup; decide) (fun n x hx => by have hx : x ∈ [(("heap" : Str), n)] := hx; rw [List.mem_singleton.mp hx]; rfl) rfl rfl rfl rfl fun V O hcn => ?_
  have hc0 : H (V.L + 1) = none := hcn ("heap", V.L + 1) (by exact List.mem_cons_self)
  change EX _ _ _ (upd H (V.L + 1) (.cell (some (.ref hp)))) _ _
  have X1 : Ext H (upd H (V.L + 1) (.cell (some (.ref hp)))) := Ext.new hc0
  have ch : upd H (V.L + 1) (.cell (some (.ref hp))) (V.L + 1) = some (.cell (some (.ref hp))) := upd_self
  generalize upd H (V.L + 1) (.cell (some (.ref hp))) = H1 at X1 ch ⊢
  have W1 : Ext W H1 := hW.trans X1
  have frs := frs.ext (less_ext X1)
  clear X1 hW hcn hc0
  obtain ⟨dx, dd, as, hp1, hp2⟩ := id frs.ex
  have hp1' := hp1.ext less_sub
  have hal := hp2.len
  have hfd1 := W1 _ _ hfd
  have hzs : (fdP fl).map (·.2) = (fl.map fun x => ((x.2 : Nat) : Int)).map PV.int := by simp [fdP]
  -- many, ahead
  refine EX.next (E1.assignTup2 O rfl rfl (EV.tuple_ (EV.meth O GG (EV.local_ O rfl rfl ⟨fr, 232, dx, _, 229, rfl, hp1'.i, hp1'.f, kmt_232_many, rfl, ?_⟩))))
  refine c_many (n := n + 2) GG hp1' (by rw [enF_len, List.length_map, sizeLine_eq]; lia) ?_
  refine EV.bcall O GG rfl kb_sorted rfl (.inr ⟨_, rfl⟩) (EV.values (EV.local_ O rfl rfl ⟨fd, _, ep, rfl, hfd1, fun r ob hr hob => ?_⟩))
  refine BCall.sorted_vals O rfl upd_self hob (Ext.new hr _ _ hfd1) (fun w9 => by rw [fdP_len]; lia) hzs fun al ns hal0 hperm hsort => ?_
  refine ⟨_, _, rfl, rfl, ?_⟩
  have x2 : Ext H1 (upd (upd H1 r (.raw ob)) al (.list (ns.map .int))) := (Ext.new hr).trans (Ext.new hal0)
  have gal : upd (upd H1 r (.raw ob)) al (.list (ns.map .int)) al = some (.list (ns.map .int)) := upd_self
  generalize upd (upd H1 r (.raw ob)) al (.list (ns.map .int)) = H2 at x2 gal ⊢
  rw [enF_len, List.length_map]
  -- ahead[0]
  obtain ⟨z0, hz0⟩ : ∃ z, ns[0]? = some z := by
    cases hns : ns with
    | nil =>
      rw [hns] at hperm
      have := hperm.length_eq
      simp at this
      exact absurd this.symm (by cases fl <;> first | exact absurd rfl hne | simp)
    | cons z r => exact ⟨z, rfl⟩
  have hmemz : ∀ z ∈ ns, ∃ j : Nat, z = (j : Int) ∧ j < cs'.length := fun z hzm => by
    have := hperm.mem_iff.mp hzm
    obtain ⟨x, hx, rfl⟩ := List.mem_map.mp this
    exact ⟨x.2, rfl, hfl x hx⟩
  obtain ⟨a0, rfl, ha0⟩ := hmemz z0 (List.mem_iff_getElem?.mpr ⟨0, hz0⟩)
  have hp3' := hp1'.ext x2
  refine EX.next (E1.assign (EV.meth O GG (EV.local_ O rfl rfl ⟨fr, 232, dx, _, 208, rfl, hp3'.i, hp3'.f, kmt_232_new, rfl, EV.call O GG (EV.global_ O GG rfl kn_Data ⟨183, rfl, kk_183, EV.str_ (EV.list_ (EV.tuple_ (EV.str_ (EV.sub (EV.local_ O rfl rfl (EV.int_ (.inl ⟨_, 0, .int (a0 : Nat), gal, rfl, by decide, by rw [List.getElem?_map, hz0]; rfl, fun l hl => ?_⟩)))))))⟩)⟩)))
  refine c_Data (n := n + 1) GG fun b bdx hb hbdx hbne => ?_
  obtain ⟨cb, x3⟩ := mk_cell (c := .da "new" [.at a0]) (l := l) hb hbdx hbne fun w9 => upd_self
  have hl0 : H1 l = none := none_of_x x2 hl
  have x23 : Ext H1 (mkObj (upd H2 l (.list [.tup [.str "at", .int (a0 : Nat)]])) b bdx 183 [("con", .str "new"), ("values", .ref l)]) := (x2.trans (Ext.new hl)).trans x3
  have cbW : CellAt (less W (mkObj (upd H2 l (.list [.tup [.str "at", .int (a0 : Nat)]])) b bdx 183 [("con", .str "new"), ("values", .ref l)])) b (.da "new" [.at a0]) := by
    have hW2 : Ext W (upd H2 l (.list [.tup [.str "at", .int (a0 : Nat)]])) := (W1.trans x2).trans (Ext.new hl)
    refine ⟨bdx, l, ?_, ?_, fun w9 => ?_⟩
    · rw [less_at (none_of_x hW2 hb)]; exact upd_self
    · rw [less_at (none_of_x hW2 hbdx)]; exact (upd_ne hbne.symm).trans upd_self
    · rw [less_at (none_of_x (W1.trans x2) hl)]; exact x3 _ _ upd_self
  have gal3 : mkObj (upd H2 l (.list [.tup [.str "at", .int (a0 : Nat)]])) b bdx 183 [("con", .str "new"), ("values", .ref l)] al = some (.list (ns.map .int)) := x3 _ _ (Ext.new hl _ _ gal)
  generalize mkObj (upd H2 l (.list [.tup [.str "at", .int (a0 : Nat)]])) b bdx 183 [("con", .str "new"), ("values", .ref l)] = H3 at x23 cbW gal3 ⊢
  clear x3 cb hb hbdx hl gal x2 hp3' hr hob hal0 ob
  have W3 : Ext W H3 := W1.trans x23
  have hpz := hp1.ext (less_ext x23)
  have hpz' := hpz.ext less_sub
  refine c_new (n := n + 2) GG hpz' (by rw [enF_len, List.length_map, sizeLine_eq]; lia) fun ep' => ?_
  refine AT.local O rfl ⟨rfl, ?_⟩
  have wdx : W dx = none := (less_some hpz.f).1
  have wdd : W dd = none := by obtain ⟨e1, e2⟩ := hpz.d; exact (less_some e2).1
  have frs4 : HeapAt (less W (upd (upd H3 dx (.attrs [("cells", .ref dd), ("next", .int ((as.length : Nat) + 1))])) dd (.dict (putI (en (as.map .ref)) (as.length : Nat) (.ref b)) ep'))) fr (cs' ++ [.da "new" [.at a0]]) := by
    rw [less_upd wdd, less_upd wdx]
    exact HeapAt.grow hpz (hp2.mono fun _ _ z => z.ext (less_ext x23)) cbW
  have W4 : Ext W (upd (upd H3 dx (.attrs [("cells", .ref dd), ("next", .int ((as.length : Nat) + 1))])) dd (.dict (putI (en (as.map .ref)) (as.length : Nat) (.ref b)) ep')) := (W3.upd wdx).upd wdd
  have gal4 : (upd (upd H3 dx (.attrs [("cells", .ref dd), ("next", .int ((as.length : Nat) + 1))])) dd (.dict (putI (en (as.map .ref)) (as.length : Nat) (.ref b)) ep')) al = some (.list (ns.map .int)) := by
    rw [upd_ne fun z => ?_, upd_ne fun z => ?_]
    · exact gal3
    · have := hpz'.f; rw [← z, gal3] at this; cases this
    · obtain ⟨e1, e2⟩ := hpz'.d; rw [← z, gal3] at e2; cases e2
  have ch4 : (upd (upd H3 dx (.attrs [("cells", .ref dd), ("next", .int ((as.length : Nat) + 1))])) dd (.dict (putI (en (as.map .ref)) (as.length : Nat) (.ref b)) ep')) (V.L + 1) = some (.cell (some (.ref hp))) := by
    have ch3 := x23 _ _ ch
    rw [upd_ne fun z => ?_, upd_ne fun z => ?_]
    · exact ch3
    · have := hpz'.f; rw [← z, ch3] at this; cases this
    · obtain ⟨e1, e2⟩ := hpz'.d; rw [← z, ch3] at e2; cases e2
  generalize upd (upd H3 dx (.attrs [("cells", .ref dd), ("next", .int ((as.length : Nat) + 1))])) dd (.dict (putI (en (as.map .ref)) (as.length : Nat) (.ref b)) ep') = H4 at frs4 W4 gal4 ch4 ⊢
  clear hpz hpz' W3 x23 cbW gal3 hp1 hp1' hp2 frs W1 hfd1 ch wdx wdd
  rw [hal]
  generalize hm0 : ((("new", .int _) : Str × PV) :: _) = m0
  have k1 : Lk m0 "rows" (.ref rl) := by rw [← hm0]; rfl
  have k2 : Lk m0 "fresh" (.ref fr) := by rw [← hm0]; rfl
  have k3 : Lk m0 "found" (.ref fd) := by rw [← hm0]; rfl
  have k4 : Lk m0 "many" (.int (cs'.length : Nat)) := by rw [← hm0]; rfl
  have k5 : Lk m0 "ahead" (.ref al) := by rw [← hm0]; rfl
  have k6 : Lk m0 "new" (.int (cs'.length : Nat)) := by rw [← hm0]; rfl
  clear hm0
  have hlen4 : (cs' ++ [Cl.da "new" [.at a0]]).length = cs'.length + 1 := by rw [List.length_append]; rfl
  have hz4 : ∀ c ∈ cs' ++ [Cl.da "new" [.at a0]], c.vals.length ≤ 800 := fun c hc => by
    rcases List.mem_append.mp hc with h | h
    · exact hz c h
    · rw [List.mem_singleton.mp h]; show 1 ≤ 800; lia
  -- the test
  refine EX.mid (J := fun m' H' => m' = m0 ∧ H' = H4) (E1.ite (ET.or_ (ET.cmp (EV.local_ O rfl k6 (EV.local_ O rfl k5 (.inl ⟨ns, gal4, ?_⟩)))))) ?_
  · have hnin : ns.any (· == ((cs'.length : Nat) : Int)) = false := by
      rw [List.any_eq_false]
      intro z hzm e
      obtain ⟨j, rfl, hj⟩ := hmemz z hzm
      have : (j : Int) = (cs'.length : Nat) := by simpa using e
      lia
    rw [hnin]
    refine ⟨fun w9 => ?_, nofun⟩
    obtain ⟨dx, dd, as, hp1, hp2⟩ := (frs4.ext less_sub).ex
    have hal := hp2.len
    refine ET.or_ (ET.cmp (EV.meth O GG (EV.local_ O rfl k2 ⟨fr, 232, dx, _, 229, rfl, hp1.i, hp1.f, kmt_232_many, rfl, ?_⟩)))
    refine c_many (n := n + 2) GG hp1 (by rw [enF_len, List.length_map, sizeLine_eq]; lia) ?_
    refine EV.bin (EV.local_ O rfl k4 (EV.int_ ?_))
    show ((_ != _) = false → _) ∧ ((_ != _) = true → _)
    rw [enF_len, List.length_map, hal, hlen4, show (((cs'.length + 1 : Nat) : Int) != ((cs'.length : Nat) : Int) + 1) = false by rw [bne_eq_false_iff_eq]; lia]
    refine ⟨fun w9 => ?_, nofun⟩
    refine ET.or_ (ET.cmp (EV.attr GG (EV.meth O GG (EV.local_ O rfl k2 ⟨fr, 232, dx, _, 215, rfl, hp1.i, hp1.f, kmt_232_get, rfl, EV.local_ O rfl k6 ?_⟩))))
    refine HeapAt.get (n := n) GG (frs4.ext less_sub) (by lia) (fun b2 c2 hc2 cb2 => ?_) fun hn => ?_
    · have : c2 = .da "new" [.at a0] := by
        rw [List.getElem?_append_right (Nat.le_refl _), Nat.sub_self] at hc2
        exact (Option.some.inj hc2).symm
      subst this
      obtain ⟨dx2, l2, e1, e2, e3⟩ := cb2.ex
      refine ⟨b2, 183, dx2, _, .str "new", rfl, e1, e2, kc_183, kf_183_con, rfl, EV.str_ ⟨fun w9 => ET.or_nil ⟨nofun, fun w9 => EX.nil ⟨rfl, rfl, rfl⟩⟩, nofun⟩⟩
    · rw [List.getElem?_eq_none_iff, hlen4] at hn; lia
  rintro m' H' ⟨em, eH⟩
  rw [em, eH]
  clear em eH m' H'
  -- the loop
  refine EX.mid (J := fun m' H' => C4 (Lk m' "rows" (.ref rl)) (H' (V.L + 1) = some (.cell (some (.ref hp)))) (Ext W H') (∃ csk, HeapAt (less W H') fr csk ∧ All2 (Up 60) (cs' ++ [.da "new" [.at a0]]) csk))
    (E1.for_ O (EV.bcall O GG rfl kb_sorted rfl (.inr ⟨_, rfl⟩) (EV.local_ O rfl k3 (BCall.sorted_dict O rfl (W4 _ _ hfd) (fun w9 => by rw [fdP_len]; lia) fun sl ms hsl hmp hms hmn => ?_)))) ?_
  · have hml : ms.length = fl.length := by rw [hmp.length_eq, List.length_map, fdP_len]
    have hWsl : W sl = none := none_of_x W4 hsl
    have w2 : Ext W (upd W sl (.list (ms.map PV.int))) := Ext.new hWsl
    have l2 : ∀ {Z : AH}, Ext (less (upd W sl (.list (ms.map PV.int))) Z) (less W Z) := fun {Z} a o e => by
      obtain ⟨e1, e2⟩ := less_some e
      have : W a = none := none_of_x w2 e1
      rw [less_at this]; exact e2
    have x5 : Ext (upd W sl (.list (ms.map PV.int))) (upd H4 sl (.list (ms.map PV.int))) := fun a o e => by
      by_cases z : a = sl
      · subst z; rw [upd_self] at e ⊢; exact e
      · rw [upd_ne z] at e ⊢; exact W4 a o e
    have f5 : HeapAt (less (upd W sl (.list (ms.map PV.int))) (upd H4 sl (.list (ms.map PV.int)))) fr (cs' ++ [.da "new" [.at a0]]) := frs4.ext fun a o e => by
      obtain ⟨e1, e2⟩ := less_some e
      have na : a ≠ sl := ne_of_none' hsl e2
      rw [less_at (by rw [upd_ne na]; exact e1), upd_ne na]; exact e2
    have ch5 := Ext.new (o := .list (ms.map PV.int)) hsl _ _ ch4
    have hsl5 : upd W sl (.list (ms.map PV.int)) sl = some (.list (ms.map PV.int)) := upd_self
    have hfd5 := w2 _ _ hfd
    generalize upd H4 sl (.list (ms.map PV.int)) = H5 at x5 f5 ch5 ⊢
    generalize upd W sl (.list (ms.map PV.int)) = W2 at w2 l2 x5 f5 hsl5 hfd5 ⊢
    refine ⟨ms.map PV.int, some (sl, _), IterOf.list (x5 _ _ hsl5), fun k m' H' => Ex1 fun csk => C7 (Lk m' "rows" (.ref rl)) (Lk m' "fresh" (.ref fr)) (Lk m' "found" (.ref fd)) (H' (V.L + 1) = some (.cell (some (.ref hp)))) (Ext W2 H') (HeapAt (less W2 H') fr csk) (All2 (Up k) (cs' ++ [.da "new" [.at a0]]) csk),
      ⟨_, k1, k2, k3, ch5, x5, f5, All2.refl (fun c => ⟨0, Nat.le_refl _, addN_zero.symm⟩) _⟩, (fun k m' H' ⟨_, _, _, _, _, h, _, _⟩ => h _ _ hsl5), ?_, ?_⟩
    · rintro it o k p m' H' R u O2 hpk ⟨csk, k1, k2, k3, ch, Wk, frk, upk⟩
      obtain ⟨z, hzk, rfl⟩ := map_at (f := PV.int) hpk
      have hk60 : k < 60 := by have := (List.getElem?_eq_some_iff.mp hzk).1; lia
      have hzm := hmp.mem_iff.mp (List.mem_iff_getElem?.mpr ⟨k, hzk⟩)
      rw [fdP_keys] at hzm
      obtain ⟨e, he, rfl⟩ := List.mem_map.mp hzm
      obtain ⟨j, hj⟩ : ∃ j, fl.lookup e = some j := by
        cases q : fl.lookup e with
        | some j => exact ⟨j, rfl⟩
        | none => exact absurd he (lookup_none' q)
      have hjl := hfl _ (lookup_mem' hj)
      have hjl' : j < cs'.length := hjl
      obtain ⟨dx, dd, as, hp1, hp2⟩ := (frk.ext less_sub).ex
      refine AT.local O2 rfl (EX.next (E1.assign (EV.meth O2 GG (EV.local_ O2 rfl (k2.skip (by decide)) ⟨fr, 232, dx, _, 215, rfl, hp1.i, hp1.f, kmt_232_get, rfl, EV.sub (EV.local_ O2 rfl (k3.skip (by decide)) (EV.local_ O2 rfl rfl (.inr ⟨_, ep, .int (j : Nat), Wk _ _ hfd5, by rw [fdP_lookup, hj]; rfl, ?_⟩)))⟩))))
      obtain ⟨dx', dd', as', hp1', hp2'⟩ := frk.ex
      have hcl := upk.len
      obtain ⟨c, hc⟩ : ∃ c, csk[j]? = some c := ⟨_, List.getElem?_eq_getElem (by rw [← hcl, hlen4]; lia)⟩
      refine c_get (n := n) GG (hp1'.ext less_sub) (log_small (by lia)) (fun p hp => ?_) fun hn => ?_
      rotate_left
      · rw [en_lookup, List.getElem?_map] at hn
        obtain ⟨b, hb, _⟩ := hp2'.right hc
        rw [hb] at hn; cases hn
      rw [en_lookup, List.getElem?_map] at hp
      obtain ⟨b, hb, cb⟩ := hp2'.right hc
      rw [hb] at hp; cases hp
      refine AT.local O2 rfl ⟨rfl, ?_⟩
      have k1 := (k1.skip (y := "old") (q := .int (e : Nat)) (by decide)).skip (y := "cell") (q := .ref b) (by decide)
      have k2 := (k2.skip (y := "old") (q := .int (e : Nat)) (by decide)).skip (y := "cell") (q := .ref b) (by decide)
      have k3 := (k3.skip (y := "old") (q := .int (e : Nat)) (by decide)).skip (y := "cell") (q := .ref b) (by decide)
      have k6 : Lk ((("cell", .ref b) : Str × PV) :: ("old", .int (e : Nat)) :: m') "cell" (.ref b) := rfl
      generalize ((("cell", .ref b) : Str × PV) :: ("old", .int (e : Nat)) :: m') = m2 at k1 k2 k3 k6 ⊢
      have hvz : c.vals.length ≤ 900 := by
        obtain ⟨c0, hc0, kk, hkk, rfl⟩ := upk.right hc
        have := hz4 c0 (List.mem_iff_getElem?.mpr ⟨j, hc0⟩)
        have := addN_vals (c := c0) (k := kk)
        lia
      have hlz : (c.vals.map Vl.pv).length < sizeLine := by rw [List.length_map, sizeLine_eq]; lia
      obtain ⟨bdx, l, g1, g2, g3⟩ := cb.ex
      have hWl : c.hasL = true → W2 l = none := fun h => (less_some (g3 h)).1
      have hl : c.hasL = true → H' l = some (.list (c.vals.map Vl.pv)) := fun h => (less_some (g3 h)).2
      have g1 := less_sub _ _ g1
      have g2 := less_sub _ _ g2
      have fin1 : Ex1 fun csk => C7 (Lk m2 "rows" (.ref rl)) (Lk m2 "fresh" (.ref fr)) (Lk m2 "found" (.ref fd)) (H' (V.L + 1) = some (.cell (some (.ref hp)))) (Ext W2 H') (HeapAt (less W2 H') fr csk) (All2 (Up (k + 1)) (cs' ++ [.da "new" [.at a0]]) csk) :=
        ⟨csk, k1, k2, k3, ch, Wk, frk, upk.mono fun a b ⟨i, h1, h2⟩ => ⟨i, Nat.le_succ_of_le h1, h2⟩⟩
      have fin2 : c.hasL = true → Ex1 fun csk => C7 (Lk m2 "rows" (.ref rl)) (Lk m2 "fresh" (.ref fr)) (Lk m2 "found" (.ref fd)) (upd H' l (.list (c.vals.map Vl.pv ++ [.tup [.str "int", .int 99]])) (V.L + 1) = some (.cell (some (.ref hp)))) (Ext W2 (upd H' l (.list (c.vals.map Vl.pv ++ [.tup [.str "int", .int 99]])))) (HeapAt (less W2 (upd H' l (.list (c.vals.map Vl.pv ++ [.tup [.str "int", .int 99]])))) fr csk) (All2 (Up (k + 1)) (cs' ++ [.da "new" [.at a0]]) csk) := fun h => by
        obtain ⟨csk2, f2, u2⟩ := frk.app (g3 h)
        refine ⟨csk2, k1, k2, k3, (upd_ne fun z => by have := hl h; rw [← z, ch] at this; cases this).trans ch, Wk.upd (hWl h), ?_, upk.comp u2 fun a b c ⟨i, h1, h2⟩ ⟨i', h3, h4⟩ => ?_⟩
        · rw [less_upd (hWl h)]
          rw [List.map_append] at f2; exact f2
        · have : i' = 0 ∨ i' = 1 := by lia
          rcases this with rfl | rfl
          · rw [addN_zero] at h4; exact ⟨i, by lia, by rw [h4, h2]⟩
          · exact ⟨i + 1, by lia, by rw [h4, h2, addN_succ]⟩
      clear g3 hWl cb hvz hc
      cases c with
      | fn k vs =>
        refine EX.ite (ET.plain (EV.bcall O2 GG rfl kb_isinstance rfl (.inr ⟨_, rfl⟩) (EV.local_ O2 rfl k6 (EV.tuple_ (EV.global_ O2 GG rfl kn_Partial (EV.global_ O2 GG rfl kn_Data (BCall.isi2 GG g1 g2 kis_64 kia_64_85_183 ⟨nofun, fun w9 => Then.go ?_⟩)))))))
        refine EX.ite (ET.plain (EV.bcall O2 GG rfl kb_isinstance rfl (.inr ⟨_, rfl⟩) (EV.local_ O2 rfl k6 (EV.tuple_ (EV.global_ O2 GG rfl kn_Function (EV.global_ O2 GG rfl kn_Thunk (BCall.isi2 GG g1 g2 kis_64 kia_64_64_106 ⟨fun w9 => ?_, nofun⟩)))))))
        exact EX.next (E1.expr O2 (EV.append (EV.fld O2 GG rfl k6 g1 g2 kc_64 kf_64_captured rfl ⟨l, rfl, ⟨_, hl rfl⟩, EV.tuple_ (EVs.consts (.str (.int .nil)) ⟨_, hl rfl, hlz, rfl, Then.go (EX.nil (u.nx (fin2 rfl)))⟩)⟩)))
      | th k vs =>
        refine EX.ite (ET.plain (EV.bcall O2 GG rfl kb_isinstance rfl (.inr ⟨_, rfl⟩) (EV.local_ O2 rfl k6 (EV.tuple_ (EV.global_ O2 GG rfl kn_Partial (EV.global_ O2 GG rfl kn_Data (BCall.isi2 GG g1 g2 kis_106 kia_106_85_183 ⟨nofun, fun w9 => Then.go ?_⟩)))))))
        refine EX.ite (ET.plain (EV.bcall O2 GG rfl kb_isinstance rfl (.inr ⟨_, rfl⟩) (EV.local_ O2 rfl k6 (EV.tuple_ (EV.global_ O2 GG rfl kn_Function (EV.global_ O2 GG rfl kn_Thunk (BCall.isi2 GG g1 g2 kis_106 kia_106_64_106 ⟨fun w9 => ?_, nofun⟩)))))))
        exact EX.next (E1.expr O2 (EV.append (EV.fld O2 GG rfl k6 g1 g2 kc_106 kf_106_captured rfl ⟨l, rfl, ⟨_, hl rfl⟩, EV.tuple_ (EVs.consts (.str (.int .nil)) ⟨_, hl rfl, hlz, rfl, Then.go (EX.nil (u.nx (fin2 rfl)))⟩)⟩)))
      | pa i vs =>
        refine EX.ite (ET.plain (EV.bcall O2 GG rfl kb_isinstance rfl (.inr ⟨_, rfl⟩) (EV.local_ O2 rfl k6 (EV.tuple_ (EV.global_ O2 GG rfl kn_Partial (EV.global_ O2 GG rfl kn_Data (BCall.isi2 GG g1 g2 kis_85 kia_85_85_183 ⟨fun w9 => ?_, nofun⟩)))))))
        refine EX.next (E1.expr O2 (EV.append (EV.fld O2 GG rfl k6 g1 g2 kc_85 kf_85_values rfl ⟨l, rfl, ⟨_, hl rfl⟩, EV.tuple_ (EVs.consts (.str (.int .nil)) ⟨_, hl rfl, hlz, rfl, Then.go ?_⟩)⟩)))
        have n1 : b ≠ l := fun z => by have := hl rfl; rw [← z, g1] at this; cases this
        have n2 : bdx ≠ l := fun z => by have := hl rfl; rw [← z, g2] at this; cases this
        refine EX.ite (ET.plain (EV.bcall O2 GG rfl kb_isinstance rfl (.inr ⟨_, rfl⟩) (EV.local_ O2 rfl k6 (EV.tuple_ (EV.global_ O2 GG rfl kn_Function (EV.global_ O2 GG rfl kn_Thunk (BCall.isi2 GG ((upd_ne n1).trans g1) ((upd_ne n2).trans g2) kis_85 kia_85_64_106 ⟨nofun, fun w9 => Then.go ?_⟩)))))))
        exact EX.nil (u.nx (fin2 rfl))
      | da k vs =>
        refine EX.ite (ET.plain (EV.bcall O2 GG rfl kb_isinstance rfl (.inr ⟨_, rfl⟩) (EV.local_ O2 rfl k6 (EV.tuple_ (EV.global_ O2 GG rfl kn_Partial (EV.global_ O2 GG rfl kn_Data (BCall.isi2 GG g1 g2 kis_183 kia_183_85_183 ⟨fun w9 => ?_, nofun⟩)))))))
        refine EX.next (E1.expr O2 (EV.append (EV.fld O2 GG rfl k6 g1 g2 kc_183 kf_183_values rfl ⟨l, rfl, ⟨_, hl rfl⟩, EV.tuple_ (EVs.consts (.str (.int .nil)) ⟨_, hl rfl, hlz, rfl, Then.go ?_⟩)⟩)))
        have n1 : b ≠ l := fun z => by have := hl rfl; rw [← z, g1] at this; cases this
        have n2 : bdx ≠ l := fun z => by have := hl rfl; rw [← z, g2] at this; cases this
        refine EX.ite (ET.plain (EV.bcall O2 GG rfl kb_isinstance rfl (.inr ⟨_, rfl⟩) (EV.local_ O2 rfl k6 (EV.tuple_ (EV.global_ O2 GG rfl kn_Function (EV.global_ O2 GG rfl kn_Thunk (BCall.isi2 GG ((upd_ne n1).trans g1) ((upd_ne n2).trans g2) kis_183 kia_183_64_106 ⟨nofun, fun w9 => Then.go ?_⟩)))))))
        exact EX.nil (u.nx (fin2 rfl))
      | ho =>
        refine EX.ite (ET.plain (EV.bcall O2 GG rfl kb_isinstance rfl (.inr ⟨_, rfl⟩) (EV.local_ O2 rfl k6 (EV.tuple_ (EV.global_ O2 GG rfl kn_Partial (EV.global_ O2 GG rfl kn_Data (BCall.isi2 GG g1 g2 kis_120 kia_120_85_183 ⟨nofun, fun w9 => Then.go ?_⟩)))))))
        refine EX.ite (ET.plain (EV.bcall O2 GG rfl kb_isinstance rfl (.inr ⟨_, rfl⟩) (EV.local_ O2 rfl k6 (EV.tuple_ (EV.global_ O2 GG rfl kn_Function (EV.global_ O2 GG rfl kn_Thunk (BCall.isi2 GG g1 g2 kis_120 kia_120_64_106 ⟨nofun, fun w9 => Then.go ?_⟩)))))))
        exact EX.nil (u.nx fin1)
      | pl v =>
        refine EX.ite (ET.plain (EV.bcall O2 GG rfl kb_isinstance rfl (.inr ⟨_, rfl⟩) (EV.local_ O2 rfl k6 (EV.tuple_ (EV.global_ O2 GG rfl kn_Partial (EV.global_ O2 GG rfl kn_Data (BCall.isi2 GG g1 g2 kis_162 kia_162_85_183 ⟨nofun, fun w9 => Then.go ?_⟩)))))))
        refine EX.ite (ET.plain (EV.bcall O2 GG rfl kb_isinstance rfl (.inr ⟨_, rfl⟩) (EV.local_ O2 rfl k6 (EV.tuple_ (EV.global_ O2 GG rfl kn_Function (EV.global_ O2 GG rfl kn_Thunk (BCall.isi2 GG g1 g2 kis_162 kia_162_64_106 ⟨nofun, fun w9 => Then.go ?_⟩)))))))
        exact EX.nil (u.nx fin1)
      | li i =>
        refine EX.ite (ET.plain (EV.bcall O2 GG rfl kb_isinstance rfl (.inr ⟨_, rfl⟩) (EV.local_ O2 rfl k6 (EV.tuple_ (EV.global_ O2 GG rfl kn_Partial (EV.global_ O2 GG rfl kn_Data (BCall.isi2 GG g1 g2 kis_141 kia_141_85_183 ⟨nofun, fun w9 => Then.go ?_⟩)))))))
        refine EX.ite (ET.plain (EV.bcall O2 GG rfl kb_isinstance rfl (.inr ⟨_, rfl⟩) (EV.local_ O2 rfl k6 (EV.tuple_ (EV.global_ O2 GG rfl kn_Function (EV.global_ O2 GG rfl kn_Thunk (BCall.isi2 GG g1 g2 kis_141 kia_141_64_106 ⟨nofun, fun w9 => Then.go ?_⟩)))))))
        exact EX.nil (u.nx fin1)

    · rintro m' H' ⟨csk, k1, k2, k3, ch, Wk, frk, upk⟩
      refine ⟨rfl, k1, ch, w2.trans Wk, csk, frk.ext l2, upk.mono fun a b ⟨k, h1, h2⟩ => ⟨k, ?_, h2⟩⟩
      rw [List.length_map, hml] at h1; lia
  rintro m' H5 ⟨k1, ch, W5, csk, frk, upk⟩
  obtain ⟨ps, hrl, h2⟩ := rows.ex
  have hlen := h2.len
  have hpz : ps.length ≤ sizeLine := by rw [hlen, sizeLine_eq]; lia
  refine EX.ret (EV.cmpD O (.inl rfl) (EV.comp [("heap", V.L + 1)] O (EV.bcall O GG rfl kb_range rfl (.inl ⟨_, rfl⟩) (EV.bcall O GG rfl kb_len rfl (.inr ⟨_, rfl⟩) (EV.local_ O rfl k1 (BCall.len_list (W5 _ _ hrl) hpz (BCall.range fun ra ob hra hob => ?_)))))))
  have x6 := Ext.new (o := .raw ob) hra
  have g6 : upd H5 ra (.raw ob) ra = some (.raw ob) := upd_self
  have W6 := W5.trans x6
  have ch6 := x6 _ _ ch
  have frk := frk.ext (less_ext x6)
  generalize upd H5 ra (.raw ob) = H6 at x6 g6 W6 ch6 frk ⊢
  have hut : (upTo (ps.length : Nat)).length = cs.length := by unfold upTo; rw [List.length_map, List.length_range, Int.toNat_natCast, hlen]
  refine ⟨upTo (ps.length : Nat), none, IterOf.range O rfl g6 hob (by lia) (by lia), by rw [hut, sizeLine_eq]; lia, fun D hD => ⟨fun k acc H7 => C4 (Ext H6 H7) (H6 D = none) (H7 D = some (.list acc)) (All2 (RowAt (mns H7 [D])) acc (cs.take k)), ⟨Ext.new hD, hD, upd_self, by simpa using All2.nil⟩, (fun k acc H7 ⟨_, _, h7, _⟩ => ⟨trivial, h7⟩), ?_, ?_⟩⟩
  · rintro C it o k p acc H7 O7 hp7 ⟨x7, hD, h7, a2⟩
    obtain ⟨hkl, rfl⟩ : k < ps.length ∧ p = .int (k : Nat) := by
      unfold upTo at hp7
      rw [List.getElem?_map, Int.toNat_natCast] at hp7
      cases z : (List.range ps.length)[k]? with
      | none => rw [z] at hp7; cases hp7
      | some j =>
        rw [z] at hp7
        obtain ⟨h1, h2⟩ := List.getElem?_eq_some_iff.mp z
        simp at h1 h2
        subst h2
        exact ⟨h1, by simpa using hp7.symm⟩
    obtain ⟨c, hc⟩ : ∃ c, cs[k]? = some c := ⟨_, List.getElem?_eq_getElem (by lia)⟩
    have W7 := W6.trans x7
    have old7 := old.ext W7
    obtain ⟨dx, dd, as, hp1, hp2⟩ := id old7.ex
    have hcz := ft.at hc
    have hcz2 : c.vals.length ≤ 1000 := by cases c <;> first | exact hcz | exact Nat.zero_le _
    refine AT.local O7 rfl ⟨fun w9 => ?_, nofun⟩
    refine EV.call O7 GG (EV.global_ O7 GG rfl kn_law_row ⟨358, rfl, kk_358, EV.meth O7 GG (EV.cell_ O7 (.inl rfl) rfl (x7 _ _ ch6) ⟨hp, 232, dx, _, 215, rfl, hp1.i, hp1.f, kmt_232_get, rfl, EV.local_ O7 rfl rfl ?_⟩)⟩)
    refine HeapAt.get (n := n) GG old7 (by lia) (fun b c2 hc2 cb => ?_) fun hn => by rw [hc] at hn; cases hn
    rw [hc] at hc2; cases hc2
    refine c_law_row (n := n + 2) GG cb hcz2 fun l hl => ⟨Ext.new hl _ _ h7, (x7.trans (Ext.new hl)).upd hD, hD, upd_self, ?_⟩
    have nlD : l ≠ D := ne_of_none hl h7
    rw [mns_in (by simp), take_snoc hc]
    have nm : l ∉ [D] := by simpa using nlD
    refine (a2.mono fun _ _ z => z.ext ?_).snoc ⟨l, rfl, by rw [mns_at nm]; exact upd_self⟩
    exact (Ext.new hl).mns
  · rintro acc H7 ⟨x7, hD, h7, a2⟩
    rw [hut, List.take_length] at a2
    have W7 := W6.trans x7
    have hrl7 := W7 _ _ hrl
    refine EV.comp [] O (EV.local_ O rfl k1 ⟨ps, some (rl, _), IterOf.list hrl7, hpz, fun D2 hD2 => ⟨fun k acc2 H8 => C4 (Ext H7 H8) (H7 D2 = none) (H8 D2 = some (.list acc2)) (All2 (RowAt (mns H8 [D2])) acc2 (cs.take k)), ⟨Ext.new hD2, hD2, upd_self, by simpa using All2.nil⟩, (fun k acc H8 ⟨x8, _, h8, _⟩ => ⟨x8 _ _ hrl7, h8⟩), ?_, ?_⟩⟩)
    · rintro C it o k p acc2 H8 O8 hp8 ⟨x8, hD2, h8, b2⟩
      obtain ⟨c, hc, rc⟩ := h2.left hp8
      obtain ⟨l0, rfl, hl0⟩ := (rc.ext (W7.trans x8)).ex
      have hcz := ft.at hc
      refine AT.local O8 rfl ⟨fun w9 => ?_, nofun⟩
      refine EV.tuple_ (EV.sub (EV.local_ O8 rfl rfl (EV.int_ ⟨0, _, rfl, by decide, rfl, EV.sub (EV.local_ O8 rfl rfl (EV.int_ ⟨1, _, rfl, by decide, rfl, EV.bcall O8 GG rfl kb_list rfl (.inl ⟨_, rfl⟩) (EV.sub (EV.local_ O8 rfl rfl (EV.int_ ⟨2, _, rfl, by decide, rfl, BCall.list_list hl0 (by rw [List.length_map, sizeLine_eq]; lia) fun l hl => ?_⟩)))⟩))⟩)))
      have nlD : l ≠ D2 := ne_of_none hl h8
      have nm : l ∉ [D2] := by simpa using nlD
      refine ⟨Ext.new hl _ _ h8, (x8.trans (Ext.new hl)).upd hD2, hD2, upd_self, ?_⟩
      rw [mns_in (by simp), take_snoc hc]
      refine (b2.mono fun _ _ z => z.ext ?_).snoc ⟨l, rfl, by rw [mns_at nm]; exact upd_self⟩
      exact (Ext.new hl).mns
    · rintro acc2 H8 ⟨x8, hD2, h8, b2⟩
      rw [hlen, List.take_length] at b2
      have e1 : rd H8 60 (.ref D) = some (.list (cs.map rowD)) := by
        show (match H8 D with | some (.list ps) => (rdL (rd H8 59) ps).map PyData.list | _ => none) = _
        rw [x8 _ _ h7]
        dsimp only
        rw [rdL_rows (n := 55) (a2.mono fun _ _ z => (z.ext mns_sub).ext x8) ok]; rfl
      have e2 : rd H8 60 (.ref D2) = some (.list (cs.map rowD)) := by
        show (match H8 D2 with | some (.list ps) => (rdL (rd H8 59) ps).map PyData.list | _ => none) = _
        rw [h8]
        dsimp only
        rw [rdL_rows (n := 55) (b2.mono fun _ _ z => z.ext mns_sub) ok]; rfl
      refine ⟨_, _, e1, e2, ?_⟩
      have e3 : (if CmpOp.Eq = CmpOp.Eq then PyData.eqv (.list (cs.map rowD)) (.list (cs.map rowD)) else !PyData.eqv (.list (cs.map rowD)) (.list (cs.map rowD))) = true := by
        rw [if_pos rfl]; exact rows_eq
      rw [e3]
      exact q H8 csk a0 (W7.trans x8) ((frk.ext (less_ext (x7.trans x8))).ext less_sub) ha0 upk
end
end Mine

namespace Mine

/-! ## Plain facts of what collecting has made -/
theorem at_right {mv : List (Int × PV)} {vs vs' : List Vl} (x : All2 (CpV mv) vs vs') : ∀ i : Nat, Vl.at i ∈ vs' → ∃ a : Nat, Vl.at a ∈ vs ∧ mv.lookup (a : Int) = some (.int (i : Nat)) := by
  induction x with
  | nil => intro i h; cases h
  | cons h _ ih =>
    intro i hi
    rcases List.mem_cons.mp hi with e | hi
    · cases h with
      | int => cases e
      | char => cases e
      | «at» h => cases e; exact ⟨_, List.mem_cons_self, h⟩
    · obtain ⟨a, h1, h2⟩ := ih i hi
      exact ⟨a, List.mem_cons_of_mem _ h1, h2⟩
theorem at_left {mv : List (Int × PV)} {vs vs' : List Vl} (x : All2 (CpV mv) vs vs') : ∀ a : Nat, Vl.at a ∈ vs → ∃ i : Nat, Vl.at i ∈ vs' ∧ mv.lookup (a : Int) = some (.int (i : Nat)) := by
  induction x with
  | nil => intro i h; cases h
  | cons h _ ih =>
    intro i hi
    rcases List.mem_cons.mp hi with e | hi
    · cases h with
      | int => cases e
      | char => cases e
      | «at» h => cases e; exact ⟨_, List.mem_cons_self, h⟩
    · obtain ⟨a, h1, h2⟩ := ih i hi
      exact ⟨a, List.mem_cons_of_mem _ h1, h2⟩
theorem char_right {mv : List (Int × PV)} {vs vs' : List Vl} (x : All2 (CpV mv) vs vs') : ∀ s, Vl.char s ∈ vs' → Vl.char s ∈ vs := by
  induction x with
  | nil => intro i h; cases h
  | cons h _ ih =>
    intro s hi
    rcases List.mem_cons.mp hi with e | hi
    · cases h with
      | int => cases e
      | char => cases e; exact List.mem_cons_self
      | «at» h => cases e
    · exact List.mem_cons_of_mem _ (ih s hi)
theorem CpC.succ_r {mv c c'} (x : CpC mv c c') {i : Nat} (h : i ∈ c'.succs) : ∃ a : Nat, a ∈ c.succs ∧ mv.lookup (a : Int) = some (.int (i : Nat)) := by
  rcases List.mem_append.mp (mem_succs.mp h) with h | h
  · obtain ⟨a, h1, h2⟩ := at_right x.rvals i (mem_ats.mp h)
    exact ⟨a, mem_succs.mpr (List.mem_append_left _ (mem_ats.mpr h1)), h2⟩
  · cases x with
    | pa h1 h2 => rw [List.mem_singleton.mp h]; exact ⟨_, mem_succs.mpr (List.mem_append_right _ List.mem_cons_self), h1⟩
    | _ => cases h
theorem CpC.succ_l {mv c c'} (x : CpC mv c c') {a : Nat} (h : a ∈ c.succs) : ∃ i : Nat, i ∈ c'.succs ∧ mv.lookup (a : Int) = some (.int (i : Nat)) := by
  rcases List.mem_append.mp (mem_succs.mp h) with h | h
  · obtain ⟨i, h1, h2⟩ := at_left x.rvals a (mem_ats.mp h)
    exact ⟨i, mem_succs.mpr (List.mem_append_left _ (mem_ats.mpr h1)), h2⟩
  · cases x with
    | pa h1 h2 => rw [List.mem_singleton.mp h]; exact ⟨_, mem_succs.mpr (List.mem_append_right _ List.mem_cons_self), h1⟩
    | _ => cases h
theorem CpC.noli {mv c c'} (x : CpC mv c c') : c'.isLi = false := by cases x <;> rfl

section
variable {cs cs' cs'' : List Cl} {rs wt st : List Nat} {mv : List (Int × PV)} {a0 : Nat}
theorem Col.mvE (x : Col cs rs mv wt cs') {a i : Nat} (h : mv.lookup (a : Int) = some (.int (i : Nat))) : ∃ e, wt[i]? = some e ∧ lend cs a = some e := by
  obtain ⟨a', i', e, h1, h2, h3, h4⟩ := x.iv.mvI _ _ h
  obtain rfl : a = a' := by lia
  obtain rfl : i = i' := by injection h2 with h2; lia
  exact ⟨e, h3, h4⟩
theorem Col.all (x : Col cs rs mv wt cs') : ∀ a, Rc cs rs a → ∃ i e : Nat, mv.lookup (a : Int) = some (.int (i : Nat)) ∧ wt[i]? = some e ∧ lend cs a = some e := by
  intro a ha
  induction ha with
  | root h => exact x.rts _ h
  | step h1 h2 h3 h4 ih =>
    obtain ⟨i, e, g1, g2, g3⟩ := ih
    rw [h2] at g3; cases g3
    obtain ⟨c, c', k1, k2, k3⟩ := x.cp i _ g2
    rw [h3] at k1; cases k1
    obtain ⟨j, _, hj⟩ := k3.succ_l h4
    obtain ⟨e', h5, h6⟩ := x.mvE hj
    exact ⟨j, e', hj, h5, h6⟩
theorem Col.cell (x : Col cs rs mv wt cs') {j : Nat} {c' : Cl} (h : cs'[j]? = some c') : ∃ (c : Cl) (e : Nat), wt[j]? = some e ∧ cs[e]? = some c ∧ CpC mv c c' := by
  have hj : j < wt.length := by rw [← x.len]; exact (List.getElem?_eq_some_iff.mp h).1
  obtain ⟨c, c2, h1, h2, h3⟩ := x.cp j wt[j] (List.getElem?_eq_getElem hj)
  rw [h] at h2; cases h2
  exact ⟨c, _, List.getElem?_eq_getElem hj, h1, h3⟩
theorem Col.succ_lt (x : Col cs rs mv wt cs') {j b : Nat} {c' : Cl} (h : cs'[j]? = some c') (hb : b ∈ c'.succs) : b < wt.length := by
  obtain ⟨c, e, h1, h2, h3⟩ := x.cell h
  obtain ⟨a, _, ha⟩ := h3.succ_r hb
  obtain ⟨e', h5, _⟩ := x.mvE ha
  exact (List.getElem?_eq_some_iff.mp h5).1

/-- the new heap as it is gone on with -/
theorem up_at (up : All2 (Up 60) (cs' ++ [.da "new" [.at a0]]) cs'') {j : Nat} {c : Cl} (h : cs''[j]? = some c) : (∃ c' k, cs'[j]? = some c' ∧ k ≤ 60 ∧ c = addN k c') ∨ (j = cs'.length ∧ ∃ k, k ≤ 60 ∧ c = addN k (.da "new" [.at a0])) := by
  obtain ⟨c', hc', k, hk, rfl⟩ := up.right h
  by_cases z : j < cs'.length
  · rw [List.getElem?_append_left z] at hc'; exact .inl ⟨c', k, hc', hk, rfl⟩
  · rw [List.getElem?_append_right (by lia)] at hc'
    have : j - cs'.length = 0 := by
      cases q : j - cs'.length with
      | zero => rfl
      | succ n => rw [q] at hc'; simp at hc'
    rw [this] at hc'; cases hc'
    exact .inr ⟨by lia, k, hk, rfl⟩
theorem up_of (up : All2 (Up 60) (cs' ++ [.da "new" [.at a0]]) cs'') {j : Nat} {c' : Cl} (h : cs'[j]? = some c') : ∃ k, k ≤ 60 ∧ cs''[j]? = some (addN k c') := by
  obtain ⟨c, hc, k, hk, rfl⟩ := up.left (i := j) (a := c') (by rw [List.getElem?_append_left (List.getElem?_eq_some_iff.mp h).1]; exact h)
  exact ⟨k, hk, hc⟩
theorem up_noli (x : Col cs rs mv wt cs') (up : All2 (Up 60) (cs' ++ [.da "new" [.at a0]]) cs'') {j : Nat} {c : Cl} (h : cs''[j]? = some c) : c.isLi = false := by
  rcases up_at up h with ⟨c', k, h1, _, rfl⟩ | ⟨_, k, _, rfl⟩
  · obtain ⟨_, _, _, _, cp⟩ := x.cell h1
    rw [addN_li]; exact cp.noli
  · rfl
theorem up_lend (x : Col cs rs mv wt cs') (up : All2 (Up 60) (cs' ++ [.da "new" [.at a0]]) cs'') {j : Nat} (h : j < cs''.length) : lend cs'' j = some j :=
  lend_self (List.getElem?_eq_getElem h) (up_noli x up (List.getElem?_eq_getElem h))
theorem up_len (x : Col cs rs mv wt cs') (up : All2 (Up 60) (cs' ++ [.da "new" [.at a0]]) cs'') : cs''.length = wt.length + 1 := by
  rw [← up.len, List.length_append, x.len]; rfl
theorem up_succ (x : Col cs rs mv wt cs') (up : All2 (Up 60) (cs' ++ [.da "new" [.at a0]]) cs'') (ha0 : a0 < cs'.length) {j b : Nat} {c : Cl} (h : cs''[j]? = some c) (hb : b ∈ c.succs) : b < wt.length := by
  rcases up_at up h with ⟨c', k, h1, _, rfl⟩ | ⟨_, k, _, rfl⟩
  · exact x.succ_lt h1 (addN_mem.mp hb)
  · have := addN_mem.mp hb
    have : b = a0 := by simpa [Cl.succs] using this
    rw [this, ← x.len]; exact ha0
theorem up_small (x : Col cs rs mv wt cs') (up : All2 (Up 60) (cs' ++ [.da "new" [.at a0]]) cs'') (ha0 : a0 < cs'.length) (hw : wt.length ≤ 900) : Small cs'' := by
  refine ⟨by rw [up_len x up]; lia, fun a b h => ?_, fun a c b h hb => ?_⟩
  · have := up_noli x up h; cases this
  · have := up_succ x up ha0 h hb; lia
theorem rvals_addN {c : Cl} {k : Nat} : (addN k c).rvals.length ≤ c.rvals.length + k := by cases c <;> simp [addN, Cl.rvals]
theorem char_addN {c : Cl} {k : Nat} {s : Str} (h : Vl.char s ∈ (addN k c).rvals) : Vl.char s ∈ c.rvals := by
  cases c <;> simp [addN, Cl.rvals] at h ⊢ <;> exact h
theorem name_addN {c : Cl} {k : Nat} : (addN k c).name = c.name := by cases c <;> rfl
theorem up_fit (x : Col cs rs mv wt cs') (up : All2 (Up 60) (cs' ++ [.da "new" [.at a0]]) cs'') (ft : ∀ c ∈ cs, c.rvals.length ≤ 800) : Fit cs'' := fun c hc => by
  obtain ⟨j, hj⟩ := List.mem_iff_getElem?.mp hc
  rcases up_at up hj with ⟨c', k, h1, hk, rfl⟩ | ⟨_, k, hk, rfl⟩
  · obtain ⟨c0, e, _, h2, cp⟩ := x.cell h1
    have := ft c0 (List.mem_iff_getElem?.mpr ⟨e, h2⟩)
    have h3 := cp.rvals.len
    have := rvals_addN (c := c') (k := k)
    lia
  · have := rvals_addN (c := .da "new" [.at a0]) (k := k)
    have h4 : (Cl.da "new" [.at a0]).rvals.length = 1 := rfl
    lia
theorem up_ok (x : Col cs rs mv wt cs') (up : All2 (Up 60) (cs' ++ [.da "new" [.at a0]]) cs'') (ok : Okc cs) : Okc cs'' := fun c hc => by
  obtain ⟨j, hj⟩ := List.mem_iff_getElem?.mp hc
  rcases up_at up hj with ⟨c', k, h1, hk, rfl⟩ | ⟨_, k, hk, rfl⟩
  · obtain ⟨c0, e, _, h2, cp⟩ := x.cell h1
    obtain ⟨o1, o2⟩ := ok c0 (List.mem_iff_getElem?.mpr ⟨e, h2⟩)
    refine ⟨fun s hs => o1 s (char_right cp.rvals s (char_addN hs)), fun s hs => ?_⟩
    rw [name_addN] at hs
    rcases cp.alt with ⟨a, b, _, _, hb, _, _, _⟩ | ⟨sn, _, h3, h4, _, _⟩
    · rw [hb] at hs; cases hs
    · rw [h4] at hs; cases hs; exact o2 _ h3
  · refine ⟨fun s hs => ?_, fun s hs => ?_⟩
    · have := char_addN hs
      simp [Cl.rvals] at this
    · rw [name_addN] at hs
      cases hs; decide +kernel

/-- what is reached in the new heap -/
structure Sts (rs : List Nat) (mv : List (Int × PV)) (st : List Nat) : Prop where
  len : st.length = rs.length
  get : ∀ (k a : Nat), rs[k]? = some a → ∃ i : Nat, st[k]? = some i ∧ mv.lookup (a : Int) = some (.int (i : Nat))
theorem rc_lt (x : Col cs rs mv wt cs') (up : All2 (Up 60) (cs' ++ [.da "new" [.at a0]]) cs'') (ha0 : a0 < cs'.length) (s : Sts rs mv st) : ∀ a, Rc cs'' st a → a < wt.length := by
  intro a ha
  induction ha with
  | root h =>
    obtain ⟨k, hk⟩ := List.mem_iff_getElem?.mp h
    have hk' : k < rs.length := by rw [← s.len]; exact (List.getElem?_eq_some_iff.mp hk).1
    obtain ⟨i, h1, h2⟩ := s.get k _ (List.getElem?_eq_getElem hk')
    rw [hk] at h1; cases h1
    obtain ⟨e, h3, _⟩ := x.mvE h2
    exact (List.getElem?_eq_some_iff.mp h3).1
  | step h1 h2 h3 h4 ih => exact up_succ x up ha0 h3 h4
theorem lt_rc (x : Col cs rs mv wt cs') (up : All2 (Up 60) (cs' ++ [.da "new" [.at a0]]) cs'') (s : Sts rs mv st) : ∀ j, j < wt.length → Rc cs'' st j := by
  have key : ∀ a, Rc cs rs a → ∀ i : Nat, mv.lookup (a : Int) = some (.int (i : Nat)) → Rc cs'' st i := by
    intro a ha
    induction ha with
    | root h =>
      intro i hi
      obtain ⟨k, hk⟩ := List.mem_iff_getElem?.mp h
      obtain ⟨i', h1, h2⟩ := s.get k _ hk
      rw [hi] at h2
      have : i = i' := by injection h2 with h2; injection h2 with h2; lia
      subst this
      exact .root (List.mem_iff_getElem?.mpr ⟨k, h1⟩)
    | step h1 h2 h3 h4 ih =>
      intro i hi
      obtain ⟨i0, e0, g1, g2, g3⟩ := x.all _ h1
      rw [h2] at g3; cases g3
      obtain ⟨c, c', k1, k2, cp⟩ := x.cp i0 _ g2
      rw [h3] at k1; cases k1
      obtain ⟨j, hj1, hj2⟩ := cp.succ_l h4
      rw [hi] at hj2
      have : i = j := by injection hj2 with h2; injection h2 with h2; lia
      subst this
      obtain ⟨k, hk, hk2⟩ := up_of up k2
      exact .step (ih i0 g1) (up_lend x up (List.getElem?_eq_some_iff.mp hk2).1) hk2 (addN_mem.mpr hj1)
  intro j hj
  obtain ⟨a, h1, h2⟩ := x.iv.rc j wt[j] (List.getElem?_eq_getElem hj)
  obtain ⟨i, e, g1, g2, g3⟩ := x.all a h1
  rw [h2] at g3; cases g3
  have := x.iv.uniq g2 (List.getElem?_eq_getElem hj)
  subst this
  exact key a h1 i g1
/-- the ends that the second collecting has moved -/
theorem wt2_mem (x : Col cs rs mv wt cs') (up : All2 (Up 60) (cs' ++ [.da "new" [.at a0]]) cs'') (ha0 : a0 < cs'.length) (s : Sts rs mv st) {mv2 : List (Int × PV)} {wt2 : List Nat} {cs2 : List Cl} (y : Col cs'' st mv2 wt2 cs2) : ∀ e, e ∈ wt2 ↔ e < wt.length := by
  intro e
  constructor
  · intro h
    obtain ⟨i, hi⟩ := List.mem_iff_getElem?.mp h
    obtain ⟨a, h1, h2⟩ := y.iv.rc i e hi
    have ha := rc_lt x up ha0 s a h1
    rw [up_lend x up (by rw [up_len x up]; lia)] at h2
    cases h2; exact ha
  · intro h
    obtain ⟨i, e', h1, h2, h3⟩ := y.all e (lt_rc x up s e h)
    rw [up_lend x up (by rw [up_len x up]; lia)] at h3
    cases h3
    exact List.mem_iff_getElem?.mpr ⟨i, h2⟩
end

theorem sorted_same : ∀ {l m : List Int}, l.Nodup → m.Nodup → l.Pairwise (· ≤ ·) → m.Pairwise (· ≤ ·) → (∀ z, z ∈ l ↔ z ∈ m) → l = m
  | [], [], _, _, _, _, _ => rfl
  | [], y :: s, _, _, _, _, h => absurd ((h y).mpr List.mem_cons_self) (by simp)
  | x :: r, [], _, _, _, _, h => absurd ((h x).mp List.mem_cons_self) (by simp)
  | x :: r, y :: s, n1, n2, p1, p2, h => by
    rw [List.nodup_cons] at n1 n2
    rw [List.pairwise_cons] at p1 p2
    have e : x = y := by
      rcases List.mem_cons.mp ((h x).mp List.mem_cons_self) with q | q
      · exact q
      · rcases List.mem_cons.mp ((h y).mpr List.mem_cons_self) with q2 | q2
        · exact q2.symm
        · have := p1.1 y q2
          have := p2.1 x q
          lia
    subst e
    rw [sorted_same n1.2 n2.2 p1.2 p2.2 fun z => ?_]
    constructor
    · intro hz
      rcases List.mem_cons.mp ((h z).mp (List.mem_cons_of_mem _ hz)) with q | q
      · exact absurd (q ▸ hz) n1.1
      · exact q
    · intro hz
      rcases List.mem_cons.mp ((h z).mpr (List.mem_cons_of_mem _ hz)) with q | q
      · exact absurd (q ▸ hz) n2.1
      · exact q
theorem len_same {l m : List Nat} (h1 : l.Nodup) (h2 : m.Nodup) (h : ∀ z, z ∈ l ↔ z ∈ m) : l.length = m.length :=
  Nat.le_antisymm (nodup_sub h1 fun x hx => (h x).mp hx) (nodup_sub h2 fun x hx => (h x).mpr hx)
end Mine

namespace Mine
theorem HeapAt.mnsC {H : AH} {a : Addr} {cs : List Cl} {C : List Addr} (x : HeapAt H a cs) (hC : ∀ c ∈ C, ∃ o, H c = some (.cell o)) : HeapAt (mns H C) a cs := by
  have out : ∀ {z o}, H z = some o → (∀ q, o ≠ .cell q) → mns H C z = some o := fun {z o} e n => by
    rw [mns_at fun hm => ?_]
    · exact e
    · obtain ⟨q, hq⟩ := hC z hm
      rw [e] at hq; exact n _ (Option.some.inj hq)
  obtain ⟨dx, dd, as, hp, a2⟩ := x.ex
  obtain ⟨ep, hd⟩ := hp.d
  refine ⟨dx, dd, as, ⟨out hp.i nofun, out hp.f nofun, ep, out hd nofun⟩, a2.mono fun b c cb => ?_⟩
  obtain ⟨bdx, l, h1, h2, h3⟩ := cb.ex
  exact ⟨bdx, l, out h1 nofun, out h2 nofun, fun h => out (h3 h) nofun⟩

section
variable {Z : Zs} {n : Nat} {nn : Bool} {H : AH} {Q : PV → AH → Prop} {E : AH → Prop}

theorem c_right {rl ra : Addr} {cs : List Cl} {rs : List Nat} (GG : (gl Z).Ok) (rows : RowsAt H rl cs) (hra : H ra = some (.list (nats rs))) (hcl : cs.length ≤ 50) (sm : Small cs) (ft8 : ∀ c ∈ cs, c.rvals.length ≤ 800) (ok : Okc cs)
    (hrs : ∀ x ∈ rs, x < 1000) (hrn : rs.length ≤ 1000) (hne : rs ≠ []) (q : ∀ H', Ext H H' → Q (.bool true) H') : CallL (gl Z) (n + 14) true 392 [.ref rl, .ref ra] H Q E := by
  have ft : Fit cs := fun c hc => Nat.le_trans (ft8 c hc) (by decide)
  have hvz : ∀ (e : Nat) (c : Cl), cs[e]? = some c → c.vals.length ≤ 1000 := fun e c h => by
    have := ft.at h
    cases c <;> first | exact this | exact Nat.zero_le _
  refine CallL.introC GG (by rfl) (by kernel_rfl) ["rows", "roots"] (len2 fun w9 w9 => rfl)
    (fun n x hx => by simp only [List.mem_cons, List.not_mem_nil, or_false] at hx; rcases hx with rfl | rfl <;> first | exact .inl rfl | exact .inr ⟨rfl, rfl⟩) (by decide)
    (fun n => by show (["found", "moved", "fresh", "rows"] : List Str).Nodup; decide) (fun n x hx => by
      have hx : x ∈ [(("found" : Str), n + 3), ("moved", n + 2), ("fresh", n + 1), ("rows", n)] := hx
      simp only [List.mem_cons, List.not_mem_nil, or_false] at hx
      rcases hx with rfl | rfl | rfl | rfl <;> rfl) rfl rfl rfl rfl fun V O hcn => ?_
  have hc1 : H (V.L + 1) = none := hcn ("rows", V.L + 1) (by show _ ∈ [(("found" : Str), V.L + 4), ("moved", V.L + 3), ("fresh", V.L + 2), ("rows", V.L + 1)]; simp)
  have hc2 : H (V.L + 2) = none := hcn ("fresh", V.L + 2) (by show _ ∈ [(("found" : Str), V.L + 4), ("moved", V.L + 3), ("fresh", V.L + 2), ("rows", V.L + 1)]; simp)
  have hc3 : H (V.L + 3) = none := hcn ("moved", V.L + 3) (by show _ ∈ [(("found" : Str), V.L + 4), ("moved", V.L + 3), ("fresh", V.L + 2), ("rows", V.L + 1)]; simp)
  have hc4 : H (V.L + 4) = none := hcn ("found", V.L + 4) (by show _ ∈ [(("found" : Str), V.L + 4), ("moved", V.L + 3), ("fresh", V.L + 2), ("rows", V.L + 1)]; simp)
  change EX _ _ _ (upd (upd (upd (upd H (V.L + 1) (.cell (some (.ref rl)))) (V.L + 2) (.cell none)) (V.L + 3) (.cell none)) (V.L + 4) (.cell none)) _ _
  have ne : ∀ (i j : Nat), i ≠ j → (V.L + i : Nat) ≠ V.L + j := fun i j h z => h (Nat.add_left_cancel z)
  have X1 : Ext H (upd (upd (upd (upd H (V.L + 1) (.cell (some (.ref rl)))) (V.L + 2) (.cell none)) (V.L + 3) (.cell none)) (V.L + 4) (.cell none)) := ((((Ext.refl H).upd hc1).upd hc2).upd hc3).upd hc4
  have d1 : (upd (upd (upd (upd H (V.L + 1) (.cell (some (.ref rl)))) (V.L + 2) (.cell none)) (V.L + 3) (.cell none)) (V.L + 4) (.cell none)) (V.L + 1) = some (.cell (some (.ref rl))) :=
    (upd_ne (ne 1 4 (by decide))).trans ((upd_ne (ne 1 3 (by decide))).trans ((upd_ne (ne 1 2 (by decide))).trans upd_self))
  have d2 : (upd (upd (upd (upd H (V.L + 1) (.cell (some (.ref rl)))) (V.L + 2) (.cell none)) (V.L + 3) (.cell none)) (V.L + 4) (.cell none)) (V.L + 2) = some (.cell none) :=
    (upd_ne (ne 2 4 (by decide))).trans ((upd_ne (ne 2 3 (by decide))).trans upd_self)
  have d3 : (upd (upd (upd (upd H (V.L + 1) (.cell (some (.ref rl)))) (V.L + 2) (.cell none)) (V.L + 3) (.cell none)) (V.L + 4) (.cell none)) (V.L + 3) = some (.cell none) :=
    (upd_ne (ne 3 4 (by decide))).trans upd_self
  have d4 : (upd (upd (upd (upd H (V.L + 1) (.cell (some (.ref rl)))) (V.L + 2) (.cell none)) (V.L + 3) (.cell none)) (V.L + 4) (.cell none)) (V.L + 4) = some (.cell none) := upd_self
  generalize upd (upd (upd (upd H (V.L + 1) (.cell (some (.ref rl)))) (V.L + 2) (.cell none)) (V.L + 3) (.cell none)) (V.L + 4) (.cell none) = H1 at X1 d1 d2 d3 d4 ⊢
  -- heap = _law_laid(rows)
  refine EX.next (E1.assign (EV.call O GG (EV.global_ O GG rfl kn_law_laid ⟨382, rfl, kk_382, EV.cell_ O (.inl rfl) rfl d1 ?_⟩)))
  refine c_law_laid (n := n + 9) GG (rows.ext X1) ft (by lia) fun hp H2 x2 old => AT.local O rfl ⟨rfl, ?_⟩
  have X2 := X1.trans x2
  have d1 := x2 _ _ d1
  have d2 := x2 _ _ d2
  have d3 := x2 _ _ d3
  have d4 := x2 _ _ d4
  clear x2 X1
  have hra2 := X2 _ _ hra
  generalize hm0 : ((("heap", .ref hp) : Str × PV) :: _) = m0
  have k1 : Lk m0 "roots" (.ref ra) := by rw [← hm0]; rfl
  have k2 : Lk m0 "heap" (.ref hp) := by rw [← hm0]; rfl
  clear hm0
  -- try
  refine EX.mid2 (fun m' H' => Ex6 fun fr md mv wt cs' ep => C8 (m' = m0) (H' (V.L + 2) = some (.cell (some (.ref fr)))) (H' (V.L + 3) = some (.cell (some (.ref md)))) (H' (V.L + 4) = some (.cell none)) (Ext (mns H2 [V.L + 2, V.L + 3, V.L + 4]) H') (HeapAt (mns (less H2 H') [md]) fr cs') (less H2 H' md = some (.dict mv ep)) (Col cs rs mv wt cs'))
    (E1.try_ (Eb := fun m' H' => m' = m0 ∧ Ext H2 H' ∧ ∃ a, Rc cs rs a ∧ lend cs a = none) O GG errOk rfl kn_err (EX.next (E1.assign (EV.call O GG (EV.global_ O GG rfl kn_collected ⟨316, rfl, kk_316, EV.local_ O rfl k2 (EV.local_ O rfl k1 ?_)⟩)))) ?_) ?_
  · refine c_collected (n := n) GG old sm hvz hra2 hrs (fun fr md mv wt cs' ep H3 x3 frs hmd col => ?_) fun hn H3 x3 => ⟨rfl, x3, hn⟩
    refine AT.tuple rfl (AT.cell O rfl rfl (x3 _ _ d2) (AT.cell O rfl rfl ((upd_ne (ne 3 2 (by decide))).trans (x3 _ _ d3)) ⟨rfl, EX.nil (.inl ⟨rfl, fr, md, mv, wt, cs', ep, rfl, ?_, upd_self, ?_, ?_, ?_, ?_, col⟩)⟩))
    · exact (upd_ne (ne 2 3 (by decide))).trans upd_self
    · exact (upd_ne (ne 4 3 (by decide))).trans ((upd_ne (ne 4 2 (by decide))).trans (x3 _ _ d4))
    · intro a o e
      obtain ⟨e1, e2⟩ := mns_some e
      simp only [List.mem_cons, List.not_mem_nil, or_false, not_or] at e1
      rw [upd_ne e1.2.1, upd_ne e1.1]; exact x3 _ _ e2
    · refine frs.ext (Ext.mns fun a o e => ?_)
      obtain ⟨e1, e2⟩ := less_some e
      rw [less_at e1, upd_ne (fun z => by rw [z, d3] at e1; cases e1), upd_ne (fun z => by rw [z, d2] at e1; cases e1)]; exact e2
    · obtain ⟨e1, e2⟩ := less_some hmd
      rw [less_at e1, upd_ne (fun z => by rw [z, d3] at e1; cases e1), upd_ne (fun z => by rw [z, d2] at e1; cases e1)]; exact e2
  · rintro m' H' ⟨rfl, x3, a, hra', hla⟩ ex oe hex Oh
    have x4 := x3.trans (Ext.new (o := .raw oe) hex)
    generalize upd H' ex (.raw oe) = H4 at x4 ⊢
    refine EX.ret (EV.not_ (EV.call Oh GG (EV.global_ Oh GG rfl kn_law_is_whole ⟨375, rfl, kk_375, EV.cell_ Oh (.inl rfl) rfl (x4 _ _ d1) (EV.local_ Oh rfl k1 ?_)⟩)))
    refine c_is_whole (n := n + 11) GG (rows.ext (X2.trans x4)) sm ft (x4 _ _ hra2) hrs hrn fun b H5 x5 hb1 hb2 => ?_
    cases b with
    | true =>
      obtain ⟨e, he⟩ := hb1 rfl a hra'
      rw [hla] at he; cases he
    | false => exact .inr ⟨nofun, q H5 ((X2.trans x4).trans x5)⟩
  rintro m' H3 ⟨fr, md, mv, wt, cs', ep, em3, c2, c3, c4, XQ, frs, hmd, col⟩
  rw [em3]
  clear em3 m'
  -- what stays apart
  have oldQ : HeapAt (mns H2 [V.L + 2, V.L + 3, V.L + 4]) hp cs := old.mnsC fun c hc => by
    simp only [List.mem_cons, List.not_mem_nil, or_false] at hc
    rcases hc with rfl | rfl | rfl
    · exact ⟨_, d2⟩
    · exact ⟨_, d3⟩
    · exact ⟨_, d4⟩
  have XHQ : Ext H (mns H2 [V.L + 2, V.L + 3, V.L + 4]) := X2.mnsR fun s hs => by
    simp only [List.mem_cons, List.not_mem_nil, or_false] at hs
    rcases hs with rfl | rfl | rfl
    · exact hc2
    · exact hc3
    · exact hc4
  have d1Q : mns H2 [V.L + 2, V.L + 3, V.L + 4] (V.L + 1) = some (.cell (some (.ref rl))) := by
    rw [mns_at]
    · exact d1
    · simp only [List.mem_cons, List.not_mem_nil, or_false, not_or]
      exact ⟨ne 1 2 (by decide), ne 1 3 (by decide), ne 1 4 (by decide)⟩
  have rowsQ := rows.ext XHQ
  have hraQ := XHQ _ _ hra
  have ZX : Ext (mns (less H2 H3) [md]) H3 := fun a o e => less_sub _ _ (mns_sub _ _ e)
  have ZQ : ∀ a o, mns (less H2 H3) [md] a = some o → H2 a = none := fun a o e => (less_some (mns_sub _ _ e)).1
  have Zmd : mns (less H2 H3) [md] md = none := by unfold mns; rw [if_pos (by simp)]
  have Z1 : ∀ {a o}, H2 a = some o → mns (less H2 H3) [md] a = none := fun {a o} e => by
    cases z : mns (less H2 H3) [md] a with
    | none => rfl
    | some o' => rw [ZQ _ _ z] at e; cases e
  have hmd3 := less_sub _ _ hmd
  have hwl := col.iv.wlen
  have hn3 : ∀ {a o}, mns (less H2 H3) [md] a = some o → ∃ o, H3 a = some o := fun {a o} e => ⟨o, ZX _ _ e⟩
  have hrb : ∃ rb, rb = mns (less H2 H3) [md] := ⟨_, rfl⟩
  obtain ⟨Z, hZ⟩ := hrb
  rw [← hZ] at frs ZX ZQ Zmd
  simp only [← hZ] at Z1
  clear hZ hn3 hmd
  -- if not _law_is_whole(rows, roots)
  refine EX.mid (J := fun m' H' => m' = m0 ∧ Ext H3 H') (E1.ite (ET.not_ (ET.plain (EV.call O GG (EV.global_ O GG rfl kn_law_is_whole ⟨375, rfl, kk_375, EV.cell_ O (.inl rfl) rfl (XQ _ _ d1Q) (EV.local_ O rfl k1 ?_)⟩))))) ?_
  · refine c_is_whole (n := n + 11) GG (rowsQ.ext XQ) sm ft (XQ _ _ hraQ) hrs hrn fun b H4 x4 hb1 hb2 => ?_
    cases b with
    | true => exact ⟨nofun, fun w9 => EX.nil ⟨rfl, rfl, x4⟩⟩
    | false =>
      obtain ⟨a, h1, h2⟩ := hb2 rfl
      obtain ⟨i, e, _, _, h3⟩ := col.all a h1
      rw [h2] at h3; cases h3
  rintro m' H4 ⟨em, x4⟩
  rw [em]
  clear em m'
  have XQ := XQ.trans x4
  have ZX := ZX.trans x4
  have c2 := x4 _ _ c2
  have c3 := x4 _ _ c3
  have c4 := x4 _ _ c4
  have hmd4 := x4 _ _ hmd3
  clear x4 hmd3
  -- found = _law_pairs(rows, roots, fresh, moved)
  refine EX.next (E1.assign (EV.call O GG (EV.global_ O GG rfl kn_law_pairs ⟨370, rfl, kk_370, EV.cell_ O (.inl rfl) rfl (XQ _ _ d1Q) (EV.local_ O rfl k1 (EV.cell_ O (.inl rfl) rfl c2 (EV.cell_ O (.inl rfl) rfl c3 ?_)))⟩)))
  refine c_pairs (n := n + 9) GG (rowsQ.ext XQ) sm ft ok (XQ _ _ hraQ) hrs hrn (frs.ext ZX) hmd4 col fun fd fl ep2 H5 x5 hfd4 hfd nd hfl hall => AT.cell O rfl rfl (x5 _ _ c4) ⟨rfl, ?_⟩
  have Zfd : Z fd = none := none_of_x ZX hfd4
  have XQ : Ext (mns H2 [V.L + 2, V.L + 3, V.L + 4]) (upd H5 (V.L + 4) (.cell (some (.ref fd)))) := (XQ.trans x5).upd (by unfold mns; rw [if_pos (by simp)])
  have ZX : Ext Z (upd H5 (V.L + 4) (.cell (some (.ref fd)))) := (ZX.trans x5).upd (Z1 d4)
  have c2' : upd H5 (V.L + 4) (.cell (some (.ref fd))) (V.L + 2) = some (.cell (some (.ref fr))) := (upd_ne (ne 2 4 (by decide))).trans (x5 _ _ c2)
  have c3' : upd H5 (V.L + 4) (.cell (some (.ref fd))) (V.L + 3) = some (.cell (some (.ref md))) := (upd_ne (ne 3 4 (by decide))).trans (x5 _ _ c3)
  have c4' : upd H5 (V.L + 4) (.cell (some (.ref fd))) (V.L + 4) = some (.cell (some (.ref fd))) := upd_self
  have hmd' : upd H5 (V.L + 4) (.cell (some (.ref fd))) md = some (.dict mv ep) := (upd_ne fun z => by have := x5 _ _ hmd4; rw [z, x5 _ _ c4] at this; cases this).trans (x5 _ _ hmd4)
  have hfd' : upd H5 (V.L + 4) (.cell (some (.ref fd))) fd = some (.dict (fdP fl) ep2) := (upd_ne fun z => by rw [z, x5 _ _ c4] at hfd; cases hfd).trans hfd
  clear c2 c3 c4 hmd4 hfd4 hfd x5
  generalize upd H5 (V.L + 4) (.cell (some (.ref fd))) = H6 at XQ ZX c2' c3' c4' hmd' hfd' ⊢
  have fll : fl.length = wt.length := by
    have h1 : (fl.map (·.1)).length = wt.length := len_same nd col.iv.nodup fun z => by
      constructor
      · intro h
        obtain ⟨x, hx, rfl⟩ := List.mem_map.mp h
        exact List.mem_iff_getElem?.mpr ⟨_, hfl x hx⟩
      · intro h
        obtain ⟨j, hj⟩ := List.mem_iff_getElem?.mp h
        exact List.mem_map.mpr ⟨_, hall j z hj, rfl⟩
    simpa using h1
  have flk : ∀ {e j : Nat}, wt[j]? = some e → fl.lookup e = some j := fun {e j} h => by
    cases q : fl.lookup e with
    | none => exact absurd (List.mem_map.mpr ⟨_, hall j e h, rfl⟩) (lookup_none' q)
    | some j' =>
      have := hfl _ (lookup_mem' q)
      exact congrArg some (col.iv.uniq this h)
  -- if found is None or fresh.many() != len(found)
  obtain ⟨dx, dd, as, hp1, hp2⟩ := (frs.ext ZX).ex
  have hal := hp2.len
  refine EX.ite (ET.or_ (ET.cmp (EV.cell_ O (.inl rfl) rfl c4' (EV.none_ ⟨fun w9 => ?_, nofun⟩))))
  refine ET.or_ (ET.cmp (EV.meth O GG (EV.cell_ O (.inl rfl) rfl c2' ⟨fr, 232, dx, _, 229, rfl, hp1.i, hp1.f, kmt_232_many, rfl, ?_⟩)))
  refine c_many (n := n + 12) GG hp1 (by rw [enF_len, List.length_map, hal, col.len, sizeLine_eq]; lia) ?_
  refine EV.bcall O GG rfl kb_len rfl (.inr ⟨_, rfl⟩) (EV.cell_ O (.inl rfl) rfl c4' (BCall.len_dict hfd' (fun w9 => by rw [fdP_len, sizeLine_eq]; lia) ?_))
  show ((_ != _) = false → _) ∧ ((_ != _) = true → _)
  rw [enF_len, List.length_map, hal, col.len, fdP_len, fll, bne_self_eq_false]
  refine ⟨fun w9 => ET.or_nil ⟨nofun, fun w9 => Then.go ?_⟩, nofun⟩
  clear hp1 hp2 hal dx dd as
  -- the loop over found
  refine EX.mid (J := fun m' H' => Lk m' "roots" (.ref ra) ∧ Lk m' "heap" (.ref hp) ∧ Ext H6 H')
    (E1.for_ O (EV.cell_ O (.inl rfl) rfl c4' ⟨_, some (fd, _), IterOf.dict rfl hfd', fun k m' H' => Lk m' "roots" (.ref ra) ∧ Lk m' "heap" (.ref hp) ∧ Ext H6 H', ⟨k1, k2, Ext.refl _⟩, (fun k m' H' ⟨_, _, x⟩ => x _ _ hfd'), ?_, fun m' H' ⟨a, b, x⟩ => ⟨rfl, a, b, x⟩⟩)) ?_
  · rintro it o k p m' H7 R u O2 hpk ⟨k1, k2, x7⟩
    obtain ⟨x, hx, rfl⟩ := fdPk_at hpk
    obtain ⟨e, j⟩ := x
    have hje : wt[j]? = some e := hfl (e, j) (List.mem_iff_getElem?.mpr ⟨k, hx⟩)
    obtain ⟨c, c', hc, hc', cp⟩ := col.cp j e hje
    have hec := (List.getElem?_eq_some_iff.mp hc).1
    have XQ7 := XQ.trans x7
    obtain ⟨ps, hrl, h2⟩ := (rowsQ.ext XQ7).ex
    obtain ⟨p, hp', ⟨rl', rfl, hrl'⟩⟩ := h2.right hc
    have hcz := ft.at hc
    have d17 := XQ7 _ _ d1Q
    have c47 := x7 _ _ c4'
    have c37 := x7 _ _ c3'
    have okc := ok c (List.mem_iff_getElem?.mpr ⟨e, hc⟩)
    refine AT.local O2 rfl ?_
    refine EX.mid (J := fun m' H' => C5 (Lk m' "roots" (.ref ra)) (Lk m' "heap" (.ref hp)) (Lk m' "old" (.int (e : Nat))) (Ext H7 H') (∃ dl, Lk m' "due" (.ref dl) ∧ H' dl = some (.list (c'.rvals.map Vl.pv))))
      (E1.assignComp [("rows", V.L + 1), ("found", V.L + 4)] O2 rfl (EV.sub (EV.sub (EV.cell_ O2 (.inl rfl) rfl d17 (EV.local_ O2 rfl rfl (.inl ⟨ps, e, _, hrl, rfl, by lia, hp', EV.int_ ⟨2, _, rfl, by decide, rfl, ?_⟩⟩)))))) ?_
    · refine ⟨c.rvals.map Vl.pv, some (rl', _), IterOf.list hrl', by rw [List.length_map, sizeLine_eq]; lia, fun D hD => ⟨fun k acc H8 => C4 (Ext H7 H8) (H7 D = none) (H8 D = some (.list acc)) (acc = (c'.rvals.take k).map Vl.pv), ⟨Ext.new hD, hD, upd_self, rfl⟩, (fun k acc H8 ⟨x8, _, h8, _⟩ => ⟨x8 _ _ hrl', h8⟩), ?_, ?_⟩⟩
      · rintro C it o k p acc H8 O8 hp8 ⟨x8, hD, h8, rfl⟩
        apply pvs_at hp8; intro v hvk
        obtain ⟨v', hv', cpv⟩ := cp.rvals.left hvk
        have fin : ∀ H9, Ext H8 H9 → (H9 D = some (.list ((c'.rvals.take k).map Vl.pv))) ∧ C4 (Ext H7 (upd H9 D (.list ((c'.rvals.take k).map Vl.pv ++ [v'.pv])))) (H7 D = none) (upd H9 D (.list ((c'.rvals.take k).map Vl.pv ++ [v'.pv])) D = some (.list ((c'.rvals.take k).map Vl.pv ++ [v'.pv]))) ((c'.rvals.take k).map Vl.pv ++ [v'.pv] = (c'.rvals.take (k + 1)).map Vl.pv) := fun H9 x9 =>
          ⟨x9 _ _ h8, (x8.trans x9).upd hD, hD, upd_self, by rw [take_snoc hv', List.map_append]; rfl⟩
        refine AT.local O8 rfl ⟨fun w9 => ?_, nofun⟩
        cases cpv with
        | int i => exact EV.ifexp (ET.cmp (EV.sub (EV.local_ O8 rfl rfl (EV.int_ ⟨0, _, rfl, by decide, rfl, EV.str_ ⟨nofun, fun w9 => EV.local_ O8 rfl rfl (fin H8 (Ext.refl _))⟩⟩))))
        | char i => exact EV.ifexp (ET.cmp (EV.sub (EV.local_ O8 rfl rfl (EV.int_ ⟨0, _, rfl, by decide, rfl, EV.str_ ⟨nofun, fun w9 => EV.local_ O8 rfl rfl (fin H8 (Ext.refl _))⟩⟩))))
        | @«at» b i hmv =>
          obtain ⟨e', h5, h6⟩ := col.mvE hmv
          have hb : b < 1000 := sm.su e c b hc (mem_succs.mpr (List.mem_append_left _ (mem_ats.mpr (List.mem_iff_getElem?.mpr ⟨k, hvk⟩))))
          refine EV.ifexp (ET.cmp (EV.sub (EV.local_ O8 rfl rfl (EV.int_ ⟨0, _, rfl, by decide, rfl, EV.str_ ⟨fun w9 => ?_, nofun⟩⟩))))
          refine EV.tuple_ (EV.str_ (EV.sub (EV.cell_ O8 (.inl rfl) rfl (x8 _ _ c47) ?_)))
          refine EV.call O8 GG (EV.global_ O8 GG rfl kn_law_end ⟨365, rfl, kk_365, EV.cell_ O8 (.inl rfl) rfl (x8 _ _ d17) (EV.sub (EV.local_ O8 rfl rfl (EV.int_ ⟨1, _, rfl, by decide, rfl, ?_⟩)))⟩)
          refine c_law_end (n := n + 12) GG (rowsQ.ext (XQ7.trans x8)) sm (by lia) fun H9 x9 => ?_
          rw [h6]
          exact .inr ⟨_, ep2, .int (i : Nat), x9 _ _ (x8 _ _ (x7 _ _ hfd')), by rw [fdP_lookup, flk h5]; rfl, fin H9 x9⟩
      · rintro acc H8 ⟨x8, hD, h8, rfl⟩
        rw [List.length_map, cp.rvals.len, List.take_length] at h8
        exact ⟨rfl, (k1.skip (by decide)).skip (by decide), (k2.skip (by decide)).skip (by decide), rfl, x8, D, rfl, h8⟩
    rintro m8 H8 ⟨q1, q2, q3, x8, dl, q4, hdl⟩
    have x78 := x7.trans x8
    refine EX.ite (ET.cmpD O2 (.inr rfl) (EV.call O2 GG (EV.global_ O2 GG rfl kn_values_moved ⟨248, rfl, kk_248, EV.sub (EV.sub (EV.cell_ O2 (.inl rfl) rfl (x8 _ _ d17) (EV.local_ O2 rfl q3 (.inl ⟨ps, e, _, x8 _ _ hrl, rfl, by lia, hp', EV.int_ ⟨2, _, rfl, by decide, rfl, ?_⟩⟩))))⟩)))
    refine EV.cell_ O2 (.inl rfl) rfl (x8 _ _ c37) ?_
    refine c_values_moved (n := n + 11) GG (x8 _ _ hrl') hcz (x78 _ _ hmd') cp.rvals fun l H9 x9 hl => ?_
    refine EV.local_ O2 rfl q4 ?_
    have okr : ∀ s, Vl.char s ∈ c'.rvals → PyData.strOk s = true := fun s hs => okc.1 s (char_right cp.rvals s hs)
    have rdl : ∀ {b}, H9 b = some (.list (c'.rvals.map Vl.pv)) → rd H9 60 (.ref b) = some (.list (c'.rvals.map dv)) := fun {b} hb => by
      show (match H9 b with | some (.list ps) => (rdL (rd H9 59) ps).map PyData.list | _ => none) = _
      rw [hb]
      dsimp only
      rw [rdL_map fun v hv => rd_vl fun s hs => okr s (hs ▸ hv)]; rfl
    refine ⟨_, _, rdl hl, rdl (x9 _ _ hdl), ?_⟩
    have e3 : (if CmpOp.NotEq = CmpOp.Eq then PyData.eqv (.list (c'.rvals.map dv)) (.list (c'.rvals.map dv)) else !PyData.eqv (.list (c'.rvals.map dv)) (.list (c'.rvals.map dv))) = false := by
      rw [if_neg (by decide)]
      show (!PyData.eqvAll _ _) = false
      have : ∀ vs : List Vl, PyData.eqvAll (vs.map dv) (vs.map dv) = true := by
        intro vs
        induction vs with
        | nil => rfl
        | cons v r ih => simp only [List.map_cons, PyData.eqvAll, dv_eq, ih, Bool.and_self]
      rw [this]; rfl
    rw [e3]
    exact ⟨nofun, fun w9 => Then.go (EX.nil (u.nx ⟨q1, q2, (x78.trans x9)⟩))⟩
  rintro m7 H7 ⟨k1, k2, x7⟩
  have XQ := XQ.trans x7
  have ZX := ZX.trans x7
  have c2 := x7 _ _ c2'
  have c3 := x7 _ _ c3'
  have c4 := x7 _ _ c4'
  have hmd := x7 _ _ hmd'
  have hfd := x7 _ _ hfd'
  -- gone on
  have WX : Ext (less Z H7) H7 := less_sub
  have QW : Ext (mns H2 [V.L + 2, V.L + 3, V.L + 4]) (less Z H7) := fun a o e => by rw [less_at (Z1 (mns_sub _ _ e))]; exact XQ _ _ e
  have wof : ∀ {a o}, H7 a = some o → Z a = none → less Z H7 a = some o := fun e z => by rw [less_at z]; exact e
  have c2W := wof c2 (Z1 d2)
  have c3W := wof c3 (Z1 d3)
  have c4W := wof c4 (Z1 d4)
  have hmdW := wof hmd Zmd
  have hfdW := wof hfd Zfd
  have fW : HeapAt (less (less Z H7) H7) fr cs' := frs.ext fun a o e => by
    have hz : less Z H7 a = none := by unfold less; rw [e]
    rw [less_at hz]; exact ZX _ _ e
  generalize less Z H7 = W at WX QW c2W c3W c4W hmdW hfdW fW
  have hfln : fl ≠ [] := by
    intro z
    obtain ⟨r0, hr0⟩ : ∃ r0, r0 ∈ rs := by cases rs with | nil => exact absurd rfl hne | cons a r => exact ⟨a, List.mem_cons_self⟩
    obtain ⟨i, e, _, h1, _⟩ := col.rts r0 hr0
    have := hall i e h1
    rw [z] at this; cases this
  have hz8 : ∀ c ∈ cs', c.vals.length ≤ 800 := fun c' hc' => by
    obtain ⟨j, hj⟩ := List.mem_iff_getElem?.mp hc'
    obtain ⟨c, e, _, h2, cp⟩ := col.cell hj
    have h3 := ft8 c (List.mem_iff_getElem?.mpr ⟨e, h2⟩)
    have h4 := cp.rvals.len
    cases c' <;> first | exact Nat.zero_le _ | (show _ ≤ 800; rw [h4] at h3; exact h3)
  refine EX.mid (J := fun m' H' => m' = m7 ∧ Ext W H' ∧ ∃ cs'' a0, HeapAt H' fr cs'' ∧ a0 < cs'.length ∧ All2 (Up 60) (cs' ++ [.da "new" [.at a0]]) cs'') (E1.ite (ET.not_ (ET.plain (EV.call O GG (EV.global_ O GG rfl kn_law_gone_on_right ⟨387, rfl, kk_387, EV.cell_ O (.inl rfl) rfl (WX _ _ (QW _ _ d1Q)) (EV.local_ O rfl k2 (EV.cell_ O (.inl rfl) rfl c2 (EV.cell_ O (.inl rfl) rfl c4 ?_)))⟩))))) ?_
  · refine c_gone (n := n + 9) GG WX (rowsQ.ext QW) (oldQ.ext QW) fW hfdW (fun x hx => ?_) hfln (by lia) (by lia) ft ok (by rw [col.len]; lia) hz8 fun H8 cs'' a0 x8 f8 ha0 up => ⟨nofun, fun w9 => EX.nil ⟨rfl, rfl, x8, cs'', a0, f8, ha0, up⟩⟩
    rw [col.len]; exact (List.getElem?_eq_some_iff.mp (hfl x hx)).1
  rintro m' H8 ⟨em, W8, cs'', a0, f8, ha0, up⟩
  rw [em]
  clear em m'
  have hcl'' := up_len col up
  have hwl50 : wt.length ≤ 50 := by lia
  have sm'' := up_small col up ha0 (by lia)
  have ft'' := up_fit col up ft8
  have ok'' := up_ok col up ok
  have hra8 := W8 _ _ (QW _ _ hraQ)
  have c28 := W8 _ _ c2W
  have c38 := W8 _ _ c3W
  have c48 := W8 _ _ c4W
  have hmd8 := W8 _ _ hmdW
  have hfd8 := W8 _ _ hfdW
  have XH8 : Ext H H8 := XHQ.trans (QW.trans W8)
  have hvz'' : ∀ (e : Nat) (c : Cl), cs''[e]? = some c → c.vals.length ≤ 1000 := fun e c h => by
    have := ft''.at h
    cases c <;> first | exact this | exact Nat.zero_le _
  -- second, starts
  obtain ⟨dx, dd, as, hp1, hp2⟩ := id f8.ex
  have hal := hp2.len
  refine EX.next (E1.assignTup2 O rfl rfl (EV.tuple_ (EV.comp [("fresh", V.L + 2)] O (EV.bcall O GG rfl kb_range rfl (.inl ⟨_, rfl⟩) ?_))))
  refine EV.meth O GG (EV.cell_ O (.inl rfl) rfl c28 ⟨fr, 232, dx, _, 229, rfl, hp1.i, hp1.f, kmt_232_many, rfl, ?_⟩)
  refine c_many (n := n + 12) GG hp1 (by rw [enF_len, List.length_map, hal, sizeLine_eq]; lia) ?_
  rw [enF_len, List.length_map, hal]
  refine BCall.range fun rr ob hrr hob => ?_
  have x9 := Ext.new (o := .raw ob) hrr
  have g9 : upd H8 rr (.raw ob) rr = some (.raw ob) := upd_self
  generalize upd H8 rr (.raw ob) = H9 at x9 g9 ⊢
  have hut : (upTo (cs''.length : Nat)).length = cs''.length := by unfold upTo; rw [List.length_map, List.length_range, Int.toNat_natCast]
  refine ⟨upTo (cs''.length : Nat), none, IterOf.range O rfl g9 hob (by lia) (by lia), by rw [hut, sizeLine_eq]; lia, fun D hD => ⟨fun k acc H7 => C4 (Ext H9 H7) (H9 D = none) (H7 D = some (.list acc)) (All2 (RowAt (mns H7 [D])) acc (cs''.take k)), ⟨Ext.new hD, hD, upd_self, by simpa using All2.nil⟩, (fun k acc H7 ⟨_, _, h7, _⟩ => ⟨trivial, h7⟩), ?_, ?_⟩⟩
  · rintro C it o k p acc HA OA hpA ⟨xA, hD, hA, a2⟩
    obtain ⟨hkl, rfl⟩ : k < cs''.length ∧ p = .int (k : Nat) := by
      unfold upTo at hpA
      rw [List.getElem?_map, Int.toNat_natCast] at hpA
      cases z : (List.range cs''.length)[k]? with
      | none => rw [z] at hpA; cases hpA
      | some j =>
        rw [z] at hpA
        obtain ⟨h1, h2⟩ := List.getElem?_eq_some_iff.mp z
        simp at h1 h2
        subst h2
        exact ⟨h1, by simpa using hpA.symm⟩
    obtain ⟨c, hc⟩ : ∃ c, cs''[k]? = some c := ⟨_, List.getElem?_eq_getElem hkl⟩
    have fA := (f8.ext x9).ext xA
    obtain ⟨dx, dd, as, hp1, hp2⟩ := id fA.ex
    refine AT.local OA rfl ⟨fun w9 => ?_, nofun⟩
    refine EV.call OA GG (EV.global_ OA GG rfl kn_law_row ⟨358, rfl, kk_358, EV.meth OA GG (EV.cell_ OA (.inl rfl) rfl (xA _ _ (x9 _ _ c28)) ⟨fr, 232, dx, _, 215, rfl, hp1.i, hp1.f, kmt_232_get, rfl, EV.local_ OA rfl rfl ?_⟩)⟩)
    refine HeapAt.get (n := n + 10) GG fA (by lia) (fun b c2 hc2 cb => ?_) fun hn => by rw [hc] at hn; cases hn
    rw [hc] at hc2; cases hc2
    refine c_law_row (n := n + 12) GG cb (hvz'' _ _ hc) fun l hl => ⟨Ext.new hl _ _ hA, (xA.trans (Ext.new hl)).upd hD, hD, upd_self, ?_⟩
    have nlD : l ≠ D := ne_of_none hl hA
    rw [mns_in (by simp), take_snoc hc]
    have nm : l ∉ [D] := by simpa using nlD
    refine (a2.mono fun _ _ z => z.ext ?_).snoc ⟨l, rfl, by rw [mns_at nm]; exact upd_self⟩
    exact (Ext.new hl).mns
  rintro acc HA ⟨xA, hD, hA, a2⟩
  rw [hut, List.take_length] at a2
  have xA := x9.trans xA
  have secA : RowsAt HA D cs'' := ⟨acc, hA, a2.mono fun _ _ z => z.ext mns_sub⟩
  -- starts
  refine EV.comp [("moved", V.L + 3)] O (EV.local_ O rfl k1 ?_)
  refine ⟨nats rs, some (ra, _), IterOf.list (xA _ _ hra8), by rw [nats_len, sizeLine_eq]; lia, fun D2 hD2 => ⟨fun k acc HB => C4 (Ext HA HB) (HA D2 = none) (HB D2 = some (.list acc)) (∃ st, acc = nats st ∧ st.length = k ∧ ∀ (i a : Nat), i < k → rs[i]? = some a → ∃ b : Nat, st[i]? = some b ∧ mv.lookup (a : Int) = some (.int (b : Nat))),
    ⟨Ext.new hD2, hD2, upd_self, [], rfl, rfl, fun i a h _ => absurd h (Nat.not_lt_zero _)⟩, (fun k acc HB ⟨xB, _, hB, _⟩ => ⟨xB _ _ (xA _ _ hra8), hB⟩), ?_, ?_⟩⟩
  · rintro C it o k p acc HB OB hpB ⟨xB, hD2, hB, st, rfl, hk, hst⟩
    apply nats_at hpB; intro a ha
    obtain ⟨i, e, h5, h6, h7⟩ := col.rts a (List.mem_iff_getElem?.mpr ⟨k, ha⟩)
    refine AT.local OB rfl ⟨fun w9 => EV.sub (EV.cell_ OB (.inl rfl) rfl (xB _ _ (xA _ _ c38)) (EV.local_ OB rfl rfl (.inr ⟨mv, ep, _, xB _ _ (xA _ _ hmd8), h5, hB, xB.upd hD2, hD2, upd_self, st ++ [i], nats_snoc, by rw [List.length_append, hk]; rfl, ?_⟩))), nofun⟩
    intro i' a' hi' ha'
    by_cases z : i' = k
    · subst z; rw [ha] at ha'; cases ha'
      exact ⟨i, by rw [List.getElem?_append_right (by lia), hk, Nat.sub_self]; rfl, h5⟩
    · obtain ⟨b, h8, h9⟩ := hst i' a' (by lia) ha'
      exact ⟨b, by rw [List.getElem?_append_left (by lia)]; exact h8, h9⟩
  rintro acc HB ⟨xB, hD2, hB, st, rfl, hk, hst⟩
  rw [nats_len] at hk hst
  have sts : Sts rs mv st := ⟨hk, fun k a h => hst k a (List.getElem?_eq_some_iff.mp h).1 h⟩
  have stlt : ∀ x ∈ st, x < 1000 := fun x hx => by
    have := rc_lt col up ha0 sts x (.root hx)
    lia
  have xAB := xA.trans xB
  refine ⟨_, _, rfl, rfl, ?_⟩
  have secB := secA.ext xB
  generalize hm9 : ((("second", .ref D) : Str × PV) :: _) = m9
  have q1 : Lk m9 "second" (.ref D) := by rw [← hm9]; rfl
  have q2 : Lk m9 "starts" (.ref D2) := by rw [← hm9]; rfl
  clear hm9
  -- again, later = collected(fresh, starts)
  refine EX.next (E1.assign (EV.call O GG (EV.global_ O GG rfl kn_collected ⟨316, rfl, kk_316, EV.cell_ O (.inl rfl) rfl (xAB _ _ c28) (EV.local_ O rfl q2 ?_)⟩)))
  refine c_collected (n := n) GG (f8.ext xAB) sm'' hvz'' hB stlt (fun fr2 md2 mv2 wt2 cs2 ep3 HC xC frs2 hmd2 col2 => ?_) fun ⟨a, h1, h2⟩ HC xC => by
    have := rc_lt col up ha0 sts a h1
    rw [up_lend col up (by lia)] at h2
    cases h2
  refine AT.tuple rfl (AT.local O rfl (AT.local O rfl ⟨rfl, ?_⟩))
  have q1 := (q1.skip (y := "again") (q := .ref fr2) (by decide)).skip (y := "later") (q := .ref md2) (by decide)
  have q2 := (q2.skip (y := "again") (q := .ref fr2) (by decide)).skip (y := "later") (q := .ref md2) (by decide)
  -- told = _law_pairs(second, starts, again, later)
  refine EX.next (E1.assign (EV.call O GG (EV.global_ O GG rfl kn_law_pairs ⟨370, rfl, kk_370, EV.local_ O rfl q1 (EV.local_ O rfl q2 (EV.local_ O rfl rfl (EV.local_ O rfl rfl ?_)))⟩)))
  have frs2' : HeapAt HC fr2 cs2 := frs2.ext fun a o e => less_sub _ _ (mns_sub _ _ e)
  refine c_pairs (n := n + 9) GG (secB.ext xC) sm'' ft'' ok'' (xC _ _ hB) stlt (by rw [hk]; exact hrn) frs2' (less_sub _ _ hmd2) col2 fun fd2 fl2 ep4 HD xD hfdC hfd2 nd2 hfl2 hall2 => AT.local O rfl ⟨rfl, ?_⟩
  -- what is told
  have hw2 := wt2_mem col up ha0 sts col2
  have m1 : ∀ e, e ∈ fl2.map (·.1) ↔ e < wt.length := fun e => by
    rw [← hw2 e]
    constructor
    · intro h
      obtain ⟨x, hx, rfl⟩ := List.mem_map.mp h
      exact List.mem_iff_getElem?.mpr ⟨_, hfl2 x hx⟩
    · intro h
      obtain ⟨j, hj⟩ := List.mem_iff_getElem?.mp h
      exact List.mem_map.mpr ⟨_, hall2 j e hj, rfl⟩
  have m2 : ∀ j, j ∈ fl.map (·.2) ↔ j < wt.length := fun j => by
    constructor
    · intro h
      obtain ⟨x, hx, rfl⟩ := List.mem_map.mp h
      exact (List.getElem?_eq_some_iff.mp (hfl x hx)).1
    · intro h
      exact List.mem_map.mpr ⟨_, hall j wt[j] (List.getElem?_eq_getElem h), rfl⟩
  have nd3 : (fl.map (·.2)).Nodup := nodup_map (f := fun x : Nat × Nat => x.2) (nodup_of_map nd) fun x hx y hy z => by
    have h1 := hfl x hx
    have h2 := hfl y hy
    have z' : x.2 = y.2 := z
    rw [z', h2] at h1
    exact Prod.ext (Option.some.inj h1).symm z'
  have l12 : fl2.length = fl.length := by
    have := len_same nd2 nd3 fun z => (m1 z).trans (m2 z).symm
    simpa using this
  have lw2 : wt2.length = fl.length := by
    have := len_same col2.iv.nodup nd3 fun z => (hw2 z).trans (m2 z).symm
    simpa using this
  have xCD := xC.trans xD
  have c4D := xCD _ _ (xAB _ _ c48)
  have hfdD := xCD _ _ (xAB _ _ hfd8)
  have hzs : (fdP fl).map (·.2) = (fl.map fun x => ((x.2 : Nat) : Int)).map PV.int := by simp [fdP]
  refine EX.ret (EV.and_ (EV.cmp (EV.local_ O rfl rfl (EV.none_ ⟨true, rfl, fun w9 => ?_, nofun⟩))))
  refine EV.and_ (EV.cmpD O (.inl rfl) (EV.bcall O GG rfl kb_sorted rfl (.inr ⟨_, rfl⟩) (EV.local_ O rfl rfl (BCall.sorted_dict O rfl hfd2 (fun w9 => by rw [fdP_len]; lia) fun b1 ns1 hb1 hp1 hs1 hn1 => ?_))))
  have xE := Ext.new (o := .list (ns1.map .int)) hb1
  have g1 : upd HD b1 (.list (ns1.map .int)) b1 = some (.list (ns1.map .int)) := upd_self
  generalize upd HD b1 (.list (ns1.map .int)) = HE at xE g1 ⊢
  refine EV.bcall O GG rfl kb_sorted rfl (.inr ⟨_, rfl⟩) (EV.values (EV.cell_ O (.inl rfl) rfl (xE _ _ c4D) ⟨fd, _, ep2, rfl, xE _ _ hfdD, fun r ob hr hob => ?_⟩))
  refine BCall.sorted_vals O rfl upd_self hob (Ext.new hr _ _ (xE _ _ hfdD)) (fun w9 => by rw [fdP_len]; lia) hzs fun b2 ns2 hb2 hp2 hs2 => ?_
  have xF : Ext HE (upd (upd HE r (.raw ob)) b2 (.list (ns2.map .int))) := (Ext.new hr).trans (Ext.new hb2)
  have g2 : upd (upd HE r (.raw ob)) b2 (.list (ns2.map .int)) b2 = some (.list (ns2.map .int)) := upd_self
  have g1 := xF _ _ g1
  generalize upd (upd HE r (.raw ob)) b2 (.list (ns2.map .int)) = HF at xF g1 g2 ⊢
  have same : ns1 = ns2 := by
    have nn1 : ns1.Nodup := hp1.nodup_iff.mpr hn1
    have nn2 : ns2.Nodup := by
      refine hp2.nodup_iff.mpr ?_
      have : (fl.map fun x => ((x.2 : Nat) : Int)) = (fl.map (·.2)).map fun x => ((x : Nat) : Int) := by rw [List.map_map]; rfl
      rw [this]
      exact nodup_map nd3 fun a _ b _ z => by lia
    refine sorted_same nn1 nn2 hs1 hs2 fun z => ?_
    rw [hp1.mem_iff, hp2.mem_iff, fdP_keys]
    constructor
    · intro h
      obtain ⟨e, he, rfl⟩ := List.mem_map.mp h
      obtain ⟨x, hx, hxe⟩ := List.mem_map.mp ((m2 e).mpr ((m1 e).mp he))
      exact List.mem_map.mpr ⟨x, hx, by rw [hxe]⟩
    · intro h
      obtain ⟨x, hx, rfl⟩ := List.mem_map.mp h
      exact List.mem_map.mpr ⟨x.2, (m1 _).mpr ((m2 _).mp (List.mem_map.mpr ⟨x, hx, rfl⟩)), rfl⟩
  have rdi : ∀ {b ns}, HF b = some (.list (List.map PV.int ns)) → rd HF 60 (.ref b) = some (.list (ns.map PyData.int)) := fun {b ns} hb => by
    show (match HF b with | some (.list ps) => (rdL (rd HF 59) ps).map PyData.list | _ => none) = _
    rw [hb]
    dsimp only
    rw [rdL_map (k := PyData.int) fun v hv => rfl]; rfl
  refine ⟨_, _, rdi g1, rdi g2, true, ?_, fun w9 => ?_, nofun⟩
  · rw [same, if_pos rfl]
    show PV.bool (PyData.eqvAll _ _) = _
    have : ∀ ns : List Int, PyData.eqvAll (ns.map PyData.int) (ns.map PyData.int) = true := by
      intro ns
      induction ns with
      | nil => rfl
      | cons v r ih => simp only [List.map_cons, PyData.eqvAll, PyData.eqv, ih, Bool.and_true, beq_self_eq_true]
    rw [this]
  have xDF := xE.trans xF
  obtain ⟨dx2, dd2, as2, hp3, hp4⟩ := (frs2'.ext (xD.trans xDF)).ex
  have hal2 := hp4.len
  refine EV.and_one (EV.cmp (EV.meth O GG (EV.local_ O rfl rfl ⟨fr2, 232, dx2, _, 229, rfl, hp3.i, hp3.f, kmt_232_many, rfl, ?_⟩)))
  refine c_many (n := n + 12) GG hp3 (by rw [enF_len, List.length_map, hal2, col2.len, sizeLine_eq]; lia) ?_
  refine EV.bcall O GG rfl kb_len rfl (.inr ⟨_, rfl⟩) (EV.cell_ O (.inl rfl) rfl (xDF _ _ c4D) (BCall.len_dict (xDF _ _ hfdD) (fun w9 => by rw [fdP_len, sizeLine_eq]; lia) ?_))
  show Q (.bool (_ == _)) _
  rw [enF_len, List.length_map, hal2, col2.len, fdP_len, lw2, beq_self_eq_true]
  exact q HF ((XH8.trans xAB).trans (xCD.trans xDF))
end
end Mine

namespace Mine
/-- the bin of numbers -/
noncomputable def BinOk (a b : Int) : Prop := 0 ≤ a ∧ 0 ≤ b ∧ b < 65327
noncomputable def BinAt (H : AH) (bn : Addr) : Prop := ∃ a b, H bn = some (.list [.int a, .int b]) ∧ BinOk a b
noncomputable def GoodV (many : Nat) (v : Vl) : Prop := match v with
  | .int _ => True
  | .char s => PyData.strOk s = true
  | .at a => a < many
noncomputable def GoodC (many : Nat) (c : Cl) : Prop := c.rvals.length ≤ 3 ∧ (∀ v ∈ c.rvals, GoodV many v) ∧ (∀ s, c.name = .str s → PyData.strOk s = true) ∧ (∀ b ∈ pn c, b < many) ∧ (∀ b, c = .li b → b < many)

section
variable {Z : Zs} {n : Nat} {nn : Bool} {H : AH} {Q : PV → AH → Prop} {E : AH → Prop}

theorem c_dip {bn : Addr} {top : Nat} (GG : (gl Z).Ok) (hb : BinAt H bn) (ht : 0 < top) (ht2 : top ≤ 1000) (q : ∀ (r : Nat) a b, r < top → BinOk a b → Q (.int (r : Nat)) (upd H bn (.list [.int a, .int b]))) :
    CallL (gl Z) (n + 1) nn 330 [.ref bn, .int (top : Nat)] H Q E := by
  refine CallL.intro GG (by rfl) (by kernel_rfl) ["bin_now", "top"] (len2 fun w9 w9 => rfl) (by decide) (by decide) (by decide) rfl rfl rfl rfl fun V O => ?_
  obtain ⟨a, b, hbn, h1, h2, h3⟩ := hb
  have tp : (0 : Int) < (top : Nat) := by lia
  have tl : ((top : Nat) : Int) < 1000000 := by lia
  refine EX.ite (ET.cmp (EV.sub (EV.local_ O rfl rfl (EV.int_ (.inl ⟨_, 0, _, hbn, rfl, by decide, rfl, EV.int_ ?_⟩)))))
  refine ⟨fun hp => ?_, fun hp => Then.go ?_⟩
  · refine EX.next (E1.assign (EV.bin (EV.sub (EV.local_ O rfl rfl (EV.int_ (.inl ⟨_, 0, _, hbn, rfl, by decide, rfl, EV.local_ O rfl rfl ⟨tp, AT.local O rfl ⟨rfl, ?_⟩⟩⟩))))))
    refine EX.next (E1.assignSub (EV.bin (EV.sub (EV.local_ O rfl rfl (EV.int_ (.inl ⟨_, 0, _, hbn, rfl, by decide, rfl, EV.local_ O rfl rfl ⟨⟨tp, tl⟩, EV.local_ O rfl rfl (EV.int_ (.inr ⟨_, 0, hbn, rfl, by show 0 < 2; decide, by show 2 ≤ sizeLine; decide, ⟨rfl, ?_⟩⟩))⟩⟩))))))
    have hr := Int.emod_nonneg a (Int.ne_of_gt tp)
    have hr2 := Int.emod_lt_of_pos a tp
    have hd := Int.ediv_nonneg h1 (Int.le_of_lt tp)
    refine EX.ret (EV.local_ O rfl rfl ?_)
    obtain ⟨r, hre⟩ := Int.eq_ofNat_of_zero_le hr
    have := q r (a / (top : Nat)) b (by lia) ⟨hd, h2, h3⟩
    rw [hre]
    exact Then.out this
  · refine EX.next (E1.assignSub (EV.bin (EV.bin (EV.bin (EV.sub (EV.local_ O rfl rfl (EV.int_ (.inl ⟨_, 1, _, hbn, rfl, by decide, rfl, EV.int_ ⟨.inr ⟨by decide, by decide⟩, EV.int_ (EV.int_ ⟨by decide, EV.local_ O rfl rfl (EV.int_ (.inr ⟨_, 1, hbn, rfl, by show 1 < 2; decide, by show 2 ≤ sizeLine; decide, ⟨rfl, ?_⟩⟩))⟩)⟩⟩))))))))
    have hm := Int.emod_nonneg (b * 239 + 3001) (b := 65327) (by decide)
    have hm2 := Int.emod_lt_of_pos (b * 239 + 3001) (b := 65327) (by decide)
    show EX _ _ _ (upd H bn (.list [.int a, .int ((b * 239 + 3001) % 65327)])) _ _
    generalize (b * 239 + 3001) % 65327 = b' at hm hm2 ⊢
    have hr := Int.emod_nonneg (b' / 9) (Int.ne_of_gt tp)
    have hr2 := Int.emod_lt_of_pos (b' / 9) tp
    refine EX.ret (EV.bin (EV.bin (EV.sub (EV.local_ O rfl rfl (EV.int_ (.inl ⟨_, 1, _, upd_self, rfl, by decide, rfl, EV.int_ ⟨⟨by decide, by decide⟩, EV.local_ O rfl rfl ⟨tp, ?_⟩⟩⟩))))))
    obtain ⟨r, hre⟩ := Int.eq_ofNat_of_zero_le hr
    rw [hre]
    exact q r a b' (by lia) ⟨h1, hm, hm2⟩

theorem cut {bn : Addr} {o : AO} : mns (upd H bn o) [bn] = mns H [bn] := mns_in (by simp)
theorem binAt_ext {bn : Addr} {H1 : AH} (x : Ext H H1) (b : BinAt H bn) : BinAt H1 bn := let ⟨a, b, h1, h2⟩ := b; ⟨a, b, x _ _ h1, h2⟩

theorem ch3 {k : Nat} (h : k < 3) : ∃ c : Nat, (("ab€" : Str)).cps[k]? = some c ∧ PyData.strOk ⟨#[c]⟩ = true :=
  ⟨_, (by decide +kernel : ∀ j : Fin 3, (("ab€" : Str)).cps[j.1]? = some (([97, 98, 8364] : List Nat).getD j.1 0) ∧ PyData.strOk ⟨#[([97, 98, 8364] : List Nat).getD j.1 0]⟩ = true) ⟨k, h⟩⟩
theorem c_law_values {bn : Addr} {many : Nat} (GG : (gl Z).Ok) (hb : BinAt H bn) (hm : 0 < many) (hm2 : many ≤ 100)
    (q : ∀ l (vs : List Vl) H', H l = none → BinAt H' bn → Ext (mns H [bn]) (mns H' [bn]) → mns H' [bn] l = some (.list (vs.map Vl.pv)) → vs.length ≤ 3 → (∀ v ∈ vs, GoodV many v) → Q (.ref l) H') : CallL (gl Z) (n + 2) true 337 [.ref bn, .int (many : Nat)] H Q E := by
  refine CallL.intro GG (by rfl) (by kernel_rfl) ["bin_now", "many"] (len2 fun w9 w9 => rfl) (by decide) (by decide) (by decide) rfl rfl rfl rfl fun V O => ?_
  refine EX.next (E1.assign (EV.list_ fun l hl => AT.local O rfl ⟨rfl, ?_⟩))
  have X1 : Ext (mns H [bn]) (mns (upd H l (.list [])) [bn]) := (Ext.new hl).mns
  have hlb : l ≠ bn := fun z => by obtain ⟨a, b, h, _⟩ := hb; rw [← z, hl] at h; cases h
  have hl0 : mns H [bn] l = none := by rw [mns_at (by simpa using hlb)]; exact hl
  have hb1 := binAt_ext (Ext.new (o := .list []) hl) hb
  have gl1 : upd H l (.list []) l = some (.list []) := upd_self
  generalize upd H l (.list []) = H1 at X1 hb1 gl1 ⊢
  refine EX.mid (J := fun m' H' => Lk m' "found" (.ref l) ∧ Ex1 fun (vs : List Vl) => C5 (BinAt H' bn) (Ext (mns H [bn]) (mns H' [bn])) (H' l = some (.list (vs.map Vl.pv))) (vs.length ≤ 3) ((∀ v ∈ vs, GoodV many v)))
    (E1.for_ O (EV.bcall O GG rfl kb_range rfl (.inl ⟨_, rfl⟩) (EV.call O GG (EV.global_ O GG rfl kn_law_dip ⟨330, rfl, kk_330, EV.local_ O rfl rfl (EV.int_ ?_)⟩)))) ?_
  · refine c_dip (n := n) (top := 4) GG hb1 (by decide) (by decide) fun r a b hr hbo => ?_
    have hb2 : BinAt (upd H1 bn (.list [.int a, .int b])) bn := ⟨a, b, upd_self, hbo⟩
    have X2 : Ext (mns H [bn]) (mns (upd H1 bn (.list [.int a, .int b])) [bn]) := by rw [cut]; exact X1
    have gl2 : upd H1 bn (.list [.int a, .int b]) l = some (.list []) := (upd_ne hlb).trans gl1
    generalize upd H1 bn (.list [.int a, .int b]) = H2 at hb2 X2 gl2 ⊢
    refine BCall.range fun ra ob hra hob => ?_
    have x3 := Ext.new (o := .raw ob) hra
    have g3 : upd H2 ra (.raw ob) ra = some (.raw ob) := upd_self
    have hb3 := binAt_ext x3 hb2
    have X3 := X2.trans x3.mns
    have gl3 := x3 _ _ gl2
    generalize upd H2 ra (.raw ob) = H3 at x3 g3 hb3 X3 gl3 ⊢
    refine ⟨upTo (r : Nat), none, IterOf.range O rfl g3 hob (by lia) (by lia), fun k m' H' => Ex1 fun (vs : List Vl) => C8 (Lk m' "bin_now" (.ref bn)) (Lk m' "many" (.int (many : Nat))) (Lk m' "found" (.ref l)) (BinAt H' bn) (Ext (mns H [bn]) (mns H' [bn])) (H' l = some (.list (vs.map Vl.pv))) (vs.length ≤ k) ((∀ v ∈ vs, GoodV many v)),
      ⟨[], rfl, rfl, rfl, hb3, X3, gl3, Nat.le_refl _, fun v h => by cases h⟩, fun w9 w9 w9 w9 => trivial, ?_, ?_⟩
    · rintro it o k p m' H4 R u O4 hpk ⟨vs, k1, k2, k3, hb4, X4, gl4, hvl, hvg⟩
      apply upTo_go hpk; intro hkl
      refine AT.local O4 rfl (EX.next (E1.assign (EV.call O4 GG (EV.global_ O4 GG rfl kn_law_dip ⟨330, rfl, kk_330, EV.local_ O4 rfl (k1.skip (by decide)) (EV.int_ ?_)⟩))))
      refine c_dip (n := n) (top := 6) GG hb4 (by decide) (by decide) fun w a b hw hbo => AT.local O4 rfl ⟨rfl, ?_⟩
      have hb5 : BinAt (upd H4 bn (.list [.int a, .int b])) bn := ⟨a, b, upd_self, hbo⟩
      have X5 : Ext (mns H [bn]) (mns (upd H4 bn (.list [.int a, .int b])) [bn]) := by rw [cut]; exact X4
      have gl5 : upd H4 bn (.list [.int a, .int b]) l = some (.list (vs.map Vl.pv)) := (upd_ne hlb).trans gl4
      generalize upd H4 bn (.list [.int a, .int b]) = H5 at hb5 X5 gl5 ⊢
      have k1 : Lk ((("way", .int (w : Nat)) : Str × PV) :: ("turn", .int (k : Nat)) :: m') "bin_now" (.ref bn) := (k1.skip (by decide)).skip (by decide)
      have k2 : Lk ((("way", .int (w : Nat)) : Str × PV) :: ("turn", .int (k : Nat)) :: m') "many" (.int (many : Nat)) := (k2.skip (by decide)).skip (by decide)
      have k3 : Lk ((("way", .int (w : Nat)) : Str × PV) :: ("turn", .int (k : Nat)) :: m') "found" (.ref l) := (k3.skip (by decide)).skip (by decide)
      have k4 : Lk ((("way", .int (w : Nat)) : Str × PV) :: ("turn", .int (k : Nat)) :: m') "way" (.int (w : Nat)) := rfl
      have k5 : Lk ((("way", .int (w : Nat)) : Str × PV) :: ("turn", .int (k : Nat)) :: m') "turn" (.int (k : Nat)) := rfl
      generalize ((("way", .int (w : Nat)) : Str × PV) :: ("turn", .int (k : Nat)) :: m') = m6 at k1 k2 k3 k4 k5 ⊢
      have fin : ∀ (v : Vl) H6, GoodV many v → BinAt H6 bn → Ext (mns H [bn]) (mns H6 [bn]) → H6 l = some (.list (vs.map Vl.pv)) → (∃ ps, H6 l = some (.list ps) ∧ ps.length < sizeLine ∧ Ex1 fun (vs : List Vl) => C8 (Lk m6 "bin_now" (.ref bn)) (Lk m6 "many" (.int (many : Nat))) (Lk m6 "found" (.ref l)) (BinAt (upd H6 l (.list (ps ++ [v.pv]))) bn) (Ext (mns H [bn]) (mns (upd H6 l (.list (ps ++ [v.pv]))) [bn])) (upd H6 l (.list (ps ++ [v.pv])) l = some (.list (vs.map Vl.pv))) (vs.length ≤ k + 1) ((∀ v ∈ vs, GoodV many v))) := by
        intro v H6 gv ⟨a6, b6, h6, ho6⟩ X6 gl6
        refine ⟨_, gl6, by rw [List.length_map, sizeLine_eq]; lia, vs ++ [v], k1, k2, k3, ⟨a6, b6, (upd_ne hlb.symm).trans h6, ho6⟩, ?_, ?_, by rw [List.length_append]; exact Nat.succ_le_succ hvl, ?_⟩
        · rw [mns_out (by simpa using hlb)]; exact X6.upd hl0
        · rw [upd_self, List.map_append]; rfl
        · intro v' hv'
          rcases List.mem_append.mp hv' with h | h
          · exact hvg v' h
          · rw [List.mem_singleton.mp h]; exact gv
      have go : ∀ {v : Vl} {H6 : AH} {R : PF → Loc → AH → Prop}, True := trivial
      refine EX.next (E1.expr O4 (EV.append (EV.local_ O4 rfl k3 ⟨l, rfl, ⟨_, gl5⟩, EV.ifexp (ET.cmp (EV.local_ O4 rfl k4 (EV.int_ ?_)))⟩)))
      refine ⟨fun hw2 => ?_, fun hw2 => ?_⟩
      · have hw3 : w < 2 := by have := of_decide_eq_true hw2; lia
        refine EV.sub (EV.list_ (EV.tuple_ (EV.str_ (EV.bin (EV.bin (EV.int_ (EV.local_ O4 rfl k5 ⟨.inl ⟨by decide, by decide⟩, EV.int_ (EV.tuple_ (EV.str_ (EV.sub (EV.str_ (EV.local_ O4 rfl k5 ?_)))))⟩)))))))
        obtain ⟨ch, hch, hok⟩ := ch3 (k := k) (by lia)
        refine ⟨k, ch, rfl, by lia, hch, fun l2 hl2 => ?_⟩
        have x6 := Ext.new (o := .list [.tup [.str "int", .int (7 * (k : Nat) - 3)], .tup [.str "char", .str ⟨#[ch]⟩]]) hl2
        have g6 : upd H5 l2 (.list [.tup [.str "int", .int (7 * (k : Nat) - 3)], .tup [.str "char", .str ⟨#[ch]⟩]]) l2 = some (.list [.tup [.str "int", .int (7 * (k : Nat) - 3)], .tup [.str "char", .str ⟨#[ch]⟩]]) := upd_self
        generalize upd H5 l2 (.list [.tup [.str "int", .int (7 * (k : Nat) - 3)], .tup [.str "char", .str ⟨#[ch]⟩]]) = H6 at x6 g6 ⊢
        have hw4 : w = 0 ∨ w = 1 := by lia
        rcases hw4 with rfl | rfl
        · refine EV.local_ O4 rfl k4 (.inl ⟨_, 0, (Vl.int (7 * (k : Nat) - 3)).pv, g6, rfl, by decide, rfl, ?_⟩)
          obtain ⟨ps, h1, h2, h3⟩ := fin (.int (7 * (k : Nat) - 3)) H6 trivial (binAt_ext x6 hb5) (X5.trans x6.mns) (x6 _ _ gl5)
          exact ⟨ps, h1, h2, rfl, EX.nil (u.nx h3)⟩
        · refine EV.local_ O4 rfl k4 (.inl ⟨_, 1, (Vl.char ⟨#[ch]⟩).pv, g6, rfl, by decide, rfl, ?_⟩)
          obtain ⟨ps, h1, h2, h3⟩ := fin (.char ⟨#[ch]⟩) H6 hok (binAt_ext x6 hb5) (X5.trans x6.mns) (x6 _ _ gl5)
          exact ⟨ps, h1, h2, rfl, EX.nil (u.nx h3)⟩
      · refine EV.tuple_ (EV.str_ (EV.call O4 GG (EV.global_ O4 GG rfl kn_law_dip ⟨330, rfl, kk_330, EV.local_ O4 rfl k1 (EV.local_ O4 rfl k2 ?_)⟩)))
        refine c_dip (n := n) GG hb5 hm (by lia) fun z a b hz hbo => ?_
        obtain ⟨ps, h1, h2, h3⟩ := fin (.at z) (upd H5 bn (.list [.int a, .int b])) hz ⟨a, b, upd_self, hbo⟩ (by rw [cut]; exact X5) ((upd_ne hlb).trans gl5)
        exact ⟨ps, h1, h2, rfl, EX.nil (u.nx h3)⟩
    · rintro m' H4 ⟨vs, k1, k2, k3, hb4, X4, gl4, hvl, hvg⟩
      have hu : (upTo (r : Nat)).length = r := by unfold upTo; rw [List.length_map, List.length_range, Int.toNat_natCast]
      rw [hu] at hvl
      exact ⟨rfl, k3, vs, hb4, X4, gl4, by lia, hvg⟩
  · rintro m' H4 ⟨k3, vs, hb4, X4, gl4, hvl, hvg⟩
    exact EX.ret (EV.local_ O rfl k3 (q l vs H4 hl hb4 X4 (by rw [mns_at (by simpa using hlb)]; exact gl4) hvl hvg))
end
end Mine

namespace Mine
section
variable {Z : Zs} {n : Nat} {nn : Bool} {H : AH} {Q : PV → AH → Prop} {E : AH → Prop}

theorem kinds9 {r : Nat} (h : r < 9) : ∃ s : Str, (s = "function" ∨ s = "thunk" ∨ s = "partial" ∨ s = "data" ∨ s = "hole" ∨ s = "plain" ∨ s = "link") ∧ ([.str "function", .str "thunk", .str "partial", .str "data", .str "data", .str "hole", .str "plain", .str "link", .str "link"] : List PV)[r]? = some (.str s) := by
  have h2 : ∀ s ∈ (["function", "thunk", "partial", "data", "data", "hole", "plain", "link", "link"] : List Str), (s = "function" ∨ s = "thunk" ∨ s = "partial" ∨ s = "data" ∨ s = "hole" ∨ s = "plain" ∨ s = "link") := by decide +kernel
  refine ⟨_, h2 _ (List.getElem_mem (l := (["function", "thunk", "partial", "data", "data", "hole", "plain", "link", "link"] : List Str)) h), ?_⟩
  show (List.map PV.str ["function", "thunk", "partial", "data", "data", "hole", "plain", "link", "link"])[r]? = _
  rw [List.getElem?_map, List.getElem?_eq_getElem (l := (["function", "thunk", "partial", "data", "data", "hole", "plain", "link", "link"] : List Str)) h]; rfl
theorem hat4 (k : Nat) : (((k : Nat) : Int) % 4).natAbs.log2 < 1920 ∧ ("k" : Str).length + (Str.ofString (toString (((k : Nat) : Int) % 4))).length ≤ sizeLine ∧ PyData.strOk (("k" : Str) ++ Str.ofString (toString (((k : Nat) : Int) % 4))) = true := by
  have h : ∀ j : Fin 4, ((j.1 : Nat) : Int).natAbs.log2 < 1920 ∧ ("k" : Str).length + (Str.ofString (toString ((j.1 : Nat) : Int))).length ≤ sizeLine ∧ PyData.strOk (("k" : Str) ++ Str.ofString (toString ((j.1 : Nat) : Int))) = true := by decide +kernel
  exact h ⟨k % 4, Nat.mod_lt _ (by decide)⟩

theorem c_law_rows {bn : Addr} (GG : (gl Z).Ok) (hb : BinAt H bn)
    (q : ∀ rl (cs : List Cl) H', BinAt H' bn → Ext (mns H [bn]) (mns H' [bn]) → RowsAt (mns H' [bn]) rl cs → 2 ≤ cs.length → cs.length ≤ 9 → (∀ c ∈ cs, GoodC cs.length c) → Q (.ref rl) H') : CallL (gl Z) (n + 3) true 344 [.ref bn] H Q E := by
  refine CallL.intro GG (by rfl) (by kernel_rfl) ["bin_now"] (len1 fun w9 => rfl) (by decide) (by decide) (by decide) rfl rfl rfl rfl fun V O => ?_
  refine EX.next (E1.assignTup2 O rfl rfl (EV.tuple_ (EV.bin (EV.int_ (EV.call O GG (EV.global_ O GG rfl kn_law_dip ⟨330, rfl, kk_330, EV.local_ O rfl rfl (EV.int_ ?_)⟩))))))
  refine c_dip (n := n + 1) (top := 8) GG hb (by decide) (by decide) fun r a b hr hbo => ?_
  have hb1 : BinAt (upd H bn (.list [.int a, .int b])) bn := ⟨a, b, upd_self, hbo⟩
  have X1 : Ext (mns H [bn]) (mns (upd H bn (.list [.int a, .int b])) [bn]) := by rw [cut]; exact Ext.refl _
  generalize upd H bn (.list [.int a, .int b]) = H1 at hb1 X1 ⊢
  refine EV.list_ (fun rl hrl => ⟨_, _, rfl, rfl, ?_⟩)
  obtain ⟨many, hmany⟩ : ∃ many, many = 2 + r := ⟨_, rfl⟩
  have em : (2 : Int) + (r : Nat) = ((many : Nat) : Int) := by lia
  rw [em]
  have hrb : rl ≠ bn := fun z => by obtain ⟨_, _, h, _⟩ := hb1; rw [← z, hrl] at h; cases h
  have hrl0 : mns H [bn] rl = none := none_of_x X1 (by rw [mns_at (by simpa using hrb)]; exact hrl)
  have hb2 := binAt_ext (Ext.new (o := .list []) hrl) hb1
  have X2 := X1.trans (Ext.new (o := .list []) hrl).mns
  have gl2 : upd H1 rl (.list []) rl = some (.list []) := upd_self
  generalize upd H1 rl (.list []) = H2 at hb2 X2 gl2 ⊢
  have hm : 0 < many := by lia
  have hm9 : many ≤ 9 := by lia
  generalize hm0 : ((("many", .int (many : Nat)) : Str × PV) :: _) = m0
  have k1 : Lk m0 "bin_now" (.ref bn) := by rw [← hm0]; rfl
  have k2 : Lk m0 "many" (.int (many : Nat)) := by rw [← hm0]; rfl
  have k3 : Lk m0 "rows" (.ref rl) := by rw [← hm0]; rfl
  clear hm0
  refine EX.midG (J := fun m' H' => Lk m' "rows" (.ref rl) ∧ Ex2 fun (ps : List PV) (cs : List Cl) => C6 (BinAt H' bn) (Ext (mns H [bn]) (mns H' [bn])) (H' rl = some (.list ps)) (All2 (RowAt (mns (mns H' [bn]) [rl])) ps cs) (cs.length = many) (∀ c ∈ cs, GoodC many c))
    (fun G up => E1.for_ O (EV.bcall O GG rfl kb_range rfl (.inl ⟨_, rfl⟩) (EV.local_ O rfl k2 (BCall.range fun ra ob hra hob => ?_))) (by intro _; rfl)) ?_
  · have x3 := Ext.new (o := .raw ob) hra
    have g3 : upd H2 ra (.raw ob) ra = some (.raw ob) := upd_self
    have hb3 := binAt_ext x3 hb2
    have X3 := X2.trans x3.mns
    have gl3 := x3 _ _ gl2
    generalize upd H2 ra (.raw ob) = H3 at x3 g3 hb3 X3 gl3 ⊢
    refine ⟨upTo (many : Nat), none, IterOf.range O rfl g3 hob (by lia) (by lia), fun k m' H' => Ex2 fun (ps : List PV) (cs : List Cl) => C9 (Lk m' "bin_now" (.ref bn)) (Lk m' "many" (.int (many : Nat))) (Lk m' "rows" (.ref rl)) (BinAt H' bn) (Ext (mns H [bn]) (mns H' [bn])) (H' rl = some (.list ps)) (All2 (RowAt (mns (mns H' [bn]) [rl])) ps cs) (cs.length = k) (∀ c ∈ cs, GoodC many c),
      ⟨[], [], k1, k2, k3, hb3, X3, gl3, .nil, rfl, fun c h => by cases h⟩, fun w9 w9 w9 w9 => trivial, ?_, ?_⟩
    · rintro it o k p m' H4 R u O4 hpk ⟨ps, cs, k1, k2, k3, hb4, X4, gl4, a4, hck, hcg⟩
      apply upTo_go hpk; intro hkl
      have hpl : ps.length = k := a4.len.trans hck
      refine AT.local O4 rfl ?_
      -- kind
      refine EX.midG (J := fun m' H' => Ex1 fun (s : Str) => C9 ((s = "function" ∨ s = "thunk" ∨ s = "partial" ∨ s = "data" ∨ s = "hole" ∨ s = "plain" ∨ s = "link")) (Lk m' "bin_now" (.ref bn)) (Lk m' "many" (.int (many : Nat))) (Lk m' "rows" (.ref rl)) (Lk m' "at" (.int (k : Nat))) (Lk m' "kind" (.str s)) (BinAt H' bn) (Ext (mns H4 [bn]) (mns H' [bn])) (H' rl = some (.list ps)))
        (fun G up => E1.assign (EV.sub ?_)) ?_
      · refine EV.list_ (EVs.consts (.str (.str (.str (.str (.str (.str (.str (.str (.str .nil))))))))) fun kl hkl => ?_)
        refine EV.call O4 GG (EV.global_ O4 GG rfl kn_law_dip ⟨330, rfl, kk_330, EV.local_ O4 rfl (k1.skip (by decide)) (EV.int_ ?_)⟩)
        have gk : upd H4 kl (.list [.str "function", .str "thunk", .str "partial", .str "data", .str "data", .str "hole", .str "plain", .str "link", .str "link"]) kl = some (.list [.str "function", .str "thunk", .str "partial", .str "data", .str "data", .str "hole", .str "plain", .str "link", .str "link"]) := upd_self
        have xk := (Ext.new (o := .list [.str "function", .str "thunk", .str "partial", .str "data", .str "data", .str "hole", .str "plain", .str "link", .str "link"]) hkl)
        have hbk := binAt_ext xk hb4
        have glk := xk _ _ gl4
        generalize upd H4 kl (.list [.str "function", .str "thunk", .str "partial", .str "data", .str "data", .str "hole", .str "plain", .str "link", .str "link"]) = HK at gk xk hbk glk ⊢
        have hkb : kl ≠ bn := fun z => by obtain ⟨_, _, h, _⟩ := hb4; rw [← z, hkl] at h; cases h
        refine c_dip (n := n + 1) (top := 9) GG hbk (by decide) (by decide) fun r a b hr hbo => ?_
        have gk2 := (upd_ne (H := HK) (o := .list [.int a, .int b]) hkb).trans gk
        obtain ⟨s, hs, hget⟩ := kinds9 hr
        refine .inl ⟨_, r, .str s, gk2, rfl, by lia, hget, AT.local O4 rfl ⟨rfl, up ⟨s, hs, (k1.skip (by decide)).skip (by decide), (k2.skip (by decide)).skip (by decide), (k3.skip (by decide)).skip (by decide), rfl, rfl, ⟨a, b, upd_self, hbo⟩, ?_, ?_⟩⟩⟩
        · rw [cut]; exact xk.mns
        · exact (upd_ne hrb).trans glk
      rintro m5 H5 ⟨s, hs, k1, k2, k3, k4, k5, hb5, X5, gl5⟩
      have a5 : All2 (RowAt (mns (mns H5 [bn]) [rl])) ps cs := a4.mono fun _ _ z => z.ext X5.mns
      have fin : ∀ (c : Cl) l m6 H6, GoodC many c → Lk m6 "bin_now" (.ref bn) → Lk m6 "many" (.int (many : Nat)) → Lk m6 "rows" (.ref rl) → BinAt H6 bn → Ext (mns H5 [bn]) (mns H6 [bn]) → H6 rl = some (.list ps) → l ≠ rl → mns H6 [bn] l = some (.list (c.rvals.map Vl.pv)) →
          Ex2 fun (ps' : List PV) (cs : List Cl) => C9 (Lk m6 "bin_now" (.ref bn)) (Lk m6 "many" (.int (many : Nat))) (Lk m6 "rows" (.ref rl)) (BinAt (upd H6 rl (.list (ps ++ [rowP c l]))) bn) (Ext (mns H [bn]) (mns (upd H6 rl (.list (ps ++ [rowP c l]))) [bn])) (upd H6 rl (.list (ps ++ [rowP c l])) rl = some (.list ps')) (All2 (RowAt (mns (mns (upd H6 rl (.list (ps ++ [rowP c l]))) [bn]) [rl])) ps' cs) (cs.length = k + 1) (∀ c ∈ cs, GoodC many c) := by
        intro c l m6 H6 gc k1 k2 k3 hb6 X6 gl6 hlr gv
        obtain ⟨a6, b6, h6, ho6⟩ := hb6
        have e1 : mns (upd H6 rl (.list (ps ++ [rowP c l]))) [bn] = upd (mns H6 [bn]) rl (.list (ps ++ [rowP c l])) := mns_out (by simpa using hrb)
        refine ⟨ps ++ [rowP c l], cs ++ [c], k1, k2, k3, ⟨a6, b6, (upd_ne hrb.symm).trans h6, ho6⟩, ?_, upd_self, ?_, by rw [List.length_append, hck]; rfl, ?_⟩
        · rw [e1]; exact ((X4.trans X5).trans X6).upd hrl0
        · rw [e1, mns_in (by simp)]
          exact (a5.mono fun _ _ z => z.ext X6.mns).snoc ⟨l, rfl, by rw [mns_at (by simpa using hlr)]; exact gv⟩
        · intro c' hc'
          rcases List.mem_append.mp hc' with h | h
          · exact hcg c' h
          · rw [List.mem_singleton.mp h]; exact gc
      have hat := hat4 k
      rcases hs with rfl | rfl | rfl | rfl | rfl | rfl | rfl
      · -- function
        refine EX.next (E1.assign (EV.ifexp (ET.cmp (EV.local_ O4 rfl k5 (EV.tuple_ (EVs.consts (.str (.str .nil)) ⟨["partial", "link"], rfl, nofun, fun w9 => ?_⟩))))))
        refine EV.bin (EV.str_ (EV.bcall O4 GG rfl kb_str rfl (.inl ⟨_, rfl⟩) (EV.bin (EV.local_ O4 rfl k4 (EV.int_ ⟨by decide, BCall.str_int hat.1 ⟨hat.2.1, AT.local O4 rfl ⟨rfl, ?_⟩⟩⟩)))))
        have hb6 := hb5
        have X6 := Ext.refl (mns H5 [bn])
        have gl6 := gl5
        have htk := hat.2.2
        generalize (("k" : Str) ++ Str.ofString (toString (((k : Nat) : Int) % 4))) = t at htk ⊢
        have k1 := k1.skip (y := "name") (q := .str t) (by decide)
        have k2 := k2.skip (y := "name") (q := .str t) (by decide)
        have k3 := k3.skip (y := "name") (q := .str t) (by decide)
        have k5 := k5.skip (y := "name") (q := .str t) (by decide)
        have k6 : Lk ((("name", .str t) : Str × PV) :: m5) "name" (.str t) := rfl
        generalize ((("name", .str t) : Str × PV) :: m5) = m6 at k1 k2 k3 k5 k6 ⊢
        refine EX.next (E1.assign (EV.ifexp (ET.cmp (EV.local_ O4 rfl k5 (EV.tuple_ (EVs.consts (.str (.str .nil)) ⟨["hole", "link"], rfl, fun w9 => EV.call O4 GG (EV.global_ O4 GG rfl kn_law_values ⟨337, rfl, kk_337, EV.local_ O4 rfl k1 (EV.local_ O4 rfl k2 ?_)⟩), nofun⟩))))))
        refine c_law_values (n := n) GG hb6 hm (by lia) fun l vs H7 hl hb7 x7 gv hvl hvg => AT.local O4 rfl ⟨rfl, ?_⟩
        have X7 := X6.trans x7
        have hlr : l ≠ rl := ne_of_none hl gl6
        have gl7 : H7 rl = some (.list ps) := mns_sub _ _ (x7 _ _ (by rw [mns_at (by simpa using hrb)]; exact gl6))
        have k1 := k1.skip (y := "values") (q := .ref l) (by decide)
        have k2 := k2.skip (y := "values") (q := .ref l) (by decide)
        have k3 := k3.skip (y := "values") (q := .ref l) (by decide)
        have k5 := k5.skip (y := "values") (q := .ref l) (by decide)
        have k6 := k6.skip (y := "values") (q := .ref l) (by decide)
        have k7 : Lk ((("values", .ref l) : Str × PV) :: m6) "values" (.ref l) := rfl
        generalize ((("values", .ref l) : Str × PV) :: m6) = m7 at k1 k2 k3 k5 k6 k7 ⊢
        refine EX.ite (ET.cmp (EV.local_ O4 rfl k5 (EV.str_ ⟨nofun, fun w9 => Then.go ?_⟩)))
        refine EX.next (E1.expr O4 (EV.append (EV.local_ O4 rfl k3 ⟨rl, rfl, ⟨_, gl7⟩, EV.tuple_ (EV.local_ O4 rfl k5 (EV.ifexp (ET.cmp (EV.local_ O4 rfl k5 (EV.tuple_ (EVs.consts (.str (.str .nil)) ⟨["hole", "plain"], rfl, nofun, fun w9 => EV.local_ O4 rfl k6 (EV.local_ O4 rfl k7 ⟨_, gl7, by rw [hpl, sizeLine_eq]; lia, rfl, EX.nil ?_⟩)⟩))))))⟩)))
        exact u.nx (fin (.fn t vs) l _ _ ⟨hvl, hvg, (fun s h => by cases h; exact htk), (fun b h => by cases h), nofun⟩ k1 k2 k3 hb7 X7 gl7 hlr gv)
      · -- thunk
        refine EX.next (E1.assign (EV.ifexp (ET.cmp (EV.local_ O4 rfl k5 (EV.tuple_ (EVs.consts (.str (.str .nil)) ⟨["partial", "link"], rfl, nofun, fun w9 => ?_⟩))))))
        refine EV.bin (EV.str_ (EV.bcall O4 GG rfl kb_str rfl (.inl ⟨_, rfl⟩) (EV.bin (EV.local_ O4 rfl k4 (EV.int_ ⟨by decide, BCall.str_int hat.1 ⟨hat.2.1, AT.local O4 rfl ⟨rfl, ?_⟩⟩⟩)))))
        have hb6 := hb5
        have X6 := Ext.refl (mns H5 [bn])
        have gl6 := gl5
        have htk := hat.2.2
        generalize (("k" : Str) ++ Str.ofString (toString (((k : Nat) : Int) % 4))) = t at htk ⊢
        have k1 := k1.skip (y := "name") (q := .str t) (by decide)
        have k2 := k2.skip (y := "name") (q := .str t) (by decide)
        have k3 := k3.skip (y := "name") (q := .str t) (by decide)
        have k5 := k5.skip (y := "name") (q := .str t) (by decide)
        have k6 : Lk ((("name", .str t) : Str × PV) :: m5) "name" (.str t) := rfl
        generalize ((("name", .str t) : Str × PV) :: m5) = m6 at k1 k2 k3 k5 k6 ⊢
        refine EX.next (E1.assign (EV.ifexp (ET.cmp (EV.local_ O4 rfl k5 (EV.tuple_ (EVs.consts (.str (.str .nil)) ⟨["hole", "link"], rfl, fun w9 => EV.call O4 GG (EV.global_ O4 GG rfl kn_law_values ⟨337, rfl, kk_337, EV.local_ O4 rfl k1 (EV.local_ O4 rfl k2 ?_)⟩), nofun⟩))))))
        refine c_law_values (n := n) GG hb6 hm (by lia) fun l vs H7 hl hb7 x7 gv hvl hvg => AT.local O4 rfl ⟨rfl, ?_⟩
        have X7 := X6.trans x7
        have hlr : l ≠ rl := ne_of_none hl gl6
        have gl7 : H7 rl = some (.list ps) := mns_sub _ _ (x7 _ _ (by rw [mns_at (by simpa using hrb)]; exact gl6))
        have k1 := k1.skip (y := "values") (q := .ref l) (by decide)
        have k2 := k2.skip (y := "values") (q := .ref l) (by decide)
        have k3 := k3.skip (y := "values") (q := .ref l) (by decide)
        have k5 := k5.skip (y := "values") (q := .ref l) (by decide)
        have k6 := k6.skip (y := "values") (q := .ref l) (by decide)
        have k7 : Lk ((("values", .ref l) : Str × PV) :: m6) "values" (.ref l) := rfl
        generalize ((("values", .ref l) : Str × PV) :: m6) = m7 at k1 k2 k3 k5 k6 k7 ⊢
        refine EX.ite (ET.cmp (EV.local_ O4 rfl k5 (EV.str_ ⟨nofun, fun w9 => Then.go ?_⟩)))
        refine EX.next (E1.expr O4 (EV.append (EV.local_ O4 rfl k3 ⟨rl, rfl, ⟨_, gl7⟩, EV.tuple_ (EV.local_ O4 rfl k5 (EV.ifexp (ET.cmp (EV.local_ O4 rfl k5 (EV.tuple_ (EVs.consts (.str (.str .nil)) ⟨["hole", "plain"], rfl, nofun, fun w9 => EV.local_ O4 rfl k6 (EV.local_ O4 rfl k7 ⟨_, gl7, by rw [hpl, sizeLine_eq]; lia, rfl, EX.nil ?_⟩)⟩))))))⟩)))
        exact u.nx (fin (.th t vs) l _ _ ⟨hvl, hvg, (fun s h => by cases h; exact htk), (fun b h => by cases h), nofun⟩ k1 k2 k3 hb7 X7 gl7 hlr gv)
      · -- partial
        refine EX.next (E1.assign (EV.ifexp (ET.cmp (EV.local_ O4 rfl k5 (EV.tuple_ (EVs.consts (.str (.str .nil)) ⟨["partial", "link"], rfl, fun w9 => ?_, nofun⟩))))))
        refine EV.call O4 GG (EV.global_ O4 GG rfl kn_law_dip ⟨330, rfl, kk_330, EV.local_ O4 rfl k1 (EV.local_ O4 rfl k2 ?_)⟩)
        refine c_dip (n := n + 1) GG hb5 hm (by lia) fun z a b hz hbo => AT.local O4 rfl ⟨rfl, ?_⟩
        have hb6 : BinAt (upd H5 bn (.list [.int a, .int b])) bn := ⟨a, b, upd_self, hbo⟩
        have X6 : Ext (mns H5 [bn]) (mns (upd H5 bn (.list [.int a, .int b])) [bn]) := by rw [cut]; exact Ext.refl _
        have gl6 : upd H5 bn (.list [.int a, .int b]) rl = some (.list ps) := (upd_ne hrb).trans gl5
        generalize upd H5 bn (.list [.int a, .int b]) = H6 at hb6 X6 gl6 ⊢
        have k1 := k1.skip (y := "name") (q := .int (z : Nat)) (by decide)
        have k2 := k2.skip (y := "name") (q := .int (z : Nat)) (by decide)
        have k3 := k3.skip (y := "name") (q := .int (z : Nat)) (by decide)
        have k5 := k5.skip (y := "name") (q := .int (z : Nat)) (by decide)
        have k6 : Lk ((("name", .int (z : Nat)) : Str × PV) :: m5) "name" (.int (z : Nat)) := rfl
        generalize ((("name", .int (z : Nat)) : Str × PV) :: m5) = m6 at k1 k2 k3 k5 k6 ⊢
        refine EX.next (E1.assign (EV.ifexp (ET.cmp (EV.local_ O4 rfl k5 (EV.tuple_ (EVs.consts (.str (.str .nil)) ⟨["hole", "link"], rfl, fun w9 => EV.call O4 GG (EV.global_ O4 GG rfl kn_law_values ⟨337, rfl, kk_337, EV.local_ O4 rfl k1 (EV.local_ O4 rfl k2 ?_)⟩), nofun⟩))))))
        refine c_law_values (n := n) GG hb6 hm (by lia) fun l vs H7 hl hb7 x7 gv hvl hvg => AT.local O4 rfl ⟨rfl, ?_⟩
        have X7 := X6.trans x7
        have hlr : l ≠ rl := ne_of_none hl gl6
        have gl7 : H7 rl = some (.list ps) := mns_sub _ _ (x7 _ _ (by rw [mns_at (by simpa using hrb)]; exact gl6))
        have k1 := k1.skip (y := "values") (q := .ref l) (by decide)
        have k2 := k2.skip (y := "values") (q := .ref l) (by decide)
        have k3 := k3.skip (y := "values") (q := .ref l) (by decide)
        have k5 := k5.skip (y := "values") (q := .ref l) (by decide)
        have k6 := k6.skip (y := "values") (q := .ref l) (by decide)
        have k7 : Lk ((("values", .ref l) : Str × PV) :: m6) "values" (.ref l) := rfl
        generalize ((("values", .ref l) : Str × PV) :: m6) = m7 at k1 k2 k3 k5 k6 k7 ⊢
        refine EX.ite (ET.cmp (EV.local_ O4 rfl k5 (EV.str_ ⟨nofun, fun w9 => Then.go ?_⟩)))
        refine EX.next (E1.expr O4 (EV.append (EV.local_ O4 rfl k3 ⟨rl, rfl, ⟨_, gl7⟩, EV.tuple_ (EV.local_ O4 rfl k5 (EV.ifexp (ET.cmp (EV.local_ O4 rfl k5 (EV.tuple_ (EVs.consts (.str (.str .nil)) ⟨["hole", "plain"], rfl, nofun, fun w9 => EV.local_ O4 rfl k6 (EV.local_ O4 rfl k7 ⟨_, gl7, by rw [hpl, sizeLine_eq]; lia, rfl, EX.nil ?_⟩)⟩))))))⟩)))
        exact u.nx (fin (.pa z vs) l _ _ ⟨hvl, hvg, nofun, (fun b h => by rw [List.mem_singleton.mp h]; exact hz), nofun⟩ k1 k2 k3 hb7 X7 gl7 hlr gv)
      · -- data
        refine EX.next (E1.assign (EV.ifexp (ET.cmp (EV.local_ O4 rfl k5 (EV.tuple_ (EVs.consts (.str (.str .nil)) ⟨["partial", "link"], rfl, nofun, fun w9 => ?_⟩))))))
        refine EV.bin (EV.str_ (EV.bcall O4 GG rfl kb_str rfl (.inl ⟨_, rfl⟩) (EV.bin (EV.local_ O4 rfl k4 (EV.int_ ⟨by decide, BCall.str_int hat.1 ⟨hat.2.1, AT.local O4 rfl ⟨rfl, ?_⟩⟩⟩)))))
        have hb6 := hb5
        have X6 := Ext.refl (mns H5 [bn])
        have gl6 := gl5
        have htk := hat.2.2
        generalize (("k" : Str) ++ Str.ofString (toString (((k : Nat) : Int) % 4))) = t at htk ⊢
        have k1 := k1.skip (y := "name") (q := .str t) (by decide)
        have k2 := k2.skip (y := "name") (q := .str t) (by decide)
        have k3 := k3.skip (y := "name") (q := .str t) (by decide)
        have k5 := k5.skip (y := "name") (q := .str t) (by decide)
        have k6 : Lk ((("name", .str t) : Str × PV) :: m5) "name" (.str t) := rfl
        generalize ((("name", .str t) : Str × PV) :: m5) = m6 at k1 k2 k3 k5 k6 ⊢
        refine EX.next (E1.assign (EV.ifexp (ET.cmp (EV.local_ O4 rfl k5 (EV.tuple_ (EVs.consts (.str (.str .nil)) ⟨["hole", "link"], rfl, fun w9 => EV.call O4 GG (EV.global_ O4 GG rfl kn_law_values ⟨337, rfl, kk_337, EV.local_ O4 rfl k1 (EV.local_ O4 rfl k2 ?_)⟩), nofun⟩))))))
        refine c_law_values (n := n) GG hb6 hm (by lia) fun l vs H7 hl hb7 x7 gv hvl hvg => AT.local O4 rfl ⟨rfl, ?_⟩
        have X7 := X6.trans x7
        have hlr : l ≠ rl := ne_of_none hl gl6
        have gl7 : H7 rl = some (.list ps) := mns_sub _ _ (x7 _ _ (by rw [mns_at (by simpa using hrb)]; exact gl6))
        have k1 := k1.skip (y := "values") (q := .ref l) (by decide)
        have k2 := k2.skip (y := "values") (q := .ref l) (by decide)
        have k3 := k3.skip (y := "values") (q := .ref l) (by decide)
        have k5 := k5.skip (y := "values") (q := .ref l) (by decide)
        have k6 := k6.skip (y := "values") (q := .ref l) (by decide)
        have k7 : Lk ((("values", .ref l) : Str × PV) :: m6) "values" (.ref l) := rfl
        generalize ((("values", .ref l) : Str × PV) :: m6) = m7 at k1 k2 k3 k5 k6 k7 ⊢
        refine EX.ite (ET.cmp (EV.local_ O4 rfl k5 (EV.str_ ⟨nofun, fun w9 => Then.go ?_⟩)))
        refine EX.next (E1.expr O4 (EV.append (EV.local_ O4 rfl k3 ⟨rl, rfl, ⟨_, gl7⟩, EV.tuple_ (EV.local_ O4 rfl k5 (EV.ifexp (ET.cmp (EV.local_ O4 rfl k5 (EV.tuple_ (EVs.consts (.str (.str .nil)) ⟨["hole", "plain"], rfl, nofun, fun w9 => EV.local_ O4 rfl k6 (EV.local_ O4 rfl k7 ⟨_, gl7, by rw [hpl, sizeLine_eq]; lia, rfl, EX.nil ?_⟩)⟩))))))⟩)))
        exact u.nx (fin (.da t vs) l _ _ ⟨hvl, hvg, (fun s h => by cases h; exact htk), (fun b h => by cases h), nofun⟩ k1 k2 k3 hb7 X7 gl7 hlr gv)
      · -- hole
        refine EX.next (E1.assign (EV.ifexp (ET.cmp (EV.local_ O4 rfl k5 (EV.tuple_ (EVs.consts (.str (.str .nil)) ⟨["partial", "link"], rfl, nofun, fun w9 => ?_⟩))))))
        refine EV.bin (EV.str_ (EV.bcall O4 GG rfl kb_str rfl (.inl ⟨_, rfl⟩) (EV.bin (EV.local_ O4 rfl k4 (EV.int_ ⟨by decide, BCall.str_int hat.1 ⟨hat.2.1, AT.local O4 rfl ⟨rfl, ?_⟩⟩⟩)))))
        have hb6 := hb5
        have X6 := Ext.refl (mns H5 [bn])
        have gl6 := gl5
        have htk := hat.2.2
        generalize (("k" : Str) ++ Str.ofString (toString (((k : Nat) : Int) % 4))) = t at htk ⊢
        have k1 := k1.skip (y := "name") (q := .str t) (by decide)
        have k2 := k2.skip (y := "name") (q := .str t) (by decide)
        have k3 := k3.skip (y := "name") (q := .str t) (by decide)
        have k5 := k5.skip (y := "name") (q := .str t) (by decide)
        have k6 : Lk ((("name", .str t) : Str × PV) :: m5) "name" (.str t) := rfl
        generalize ((("name", .str t) : Str × PV) :: m5) = m6 at k1 k2 k3 k5 k6 ⊢
        refine EX.next (E1.assign (EV.ifexp (ET.cmp (EV.local_ O4 rfl k5 (EV.tuple_ (EVs.consts (.str (.str .nil)) ⟨["hole", "link"], rfl, nofun, fun w9 => EV.list_ (fun l hl => AT.local O4 rfl ⟨rfl, ?_⟩)⟩))))))
        have hb7 := binAt_ext (Ext.new (o := .list []) hl) hb6
        have X7 := X6.trans (Ext.new (o := .list []) hl).mns
        have gl7 := Ext.new (o := .list []) hl _ _ gl6
        have hlr : l ≠ rl := ne_of_none hl gl6
        have hlb : l ≠ bn := fun z => by obtain ⟨_, _, h, _⟩ := hb6; rw [← z, hl] at h; cases h
        have gv : mns (upd H5 l (.list [])) [bn] l = some (.list (([] : List Vl).map Vl.pv)) := by rw [mns_at (by simpa using hlb)]; exact upd_self
        generalize upd H5 l (.list []) = H7 at hb7 X7 gl7 gv ⊢
        have k1 := k1.skip (y := "values") (q := .ref l) (by decide)
        have k2 := k2.skip (y := "values") (q := .ref l) (by decide)
        have k3 := k3.skip (y := "values") (q := .ref l) (by decide)
        have k5 := k5.skip (y := "values") (q := .ref l) (by decide)
        have k6 := k6.skip (y := "values") (q := .ref l) (by decide)
        have k7 : Lk ((("values", .ref l) : Str × PV) :: m6) "values" (.ref l) := rfl
        generalize ((("values", .ref l) : Str × PV) :: m6) = m7 at k1 k2 k3 k5 k6 k7 ⊢
        refine EX.ite (ET.cmp (EV.local_ O4 rfl k5 (EV.str_ ⟨nofun, fun w9 => Then.go ?_⟩)))
        refine EX.next (E1.expr O4 (EV.append (EV.local_ O4 rfl k3 ⟨rl, rfl, ⟨_, gl7⟩, EV.tuple_ (EV.local_ O4 rfl k5 (EV.ifexp (ET.cmp (EV.local_ O4 rfl k5 (EV.tuple_ (EVs.consts (.str (.str .nil)) ⟨["hole", "plain"], rfl, fun w9 => EV.str_ (EV.local_ O4 rfl k7 ⟨_, gl7, by rw [hpl, sizeLine_eq]; lia, rfl, EX.nil ?_⟩), nofun⟩))))))⟩)))
        exact u.nx (fin .ho l _ _ ⟨by show 0 ≤ 3; decide, (fun v h => by cases h), (fun s h => by cases h; decide +kernel), (fun b h => by cases h), nofun⟩ k1 k2 k3 hb7 X7 gl7 hlr gv)
      · -- plain
        refine EX.next (E1.assign (EV.ifexp (ET.cmp (EV.local_ O4 rfl k5 (EV.tuple_ (EVs.consts (.str (.str .nil)) ⟨["partial", "link"], rfl, nofun, fun w9 => ?_⟩))))))
        refine EV.bin (EV.str_ (EV.bcall O4 GG rfl kb_str rfl (.inl ⟨_, rfl⟩) (EV.bin (EV.local_ O4 rfl k4 (EV.int_ ⟨by decide, BCall.str_int hat.1 ⟨hat.2.1, AT.local O4 rfl ⟨rfl, ?_⟩⟩⟩)))))
        have hb6 := hb5
        have X6 := Ext.refl (mns H5 [bn])
        have gl6 := gl5
        have htk := hat.2.2
        generalize (("k" : Str) ++ Str.ofString (toString (((k : Nat) : Int) % 4))) = t at htk ⊢
        have k1 := k1.skip (y := "name") (q := .str t) (by decide)
        have k2 := k2.skip (y := "name") (q := .str t) (by decide)
        have k3 := k3.skip (y := "name") (q := .str t) (by decide)
        have k5 := k5.skip (y := "name") (q := .str t) (by decide)
        have k6 : Lk ((("name", .str t) : Str × PV) :: m5) "name" (.str t) := rfl
        generalize ((("name", .str t) : Str × PV) :: m5) = m6 at k1 k2 k3 k5 k6 ⊢
        refine EX.next (E1.assign (EV.ifexp (ET.cmp (EV.local_ O4 rfl k5 (EV.tuple_ (EVs.consts (.str (.str .nil)) ⟨["hole", "link"], rfl, fun w9 => EV.call O4 GG (EV.global_ O4 GG rfl kn_law_values ⟨337, rfl, kk_337, EV.local_ O4 rfl k1 (EV.local_ O4 rfl k2 ?_)⟩), nofun⟩))))))
        refine c_law_values (n := n) GG hb6 hm (by lia) fun l vs H7 hl hb7 x7 gv hvl hvg => AT.local O4 rfl ⟨rfl, ?_⟩
        have X7 := X6.trans x7
        have hlr : l ≠ rl := ne_of_none hl gl6
        have gl7 : H7 rl = some (.list ps) := mns_sub _ _ (x7 _ _ (by rw [mns_at (by simpa using hrb)]; exact gl6))
        have k1 := k1.skip (y := "values") (q := .ref l) (by decide)
        have k2 := k2.skip (y := "values") (q := .ref l) (by decide)
        have k3 := k3.skip (y := "values") (q := .ref l) (by decide)
        have k5 := k5.skip (y := "values") (q := .ref l) (by decide)
        have k6 := k6.skip (y := "values") (q := .ref l) (by decide)
        have k7 : Lk ((("values", .ref l) : Str × PV) :: m6) "values" (.ref l) := rfl
        generalize ((("values", .ref l) : Str × PV) :: m6) = m7 at k1 k2 k3 k5 k6 k7 ⊢
        have hrd : ∀ p ∈ vs.map Vl.pv, ∃ dd, rd H7 59 p = some dd := fun p hp => by
          obtain ⟨v, hv, rfl⟩ := List.mem_map.mp hp
          exact ⟨_, rd_vl (n := 57) fun s hs => by have := hvg v hv; rw [hs] at this; exact this⟩
        refine EX.midG (J := fun m' H' => Ex2 fun l v => C12 (Lk m' "bin_now" (.ref bn)) (Lk m' "many" (.int (many : Nat))) (Lk m' "rows" (.ref rl)) (Lk m' "kind" (.str "plain")) (Lk m' "name" (.str t)) (Lk m' "values" (.ref l)) (BinAt H' bn) (Ext (mns H5 [bn]) (mns H' [bn])) (H' rl = some (.list ps)) (l ≠ rl) (GoodV many v) (mns H' [bn] l = some (.list [Vl.pv v]))) (fun G up => E1.ite (ET.cmp (EV.local_ O4 rfl k5 (EV.str_ ⟨fun w9 => EX.next (E1.assign (EV.ifexp (ET.notNil O4 rfl k7 (mns_sub _ _ gv) hrd fun b hb => ?_))), nofun⟩)))) ?_
        · have hb8 := binAt_ext (Ext.new (o := .list []) hb) hb7
          have x8 := (Ext.new (o := .list []) hb : Ext H7 _)
          have gl8 := x8 _ _ gl7
          have gv8 := x8.mns (S := [bn]) _ _ gv
          generalize upd H7 b (.list []) = H8 at hb8 x8 gl8 gv8 ⊢
          have X8 := X7.trans x8.mns
          have newL : ∀ {l2 : Addr} {v : Vl}, H8 l2 = none → l2 ≠ rl ∧ mns (upd H8 l2 (.list [v.pv])) [bn] l2 = some (.list [v.pv]) := fun {l2 v} h => ⟨ne_of_none h gl8, by
            have : l2 ≠ bn := fun z => by obtain ⟨_, _, h', _⟩ := hb8; rw [← z, h] at h'; cases h'
            rw [mns_at (by simpa using this)]; exact upd_self⟩
          refine ⟨fun hv => ?_, fun hv => ?_⟩
          · obtain ⟨v, r, rfl⟩ : ∃ v r, vs = v :: r := by
              cases vs with
              | nil => exact absurd (of_decide_eq_true hv) (fun h => h rfl)
              | cons v r => exact ⟨v, r, rfl⟩
            refine EV.slice (k := 1) (by decide) (EV.local_ O4 rfl k7 ⟨l, _, rfl, mns_sub _ _ gv8, by rw [List.length_map, List.length_cons]; lia, by rw [List.length_map, sizeLine_eq]; lia, fun l2 hl2 => AT.local O4 rfl ⟨rfl, EX.nil ⟨rfl, up ⟨l2, v, k1.skip (by decide), k2.skip (by decide), k3.skip (by decide), k5.skip (by decide), k6.skip (by decide), rfl, binAt_ext (Ext.new hl2) hb8, X8.trans (Ext.new hl2).mns, Ext.new hl2 _ _ gl8, (newL (v := v) hl2).1, hvg v List.mem_cons_self, ?_⟩⟩⟩⟩)
            exact (newL (v := v) hl2).2
          · refine EV.list_ (EV.tuple_ (EV.str_ (EV.str_ (fun l2 hl2 => AT.local O4 rfl ⟨rfl, EX.nil ⟨rfl, up ⟨l2, .char "z", k1.skip (by decide), k2.skip (by decide), k3.skip (by decide), k5.skip (by decide), k6.skip (by decide), rfl, binAt_ext (Ext.new hl2) hb8, X8.trans (Ext.new hl2).mns, Ext.new hl2 _ _ gl8, (newL (v := .char "z") hl2).1, by show PyData.strOk "z" = true; decide +kernel, ?_⟩⟩⟩))))
            exact (newL (v := .char "z") hl2).2
        rintro m8 H8 ⟨l, v, k1, k2, k3, k5, k6, k7, hb7, X7, gl7, hlr, gvv, gv⟩
        refine EX.next (E1.expr O4 (EV.append (EV.local_ O4 rfl k3 ⟨rl, rfl, ⟨_, gl7⟩, EV.tuple_ (EV.local_ O4 rfl k5 (EV.ifexp (ET.cmp (EV.local_ O4 rfl k5 (EV.tuple_ (EVs.consts (.str (.str .nil)) ⟨["hole", "plain"], rfl, fun w9 => EV.str_ (EV.local_ O4 rfl k7 ⟨_, gl7, by rw [hpl, sizeLine_eq]; lia, rfl, EX.nil ?_⟩), nofun⟩))))))⟩)))
        exact u.nx (fin (.pl v) l _ _ ⟨by show 1 ≤ 3; decide, (fun v' h => by rw [List.mem_singleton.mp h]; exact gvv), (fun s h => by cases h; decide +kernel), (fun b h => by cases h), nofun⟩ k1 k2 k3 hb7 X7 gl7 hlr gv)
      · -- link
        refine EX.next (E1.assign (EV.ifexp (ET.cmp (EV.local_ O4 rfl k5 (EV.tuple_ (EVs.consts (.str (.str .nil)) ⟨["partial", "link"], rfl, fun w9 => ?_, nofun⟩))))))
        refine EV.call O4 GG (EV.global_ O4 GG rfl kn_law_dip ⟨330, rfl, kk_330, EV.local_ O4 rfl k1 (EV.local_ O4 rfl k2 ?_)⟩)
        refine c_dip (n := n + 1) GG hb5 hm (by lia) fun z a b hz hbo => AT.local O4 rfl ⟨rfl, ?_⟩
        have hb6 : BinAt (upd H5 bn (.list [.int a, .int b])) bn := ⟨a, b, upd_self, hbo⟩
        have X6 : Ext (mns H5 [bn]) (mns (upd H5 bn (.list [.int a, .int b])) [bn]) := by rw [cut]; exact Ext.refl _
        have gl6 : upd H5 bn (.list [.int a, .int b]) rl = some (.list ps) := (upd_ne hrb).trans gl5
        generalize upd H5 bn (.list [.int a, .int b]) = H6 at hb6 X6 gl6 ⊢
        have k1 := k1.skip (y := "name") (q := .int (z : Nat)) (by decide)
        have k2 := k2.skip (y := "name") (q := .int (z : Nat)) (by decide)
        have k3 := k3.skip (y := "name") (q := .int (z : Nat)) (by decide)
        have k5 := k5.skip (y := "name") (q := .int (z : Nat)) (by decide)
        have k6 : Lk ((("name", .int (z : Nat)) : Str × PV) :: m5) "name" (.int (z : Nat)) := rfl
        generalize ((("name", .int (z : Nat)) : Str × PV) :: m5) = m6 at k1 k2 k3 k5 k6 ⊢
        refine EX.next (E1.assign (EV.ifexp (ET.cmp (EV.local_ O4 rfl k5 (EV.tuple_ (EVs.consts (.str (.str .nil)) ⟨["hole", "link"], rfl, nofun, fun w9 => EV.list_ (fun l hl => AT.local O4 rfl ⟨rfl, ?_⟩)⟩))))))
        have hb7 := binAt_ext (Ext.new (o := .list []) hl) hb6
        have X7 := X6.trans (Ext.new (o := .list []) hl).mns
        have gl7 := Ext.new (o := .list []) hl _ _ gl6
        have hlr : l ≠ rl := ne_of_none hl gl6
        have hlb : l ≠ bn := fun z => by obtain ⟨_, _, h, _⟩ := hb6; rw [← z, hl] at h; cases h
        have gv : mns (upd H6 l (.list [])) [bn] l = some (.list (([] : List Vl).map Vl.pv)) := by rw [mns_at (by simpa using hlb)]; exact upd_self
        generalize upd H6 l (.list []) = H7 at hb7 X7 gl7 gv ⊢
        have k1 := k1.skip (y := "values") (q := .ref l) (by decide)
        have k2 := k2.skip (y := "values") (q := .ref l) (by decide)
        have k3 := k3.skip (y := "values") (q := .ref l) (by decide)
        have k5 := k5.skip (y := "values") (q := .ref l) (by decide)
        have k6 := k6.skip (y := "values") (q := .ref l) (by decide)
        have k7 : Lk ((("values", .ref l) : Str × PV) :: m6) "values" (.ref l) := rfl
        generalize ((("values", .ref l) : Str × PV) :: m6) = m7 at k1 k2 k3 k5 k6 k7 ⊢
        refine EX.ite (ET.cmp (EV.local_ O4 rfl k5 (EV.str_ ⟨nofun, fun w9 => Then.go ?_⟩)))
        refine EX.next (E1.expr O4 (EV.append (EV.local_ O4 rfl k3 ⟨rl, rfl, ⟨_, gl7⟩, EV.tuple_ (EV.local_ O4 rfl k5 (EV.ifexp (ET.cmp (EV.local_ O4 rfl k5 (EV.tuple_ (EVs.consts (.str (.str .nil)) ⟨["hole", "plain"], rfl, nofun, fun w9 => EV.local_ O4 rfl k6 (EV.local_ O4 rfl k7 ⟨_, gl7, by rw [hpl, sizeLine_eq]; lia, rfl, EX.nil ?_⟩)⟩))))))⟩)))
        exact u.nx (fin (.li z) l _ _ ⟨by show 0 ≤ 3; decide, (fun v h => by cases h), nofun, (fun b h => by cases h), (fun b h => by cases h; exact hz)⟩ k1 k2 k3 hb7 X7 gl7 hlr gv)
    · rintro m' H4 ⟨ps, cs, k1, k2, k3, hb4, X4, gl4, a4, hck, hcg⟩
      have hu : (upTo (many : Nat)).length = many := by unfold upTo; rw [List.length_map, List.length_range, Int.toNat_natCast]
      rw [hu] at hck
      exact ⟨rfl, up ⟨k3, ps, cs, hb4, X4, gl4, a4, hck, hcg⟩⟩
  · rintro m' H4 ⟨k3, ps, cs, hb4, X4, gl4, a4, hck, hcg⟩
    refine EX.ret (EV.local_ O rfl k3 (q rl cs H4 hb4 X4 ⟨ps, by rw [mns_at (by simpa using hrb)]; exact gl4, a4.mono fun _ _ z => z.ext mns_sub⟩ (by lia) (by lia) (by rw [hck]; exact hcg)))
end
end Mine

namespace Mine
theorem kn_law {P : Params} : nsIn (HD.kK P) mainGlobals "law" = some (some (.ref 397)) := by kernel_rfl
theorem kk_397 {P : Params} : calleeOk (HD.kK P) 397 = true := by kernel_rfl

theorem RowsAt.updC {H : AH} {rl c : Addr} {cs : List Cl} {o : Option PV} {x : AO} (r : RowsAt H rl cs) (h : H c = some (.cell o)) : RowsAt (upd H c x) rl cs := by
  obtain ⟨ps, h1, h2⟩ := r.ex
  have ne : ∀ {z l}, H z = some (.list l) → z ≠ c := fun e q => by rw [q, h] at e; cases e
  exact ⟨ps, (upd_ne (ne h1)).trans h1, h2.mono fun p c' ⟨l, e1, e2⟩ => ⟨l, e1, (upd_ne (ne e2)).trans e2⟩⟩

theorem sw_list {t : Expr} {es : List Expr} {p : Pos} {l : Nat} {env : Env} : swapsWithSole [t] (.List es p) l env = pure false := rfl
theorem ss_list {x : Str} {px : Pos} {es : List Expr} {p : Pos} {env : Env} : swappedStores [.Name x px] (.List es p) env = pure none := rfl
theorem as_name {x : Str} {px : Pos} {env : Env} : (assignEach [.Name x px] env).map (·.2) = [PySem.assign (.Name x px) env] := rfl
theorem E1.assignList {X : FX} {m : Loc} {H : AH} {E : Loc → AH → Prop} {x : Str} {px : Pos} {es : List Expr} {p pos : Pos} {Q : PF → Loc → AH → Prop} (h : EV X (.List es p) m H (fun p m1 H1 => AT X (.Name x px) p m1 H1 (fun m2 H2 => Q .next m2 H2) E) E) : E1 X (.Assign [.Name x px] (.List es p) pos) m H Q E :=
  E1.assign h sw_list ss_list as_name

/-- a list that stands in the base -/
theorem BCall.len_base {X : FX} {H : AH} {a : Addr} {vs : List Value} {ns : List Int} {Q : PV → AH → Prop} (hv : X.G.base.IsList a vs.toArray) (hI : IntsAre vs ns) (hz : ns.length ≤ 1000) (q : Q (.int (ns.length : Nat)) H) : BCall X (.builtin "len") [.ref a] H Q := fun m h tk ws Q' E' R V k => by
  obtain ⟨v, ws, rfl, V1, V2⟩ := V.inv_cons
  obtain rfl := V2.inv_nil
  obtain rfl := V1.inv_ref
  have e : vs.toArray.size = ns.length := by rw [List.size_toArray, hI.length]
  refine PyProof.Rows.len_list (stays_list R.r.stays hv) (by rw [e]; lia) ?_
  rw [e]
  exact k h (tk + 1 + 1) _ _ _ R (.refl _) (.refl _) VR.int q
theorem EV.subBase {X : FX} {m : Loc} {H : AH} {E : Loc → AH → Prop} {value slice : Expr} {pos : Pos} {Q : PV → Loc → AH → Prop} (x : EV X value m H (fun po m1 H1 => EV X slice m1 H1 (fun pi m2 H2 => ∃ a vs ns, ∃ k : Nat, po = .ref a ∧ pi = .int (k : Nat) ∧ X.G.base.IsList a vs.toArray ∧ IntsAre vs ns ∧ k < ns.length ∧ k < 1000 ∧ Q (.int (ns.getD k 0)) m2 H2) E) E)
    (hs : ∀ o i, ∃ ops, subscripted slice false o i = operate ops (getItem o i) := by intro o i; exact ⟨_, rfl⟩) : EV X (.Subscript value slice pos) m H Q E := fun h tk R => by
  refine Subscript_ (x.run R (.refl _) (.refl _) fun h1 tk1 ov po m1 H1 R1 P1 P1' K1 V1 q1 => ?_)
  refine q1.run R1 P1' K1 fun h2 tk2 iv pi m2 H2 R2 P2 P2' K2 V2 q2 => ?_
  obtain ⟨a, vs, ns, k, rfl, rfl, ha, hI, hk, hk2, q⟩ := q2
  obtain ⟨ops, hops⟩ := hs ov iv
  obtain rfl := V1.inv_ref
  obtain ⟨t, rfl⟩ := V2.inv_int
  have hl := stays_list R2.r.stays ha
  exact tail_any hl.typeIs slot_list_getitem.lookup (getItem_intsK hl hI (by lia) (by lia) (by lia) fun t' => OKP.at (tk' := tk2) (Q := fun h' v m' H' => ∃ p, VR h' v p ∧ Q p m' H') R2 P2' K2 ⟨_, VR.int, by rw [Int.toNat_natCast]; exact q⟩) hops

section
variable {Z : Zs} {n : Nat} {nn : Bool} {H : AH} {Q : PV → AH → Prop} {E : AH → Prop}

theorem c_rightG {rl ra : Addr} {cs : List Cl} {rs : List Nat} {many : Nat} (GG : (gl Z).Ok) (rows : RowsAt H rl cs) (hra : H ra = some (.list (nats rs))) (hcl : cs.length ≤ 9) (hm : many ≤ 900) (gd : ∀ c ∈ cs, GoodC many c)
    (hrs : ∀ x ∈ rs, x < 1000) (hrn : rs.length ≤ 1000) (hne : rs ≠ []) (q : ∀ H', Ext H H' → Q (.bool true) H') : CallL (gl Z) (n + 14) true 392 [.ref rl, .ref ra] H Q E := by
  refine c_right GG rows hra (by lia) ⟨by lia, fun a b h => ?_, fun a c b h hb => ?_⟩ (fun c hc => Nat.le_trans (gd c hc).1 (by decide)) (fun c hc => ⟨fun s hs => (gd c hc).2.1 _ hs, (gd c hc).2.2.1⟩) hrs hrn hne q
  · have := (gd _ (List.mem_iff_getElem?.mpr ⟨a, h⟩)).2.2.2.2 b rfl
    lia
  · have G := gd _ (List.mem_iff_getElem?.mpr ⟨a, h⟩)
    rcases List.mem_append.mp (mem_succs.mp hb) with z | z
    · have : b < many := G.2.1 _ (mem_ats.mp z)
      lia
    · have := G.2.2.2.1 b z
      lia

theorem good_ho {many} : GoodC many .ho := ⟨by show 0 ≤ 3; decide, (fun v h => by cases h), (fun s h => by cases h; decide +kernel), (fun b h => by cases h), nofun⟩
theorem good_li {many b} (h : b < many) : GoodC many (.li b) := ⟨by show 0 ≤ 3; decide, (fun v h => by cases h), nofun, (fun b h => by cases h), (fun b' e => by cases e; exact h)⟩
theorem good_da {many} {k : Str} {v : Vl} (hk : PyData.strOk k = true) (h : GoodV many v) : GoodC many (.da k [v]) := ⟨by show 1 ≤ 3; decide, (fun v' h' => by rw [List.mem_singleton.mp h']; exact h), (fun s e => by cases e; exact hk), (fun b h => by cases h), nofun⟩
theorem good_pl {many} {v : Vl} (h : GoodV many v) : GoodC many (.pl v) := ⟨by show 1 ≤ 3; decide, (fun v' h' => by rw [List.mem_singleton.mp h']; exact h), (fun s e => by cases e; decide +kernel), (fun b h => by cases h), nofun⟩

theorem c_binB {sc : Addr} {vs : List Value} {ns : List Int} {turn : Nat} (GG : (gl Z).Ok) (hsc : Z.base.IsList sc vs.toArray) (hI : IntsAre vs ns) (hl : ns.length ≤ 63) (ht : turn ≤ 1) (q : ∀ bn a b, H bn = none → BinOk a b → Q (.ref bn) (upd H bn (.list [.int a, .int b]))) :
    CallL (gl Z) (n + 1) nn 323 [.ref sc, .int (turn : Nat)] H Q E := by
  refine CallL.intro GG (by rfl) (by kernel_rfl) ["script", "turn"] (len2 fun w9 w9 => rfl) (by decide) (by decide) (by decide) rfl rfl rfl rfl fun V O => ?_
  refine EX.mid (J := fun m' H' => H' = H ∧ ∃ c : Int, Lk m' "can" (.int c) ∧ Lk m' "turn" (.int (turn : Nat))) (E1.assign (EV.ifexp (ET.cmp (EV.local_ O rfl rfl (EV.bcall O GG rfl kb_len rfl (.inr ⟨_, rfl⟩) (EV.local_ O rfl rfl (BCall.len_base hsc hI (by lia) ?_))))))) ?_
  · refine ⟨fun hb => ?_, fun w9 => EV.int_ (AT.local O rfl ⟨rfl, rfl, 0, rfl, rfl⟩)⟩
    have hlt : turn < ns.length := by have := of_decide_eq_true hb; lia
    exact EV.subBase (EV.local_ O rfl rfl (EV.local_ O rfl rfl ⟨sc, vs, ns, turn, rfl, rfl, hsc, hI, hlt, by lia, AT.local O rfl ⟨rfl, rfl, _, rfl, rfl⟩⟩))
  rintro m1 H1 ⟨rfl, c, k1, k2⟩
  refine EX.mid (J := fun m' H' => H' = H1 ∧ ∃ f : Int, Lk m' "full" (.int f) ∧ 0 ≤ f ∧ Lk m' "turn" (.int (turn : Nat))) (E1.assign (EV.ifexp (ET.cmp (EV.local_ O rfl k1 (EV.int_ ⟨fun hb => EV.local_ O rfl k1 (AT.local O rfl ⟨rfl, rfl, c, rfl, of_decide_eq_true hb, k2.skip (by decide)⟩), fun hb => EV.bin (EV.int_ (EV.local_ O rfl k1 (AT.local O rfl ⟨rfl, rfl, 11 - c, rfl, by have := of_decide_eq_false hb; lia, k2.skip (by decide)⟩)))⟩))))) ?_
  rintro m2 H2 ⟨rfl, f, k1, hf, k2⟩
  refine EX.ret (EV.list_ (EV.ifexp (ET.cmp (EV.local_ O rfl k1 (EV.bin (EV.int_ (EV.int_ ⟨⟨by decide, by decide, by decide, by decide⟩, ?_⟩)))))))
  have hm := Int.emod_nonneg f (b := 999773) (by decide)
  have hm2 := Int.emod_lt_of_pos f (b := 999773) (by decide)
  have hx := Int.emod_nonneg (f % 999773 * 307 + 113 * (turn : Nat) + 47) (b := 65327) (by decide)
  have hx2 := Int.emod_lt_of_pos (f % 999773 * 307 + 113 * (turn : Nat) + 47) (b := 65327) (by decide)
  refine ⟨fun w9 => EV.local_ O rfl k1 ?_, fun w9 => EV.int_ ?_⟩
  · exact EV.bin (EV.bin (EV.bin (EV.bin (EV.bin (EV.local_ O rfl k1 (EV.int_ ⟨by decide, EV.int_ ⟨.inl ⟨by lia, by lia⟩, EV.bin (EV.int_ (EV.local_ O rfl k2 ⟨.inl ⟨by decide, by decide⟩, EV.int_ (EV.int_ ⟨by decide, fun bn hbn => q bn f _ hbn ⟨hf, hx, hx2⟩⟩)⟩))⟩⟩))))))
  · exact EV.bin (EV.bin (EV.bin (EV.bin (EV.bin (EV.local_ O rfl k1 (EV.int_ ⟨by decide, EV.int_ ⟨.inl ⟨by lia, by lia⟩, EV.bin (EV.int_ (EV.local_ O rfl k2 ⟨.inl ⟨by decide, by decide⟩, EV.int_ (EV.int_ ⟨by decide, fun bn hbn => q bn 0 _ hbn ⟨Int.le_refl 0, hx, hx2⟩⟩)⟩))⟩⟩))))))

theorem c_law {sc : Addr} {vs : List Value} {ns : List Int} (GG : (gl Z).Ok) (hsc : Z.base.IsList sc vs.toArray) (hI : IntsAre vs ns) (hl : ns.length ≤ 63) (q : ∀ H', Q (.bool true) H') :
    CallL (gl Z) (n + 15) true 397 [.ref sc] H Q E := by
  refine CallL.introC GG (by rfl) (by kernel_rfl) ["script"] (len1 fun w9 => rfl)
    (fun n x hx => by simp only [List.mem_cons, List.not_mem_nil, or_false] at hx; subst hx; exact .inl rfl) (by decide)
    (fun n => by show (["rows", "bin_now"] : List Str).Nodup; decide) (fun n x hx => by
      have hx : x ∈ [(("rows" : Str), n + 1), ("bin_now", n)] := hx
      simp only [List.mem_cons, List.not_mem_nil, or_false] at hx
      rcases hx with rfl | rfl <;> rfl) rfl rfl rfl rfl fun V O hcn => ?_
  have hc1 : H (V.L + 1) = none := hcn ("bin_now", V.L + 1) (by show _ ∈ [(("rows" : Str), V.L + 2), ("bin_now", V.L + 1)]; simp)
  have hc2 : H (V.L + 2) = none := hcn ("rows", V.L + 2) (by show _ ∈ [(("rows" : Str), V.L + 2), ("bin_now", V.L + 1)]; simp)
  change EX _ _ _ (upd (upd H (V.L + 1) (.cell none)) (V.L + 2) (.cell none)) _ _
  have ne12 : (V.L + 1 : Nat) ≠ V.L + 2 := fun z => Nat.succ_ne_self V.L (Nat.succ.inj z).symm
  have X1 : Ext H (upd (upd H (V.L + 1) (.cell none)) (V.L + 2) (.cell none)) := ((Ext.refl H).upd hc1).upd hc2
  have d1 : upd (upd H (V.L + 1) (.cell none)) (V.L + 2) (.cell none) (V.L + 1) = some (.cell none) := (upd_ne ne12).trans upd_self
  have d2 : upd (upd H (V.L + 1) (.cell none)) (V.L + 2) (.cell none) (V.L + 2) = some (.cell none) := upd_self
  generalize upd (upd H (V.L + 1) (.cell none)) (V.L + 2) (.cell none) = H1 at X1 d1 d2 ⊢

  refine EX.next ?_
  refine E1.assignList ?_
  refine EV.list_ ?_
  refine EV.tuple_ ?_
  refine EV.str_ ?_
  refine EV.int_ ?_
  refine EV.list_ ?_
  refine (fun la0 na0 => ?_)
  refine ?_
  refine EV.tuple_ ?_
  refine EV.str_ ?_
  refine EV.int_ ?_
  refine EV.list_ ?_
  refine (fun la1 na1 => ?_)
  refine ?_
  refine EV.tuple_ ?_
  refine EV.str_ ?_
  refine EV.str_ ?_
  refine EV.list_ ?_
  refine EV.tuple_ ?_
  refine EV.str_ ?_
  refine EV.int_ ?_
  refine ?_
  refine (fun la2 na2 => ?_)
  refine ?_
  refine EV.tuple_ ?_
  refine EV.str_ ?_
  refine EV.str_ ?_
  refine EV.list_ ?_
  refine EV.tuple_ ?_
  refine EV.str_ ?_
  refine EV.str_ ?_
  refine ?_
  refine (fun la3 na3 => ?_)
  refine ?_
  refine (fun ra ma => ?_)
  refine AT.local O rfl ⟨rfl, ?_⟩
  have xa := Ext.refl H1
  have xa := xa.trans (Ext.new (o := .list []) na0)
  have ga0 : (upd H1 la0 (.list [])) la0 = some (.list []) := upd_self
  generalize (upd H1 la0 (.list [])) = H1a0 at xa ga0 na1 na2 na3 ma  ⊢
  have xa := xa.trans (Ext.new (o := .list []) na1)
  have ga1 : (upd H1a0 la1 (.list [])) la1 = some (.list []) := upd_self
  have ga0 := Ext.new (o := .list []) na1 _ _ ga0
  generalize (upd H1a0 la1 (.list [])) = H1a1 at xa ga0 ga1 na2 na3 ma  ⊢
  have xa := xa.trans (Ext.new (o := .list [.tup [.str "at", .int 1]]) na2)
  have ga2 : (upd H1a1 la2 (.list [.tup [.str "at", .int 1]])) la2 = some (.list [.tup [.str "at", .int 1]]) := upd_self
  have ga0 := Ext.new (o := .list [.tup [.str "at", .int 1]]) na2 _ _ ga0
  have ga1 := Ext.new (o := .list [.tup [.str "at", .int 1]]) na2 _ _ ga1
  generalize (upd H1a1 la2 (.list [.tup [.str "at", .int 1]])) = H1a2 at xa ga0 ga1 ga2 na3 ma  ⊢
  have xa := xa.trans (Ext.new (o := .list [.tup [.str "char", .str "q"]]) na3)
  have ga3 : (upd H1a2 la3 (.list [.tup [.str "char", .str "q"]])) la3 = some (.list [.tup [.str "char", .str "q"]]) := upd_self
  have ga0 := Ext.new (o := .list [.tup [.str "char", .str "q"]]) na3 _ _ ga0
  have ga1 := Ext.new (o := .list [.tup [.str "char", .str "q"]]) na3 _ _ ga1
  have ga2 := Ext.new (o := .list [.tup [.str "char", .str "q"]]) na3 _ _ ga2
  generalize (upd H1a2 la3 (.list [.tup [.str "char", .str "q"]])) = H1a3 at xa ga0 ga1 ga2 ga3  ma  ⊢
  have xa := xa.trans (Ext.new (o := .list [.tup [.str "link", .int 1, .ref la0], .tup [.str "link", .int 0, .ref la1], .tup [.str "data", .str "k", .ref la2], .tup [.str "plain", .str "", .ref la3]]) ma)
  have ea : upd H1a3 ra (.list [.tup [.str "link", .int 1, .ref la0], .tup [.str "link", .int 0, .ref la1], .tup [.str "data", .str "k", .ref la2], .tup [.str "plain", .str "", .ref la3]]) ra = some (.list [.tup [.str "link", .int 1, .ref la0], .tup [.str "link", .int 0, .ref la1], .tup [.str "data", .str "k", .ref la2], .tup [.str "plain", .str "", .ref la3]]) := upd_self
  have ga0 := Ext.new (o := .list [.tup [.str "link", .int 1, .ref la0], .tup [.str "link", .int 0, .ref la1], .tup [.str "data", .str "k", .ref la2], .tup [.str "plain", .str "", .ref la3]]) ma _ _ ga0
  have ga1 := Ext.new (o := .list [.tup [.str "link", .int 1, .ref la0], .tup [.str "link", .int 0, .ref la1], .tup [.str "data", .str "k", .ref la2], .tup [.str "plain", .str "", .ref la3]]) ma _ _ ga1
  have ga2 := Ext.new (o := .list [.tup [.str "link", .int 1, .ref la0], .tup [.str "link", .int 0, .ref la1], .tup [.str "data", .str "k", .ref la2], .tup [.str "plain", .str "", .ref la3]]) ma _ _ ga2
  have ga3 := Ext.new (o := .list [.tup [.str "link", .int 1, .ref la0], .tup [.str "link", .int 0, .ref la1], .tup [.str "data", .str "k", .ref la2], .tup [.str "plain", .str "", .ref la3]]) ma _ _ ga3
  generalize upd H1a3 ra (.list [.tup [.str "link", .int 1, .ref la0], .tup [.str "link", .int 0, .ref la1], .tup [.str "data", .str "k", .ref la2], .tup [.str "plain", .str "", .ref la3]]) = H2 at xa ga0 ga1 ga2 ga3 ea  ⊢
  have rwa : RowsAt H2 ra [.li 1, .li 0, .da "k" [.at 1], .pl (.char "q")] := ⟨_, ea, .cons ⟨la0, rfl, ga0⟩ (.cons ⟨la1, rfl, ga1⟩ (.cons ⟨la2, rfl, ga2⟩ (.cons ⟨la3, rfl, ga3⟩ (.nil))))⟩
  have d1 := xa _ _ d1
  have d2 := xa _ _ d2
  generalize hm0 : ((("ring", .ref ra) : Str × PV) :: _) = m0
  have k1 : Lk m0 "ring" (.ref ra) := by rw [← hm0]; rfl
  have k2 : Lk m0 "script" (.ref sc) := by rw [← hm0]; rfl
  clear hm0 X1 xa ea ga0 ga1 ga2 ga3
  have goa : ∀ c ∈ ([.li 1, .li 0, .da "k" [.at 1], .pl (.char "q")] : List Cl), GoodC 10 c := fun c hc => by
    simp only [List.mem_cons, List.not_mem_nil, or_false] at hc
    rcases hc with rfl | rfl | rfl | rfl
    · exact good_li (by decide)
    · exact good_li (by decide)
    · exact good_da (by decide +kernel) (by show _ < _; decide)
    · exact good_pl (by show PyData.strOk _ = true; decide +kernel)
  have gob : ∀ c ∈ ([.ho, .da "k" [.at 0]] : List Cl), GoodC 10 c := fun c hc => by
    simp only [List.mem_cons, List.not_mem_nil, or_false] at hc
    rcases hc with rfl | rfl
    · exact good_ho
    · exact good_da (by decide +kernel) (by show _ < _; decide)
  have goc : ∀ c ∈ ([.da "k" [.at 5]] : List Cl), GoodC 10 c := fun c hc => by
    simp only [List.mem_cons, List.not_mem_nil, or_false] at hc
    subst hc
    · exact good_da (by decide +kernel) (by show _ < _; decide)
  refine EX.ite ?_
  refine ET.not_ ?_
  refine ET.plain ?_
  refine EV.call O GG ?_
  refine EV.global_ O GG rfl kn_law_right ?_
  refine ⟨392, rfl, kk_392, ?_⟩
  refine EV.list_ ?_
  refine EV.tuple_ ?_
  refine EV.str_ ?_
  refine EV.str_ ?_
  refine EV.list_ ?_
  refine (fun lb0 nb0 => ?_)
  refine ?_
  refine EV.tuple_ ?_
  refine EV.str_ ?_
  refine EV.str_ ?_
  refine EV.list_ ?_
  refine EV.tuple_ ?_
  refine EV.str_ ?_
  refine EV.int_ ?_
  refine ?_
  refine (fun lb1 nb1 => ?_)
  refine ?_
  refine (fun rb mb => ?_)
  refine EV.list_ ?_
  refine EV.int_ ?_
  refine (fun rs1 ns1 => ?_)
  have xb := Ext.refl H2
  have xb := xb.trans (Ext.new (o := .list []) nb0)
  have gb0 : (upd H2 lb0 (.list [])) lb0 = some (.list []) := upd_self
  generalize (upd H2 lb0 (.list [])) = H2b0 at xb gb0 nb1 mb ns1 ⊢
  have xb := xb.trans (Ext.new (o := .list [.tup [.str "at", .int 0]]) nb1)
  have gb1 : (upd H2b0 lb1 (.list [.tup [.str "at", .int 0]])) lb1 = some (.list [.tup [.str "at", .int 0]]) := upd_self
  have gb0 := Ext.new (o := .list [.tup [.str "at", .int 0]]) nb1 _ _ gb0
  generalize (upd H2b0 lb1 (.list [.tup [.str "at", .int 0]])) = H2b1 at xb gb0 gb1  mb ns1 ⊢
  have xb := xb.trans (Ext.new (o := .list [.tup [.str "hole", .str "", .ref lb0], .tup [.str "data", .str "k", .ref lb1]]) mb)
  have eb : upd H2b1 rb (.list [.tup [.str "hole", .str "", .ref lb0], .tup [.str "data", .str "k", .ref lb1]]) rb = some (.list [.tup [.str "hole", .str "", .ref lb0], .tup [.str "data", .str "k", .ref lb1]]) := upd_self
  have gb0 := Ext.new (o := .list [.tup [.str "hole", .str "", .ref lb0], .tup [.str "data", .str "k", .ref lb1]]) mb _ _ gb0
  have gb1 := Ext.new (o := .list [.tup [.str "hole", .str "", .ref lb0], .tup [.str "data", .str "k", .ref lb1]]) mb _ _ gb1
  generalize upd H2b1 rb (.list [.tup [.str "hole", .str "", .ref lb0], .tup [.str "data", .str "k", .ref lb1]]) = H3 at xb gb0 gb1 eb ns1 ⊢
  have rwb : RowsAt H3 rb [.ho, .da "k" [.at 0]] := ⟨_, eb, .cons ⟨lb0, rfl, gb0⟩ (.cons ⟨lb1, rfl, gb1⟩ (.nil))⟩
  have xs1 := Ext.new (o := .list [.int 1]) ns1
  have es1 : upd H3 rs1 (.list [.int 1]) rs1 = some (.list (nats [1])) := upd_self
  have xb := xb.trans xs1
  have rwb := rwb.ext xs1
  generalize upd H3 rs1 (.list [.int 1]) = H4 at xb rwb es1 ⊢
  refine c_rightG (n := n) GG rwb es1 (by decide) (by decide) gob (by decide) (by decide) (by decide) fun H5 x5 => ?_
  have x5 := xb.trans x5
  refine ⟨nofun, fun w9 => Then.go ?_⟩
  have d1 := x5 _ _ d1
  have d2 := x5 _ _ d2
  have rwa := rwa.ext x5
  clear x5 xb xs1 es1 rwb gb0 gb1 eb ns1 nb0 nb1 mb ma na0 na1 na2 na3
  refine EX.ite ?_
  refine ET.or_ ?_
  refine ET.not_ ?_
  refine ET.plain ?_
  refine EV.call O GG ?_
  refine EV.global_ O GG rfl kn_law_right ?_
  refine ⟨392, rfl, kk_392, ?_⟩
  refine EV.local_ O rfl k1 ?_
  refine EV.list_ ?_
  refine EV.int_ ?_
  refine (fun rs2 ns2 => ?_)
  have xs2 := Ext.new (o := .list [.int 2]) ns2
  have es2 : upd H5 rs2 (.list [.int 2]) rs2 = some (.list (nats [2])) := upd_self
  have rwa := rwa.ext xs2
  generalize upd H5 rs2 (.list [.int 2]) = H6 at xs2 rwa es2 ⊢
  refine c_rightG (n := n) GG rwa es2 (by decide) (by decide) goa (by decide) (by decide) (by decide) fun H7 x7 => ?_
  refine ⟨fun w9 => ?_, nofun⟩
  have rwa := rwa.ext x7
  have x7 := xs2.trans x7
  refine ET.or_ ?_
  refine ET.not_ ?_
  refine ET.plain ?_
  refine EV.call O GG ?_
  refine EV.global_ O GG rfl kn_law_right ?_
  refine ⟨392, rfl, kk_392, ?_⟩
  refine EV.local_ O rfl k1 ?_
  refine EV.list_ ?_
  refine EV.int_ ?_
  refine EV.int_ ?_
  refine (fun rs3 ns3 => ?_)
  have xs3 := Ext.new (o := .list [.int 3, .int 3]) ns3
  have es3 : upd H7 rs3 (.list [.int 3, .int 3]) rs3 = some (.list (nats [3, 3])) := upd_self
  have rwa := rwa.ext xs3
  generalize upd H7 rs3 (.list [.int 3, .int 3]) = H8 at xs3 rwa es3 ⊢
  refine c_rightG (n := n) GG rwa es3 (by decide) (by decide) goa (by decide) (by decide) (by decide) fun H9 x9 => ?_
  refine ⟨fun w9 => ?_, nofun⟩
  have x9 := (x7.trans xs3).trans x9
  refine ET.or_ ?_
  refine ET.not_ ?_
  refine ET.plain ?_
  refine EV.call O GG ?_
  refine EV.global_ O GG rfl kn_law_right ?_
  refine ⟨392, rfl, kk_392, ?_⟩
  refine EV.list_ ?_
  refine EV.tuple_ ?_
  refine EV.str_ ?_
  refine EV.str_ ?_
  refine EV.list_ ?_
  refine EV.tuple_ ?_
  refine EV.str_ ?_
  refine EV.int_ ?_
  refine ?_
  refine (fun lc0 nc0 => ?_)
  refine ?_
  refine (fun rc mc => ?_)
  refine EV.list_ ?_
  refine EV.int_ ?_
  refine (fun rs4 ns4 => ?_)
  have xc := Ext.refl H9
  have xc := xc.trans (Ext.new (o := .list [.tup [.str "at", .int 5]]) nc0)
  have gc0 : (upd H9 lc0 (.list [.tup [.str "at", .int 5]])) lc0 = some (.list [.tup [.str "at", .int 5]]) := upd_self
  generalize (upd H9 lc0 (.list [.tup [.str "at", .int 5]])) = H9c0 at xc gc0  mc ns4 ⊢
  have xc := xc.trans (Ext.new (o := .list [.tup [.str "data", .str "k", .ref lc0]]) mc)
  have ec : upd H9c0 rc (.list [.tup [.str "data", .str "k", .ref lc0]]) rc = some (.list [.tup [.str "data", .str "k", .ref lc0]]) := upd_self
  have gc0 := Ext.new (o := .list [.tup [.str "data", .str "k", .ref lc0]]) mc _ _ gc0
  generalize upd H9c0 rc (.list [.tup [.str "data", .str "k", .ref lc0]]) = H10 at xc gc0 ec ns4 ⊢
  have rwc : RowsAt H10 rc [.da "k" [.at 5]] := ⟨_, ec, .cons ⟨lc0, rfl, gc0⟩ (.nil)⟩
  have xs4 := Ext.new (o := .list [.int 0]) ns4
  have es4 : upd H10 rs4 (.list [.int 0]) rs4 = some (.list (nats [0])) := upd_self
  have xc := (x9.trans xc).trans xs4
  have rwc := rwc.ext xs4
  generalize upd H10 rs4 (.list [.int 0]) = H11 at xc rwc es4 ⊢
  refine c_rightG (n := n) GG rwc es4 (by decide) (by decide) goc (by decide) (by decide) (by decide) fun H12 x12 => ?_
  refine ⟨fun w9 => ?_, nofun⟩
  refine ET.or_nil ?_
  refine ⟨nofun, fun w9 => Then.go ?_⟩
  have x12 := xc.trans x12
  have d1 := x12 _ _ d1
  have d2 := x12 _ _ d2
  clear x12 xc xs4 es4 rwc gc0 ec ns4 nc0 mc x9 xs3 es3 ns3 x7 xs2 es2 ns2 rwa goa gob goc
  -- the turns
  refine EX.mid2 (fun m' H' => True) (E1.for_ O (EV.bcall O GG rfl kb_range rfl (.inl ⟨_, rfl⟩) (EV.bcall O GG rfl kb_max rfl (.inr ⟨_, rfl⟩) (EV.int_ (EV.bcall O GG rfl kb_min rfl (.inr ⟨_, rfl⟩) (EV.int_ (EV.bcall O GG rfl kb_len rfl (.inr ⟨_, rfl⟩)
    (EV.local_ O rfl k2 (BCall.len_base hsc hI (by lia) (BCall.min2 O rfl (BCall.max2 O rfl (BCall.range fun ra0 ob hra hob => ?_))))))))))) (by intro _; rfl)) ?_
  · obtain ⟨tt, htt, ht2⟩ : ∃ tt : Nat, max 1 (min 2 ((ns.length : Nat) : Int)) = ((tt : Nat) : Int) ∧ tt ≤ 2 := by
      by_cases z : ns.length ≤ 1
      · exact ⟨1, by lia, by decide⟩
      · exact ⟨2, by lia, by decide⟩
    rw [htt] at hob
    have x3 := Ext.new (o := .raw ob) hra
    have g3 : upd H12 ra0 (.raw ob) ra0 = some (.raw ob) := upd_self
    have d1 := x3 _ _ d1
    have d2 := x3 _ _ d2
    generalize upd H12 ra0 (.raw ob) = H13 at x3 g3 d1 d2 ⊢
    refine ⟨upTo (tt : Nat), none, IterOf.range O rfl g3 hob (by lia) (by lia), fun k m' H' => Lk m' "script" (.ref sc) ∧ (∃ o, H' (V.L + 1) = some (.cell o)) ∧ (∃ o, H' (V.L + 2) = some (.cell o)),
      ⟨k2, ⟨_, d1⟩, ⟨_, d2⟩⟩, fun w9 w9 w9 w9 => trivial, ?_, fun w9 w9 w9 => .inl ⟨rfl, trivial⟩⟩
    rintro it o k p m' H4 R u O4 hpk ⟨k1, ⟨o1, d1⟩, ⟨o2, d2⟩⟩
    apply upTo_go hpk; intro hkl
    refine AT.local O4 rfl ?_
    -- bin_now
    refine EX.next (E1.assign (EV.call O4 GG (EV.global_ O4 GG rfl kn_law_bin ⟨323, rfl, kk_323, EV.local_ O4 rfl (k1.skip (by decide)) (EV.local_ O4 rfl rfl ?_)⟩)))
    refine c_binB (n := n + 13) GG hsc hI hl (by lia) fun bn a b hbn hbo => AT.cell O4 rfl rfl (Ext.new hbn _ _ d1) ⟨rfl, ?_⟩
    have hb1 : upd (upd H4 bn (.list [.int a, .int b])) (V.L + 1) (.cell (some (.ref bn))) bn = some (.list [.int a, .int b]) := (upd_ne (ne_of_none hbn d1)).trans upd_self
    have c1 : upd (upd H4 bn (.list [.int a, .int b])) (V.L + 1) (.cell (some (.ref bn))) (V.L + 1) = some (.cell (some (.ref bn))) := upd_self
    have c2 : upd (upd H4 bn (.list [.int a, .int b])) (V.L + 1) (.cell (some (.ref bn))) (V.L + 2) = some (.cell o2) := (upd_ne ne12.symm).trans (Ext.new hbn _ _ d2)
    generalize upd (upd H4 bn (.list [.int a, .int b])) (V.L + 1) (.cell (some (.ref bn))) = H5 at hb1 c1 c2 ⊢
    have hb1 : BinAt H5 bn := ⟨a, b, hb1, hbo⟩
    have hcb1 : (V.L + 1 : Nat) ≠ bn := fun z => by obtain ⟨_, _, h, _⟩ := hb1; rw [← z, c1] at h; cases h
    have hcb2 : (V.L + 2 : Nat) ≠ bn := fun z => by obtain ⟨_, _, h, _⟩ := hb1; rw [← z, c2] at h; cases h
    have k1 : Lk ((("turn", .int (k : Nat)) : Str × PV) :: m') "script" (.ref sc) := k1.skip (by decide)
    generalize ((("turn", .int (k : Nat)) : Str × PV) :: m') = m5 at k1 ⊢
    -- rows
    refine EX.next (E1.assign (EV.call O4 GG (EV.global_ O4 GG rfl kn_law_rows ⟨344, rfl, kk_344, EV.cell_ O4 (.inl rfl) rfl c1 ?_⟩)))
    refine c_law_rows (n := n + 11) GG hb1 fun rl cs H6 hb6 X6 rows6 hc2 hc9 gd => ?_
    have old : ∀ {z o}, z ≠ bn → H5 z = some o → H6 z = some o := fun hz e => mns_sub _ _ (X6 _ _ (by rw [mns_at (by simpa using hz)]; exact e))
    have c1 := old hcb1 c1
    have c2 := old hcb2 c2
    clear old X6
    refine AT.cell O4 rfl rfl c2 ⟨rfl, ?_⟩
    have rows7 : RowsAt (mns (upd H6 (V.L + 2) (.cell (some (.ref rl)))) [bn]) rl cs := by
      rw [mns_out (by simpa using hcb2)]
      exact rows6.updC (o := o2) (by rw [mns_at (by simpa using hcb2)]; exact c2)
    have c1 : upd H6 (V.L + 2) (.cell (some (.ref rl))) (V.L + 1) = some (.cell (some (.ref bn))) := (upd_ne ne12).trans c1
    have hb7 : BinAt (upd H6 (V.L + 2) (.cell (some (.ref rl)))) bn := by obtain ⟨a, b, h1, h2⟩ := hb6; exact ⟨a, b, (upd_ne hcb2.symm).trans h1, h2⟩
    have c2 : upd H6 (V.L + 2) (.cell (some (.ref rl))) (V.L + 2) = some (.cell (some (.ref rl))) := upd_self
    generalize upd H6 (V.L + 2) (.cell (some (.ref rl))) = H7 at rows7 c1 hb7 c2 ⊢
    obtain ⟨ps, hps, hall⟩ := rows7.ex
    have hpl := hall.len
    -- roots
    refine EX.next ?_
    refine E1.assignComp [("rows", V.L + 2), ("bin_now", V.L + 1)] O4 rfl ?_
    refine EV.bcall O4 GG rfl kb_range rfl (.inl ⟨_, rfl⟩) (EV.bin (EV.int_ (EV.call O4 GG (EV.global_ O4 GG rfl kn_law_dip ⟨330, rfl, kk_330, EV.cell_ O4 (.inl rfl) rfl c1 (EV.int_ ?_)⟩))))
    refine c_dip (n := n + 13) (top := 3) GG hb7 (by decide) (by decide) fun r a b hr hbo => ?_
    have keep : ∀ {H' : AH} {bo}, (∃ a b, bo = AO.list [.int a, .int b] ∧ BinOk a b) → BinAt H' bn ∧ H' (V.L + 1) = some (.cell (some (.ref bn))) ∧ H' (V.L + 2) = some (.cell (some (.ref rl))) →
        BinAt (upd H' bn bo) bn ∧ upd H' bn bo (V.L + 1) = some (.cell (some (.ref bn))) ∧ upd H' bn bo (V.L + 2) = some (.cell (some (.ref rl))) := by
      rintro H' _ ⟨a, b, rfl, hbo⟩ ⟨h1, h2, h3⟩
      exact ⟨⟨a, b, upd_self, hbo⟩, (upd_ne hcb1).trans h2, (upd_ne hcb2).trans h3⟩
    have F8 := keep (bo := .list [.int a, .int b]) ⟨a, b, rfl, hbo⟩ ⟨hb7, c1, c2⟩
    have rows8 : RowsAt (mns (upd H7 bn (.list [.int a, .int b])) [bn]) rl cs := by rw [cut]; exact rows7
    generalize upd H7 bn (.list [.int a, .int b]) = H8 at F8 rows8 ⊢
    obtain ⟨many, hmany⟩ : ∃ many, many = 1 + r := ⟨_, rfl⟩
    have em : (1 : Int) + (r : Nat) = ((many : Nat) : Int) := by lia
    show BCall _ _ [.int (1 + (r : Nat))] _ _
    rw [em]
    refine BCall.range fun ra9 ob9 hra9 hob9 => ?_
    have x9 := Ext.new (o := .raw ob9) hra9
    have g9 : upd H8 ra9 (.raw ob9) ra9 = some (.raw ob9) := upd_self
    have F9 : BinAt (upd H8 ra9 (.raw ob9)) bn ∧ upd H8 ra9 (.raw ob9) (V.L + 1) = some (.cell (some (.ref bn))) ∧ upd H8 ra9 (.raw ob9) (V.L + 2) = some (.cell (some (.ref rl))) :=
      ⟨binAt_ext x9 F8.1, x9 _ _ F8.2.1, x9 _ _ F8.2.2⟩
    have rows9 := rows8.ext x9.mns
    generalize upd H8 ra9 (.raw ob9) = H9 at x9 g9 F9 rows9 ⊢
    have hut : (upTo (many : Nat)).length = many := by unfold upTo; rw [List.length_map, List.length_range, Int.toNat_natCast]
    refine ⟨upTo (many : Nat), none, IterOf.range O4 rfl g9 hob9 (by lia) (by lia), by rw [hut, sizeLine_eq]; lia, fun D hD => ⟨fun k acc H' => C4 (H' D = some (.list acc)) ((∃ st, acc = nats st ∧ st.length = k ∧ ∀ x ∈ st, x < cs.length)) ((BinAt H' bn ∧ H' (V.L + 1) = some (.cell (some (.ref bn))) ∧ H' (V.L + 2) = some (.cell (some (.ref rl))))) (RowsAt (mns H' [bn, D]) rl cs), ?_, (fun k acc H' z => ⟨trivial, z.1⟩), ?_, ?_⟩⟩
    · have xD := Ext.new (o := .list []) hD
      refine ⟨upd_self, ⟨[], rfl, rfl, fun x h => by cases h⟩, ⟨binAt_ext xD F9.1, xD _ _ F9.2.1, xD _ _ F9.2.2⟩, ?_⟩
      refine rows9.ext fun z o e => ?_
      obtain ⟨e1, e2⟩ := mns_some e
      have hzD : z ≠ D := fun q => by rw [q, hD] at e2; cases e2
      rw [mns_at (by simp only [List.mem_cons, List.not_mem_nil, or_false, not_or] at e1 ⊢; exact ⟨e1, hzD⟩)]
      exact xD _ _ e2
    · rintro C it o k p acc HA OA hpA ⟨hA, ⟨st, rfl, hk, hst⟩, FA, rA⟩
      have hbD : D ≠ bn := fun z => by obtain ⟨_, _, h, _⟩ := F9.1; rw [← z, hD] at h; cases h
      have hD1 : (V.L + 1 : Nat) ≠ D := fun z => by rw [← z, F9.2.1] at hD; cases hD
      have hD2 : (V.L + 2 : Nat) ≠ D := fun z => by rw [← z, F9.2.2] at hD; cases hD
      obtain ⟨ps2, hps2, hall2⟩ := rA.ex
      refine AT.local OA rfl ⟨fun w9 => ?_, nofun⟩
      refine EV.call OA GG (EV.global_ OA GG rfl kn_law_dip ⟨330, rfl, kk_330, EV.cell_ OA (.inl rfl) rfl FA.2.1 (EV.bcall OA GG rfl kb_len rfl (.inr ⟨_, rfl⟩) (EV.cell_ OA (.inl rfl) rfl FA.2.2 (BCall.len_list (mns_sub _ _ hps2) (by rw [hall2.len, sizeLine_eq]; lia) ?_)))⟩)
      rw [hall2.len]
      refine c_dip (n := n + 13) (top := cs.length) GG FA.1 (by lia) (by lia) fun x a b hx hbo => ?_
      have FB := keep (bo := .list [.int a, .int b]) ⟨a, b, rfl, hbo⟩ FA
      have rB : RowsAt (mns (upd HA bn (.list [.int a, .int b])) [bn, D]) rl cs := by rw [mns_in (by simp)]; exact rA
      have gB : upd HA bn (.list [.int a, .int b]) D = some (.list (nats st)) := (upd_ne hbD).trans hA
      generalize upd HA bn (.list [.int a, .int b]) = HB at FB rB gB ⊢
      refine ⟨gB, upd_self, ⟨st ++ [x], nats_snoc, by rw [List.length_append, hk]; rfl, fun y hy => ?_⟩, ⟨?_, (upd_ne hD1).trans FB.2.1, (upd_ne hD2).trans FB.2.2⟩, by rw [mns_in (by simp)]; exact rB⟩
      · rcases List.mem_append.mp hy with h | h
        · exact hst y h
        · rw [List.mem_singleton.mp h]; exact hx
      · obtain ⟨a, b, h1, h2⟩ := FB.1
        exact ⟨a, b, (upd_ne hbD.symm).trans h1, h2⟩
    rintro acc HA ⟨hA, ⟨st, rfl, hk, hst⟩, FA, rA⟩
    rw [hut] at hk
    refine ⟨rfl, ?_⟩
    have hbD : D ≠ bn := fun z => by obtain ⟨_, _, h, _⟩ := F9.1; rw [← z, hD] at h; cases h
    have hD1 : (V.L + 1 : Nat) ≠ D := fun z => by rw [← z, F9.2.1] at hD; cases hD
    have hD2 : (V.L + 2 : Nat) ≠ D := fun z => by rw [← z, F9.2.2] at hD; cases hD
    have k1 := k1.skip (y := "roots") (q := .ref D) (by decide)
    have k2 : Lk ((("roots", .ref D) : Str × PV) :: m5) "roots" (.ref D) := rfl
    generalize ((("roots", .ref D) : Str × PV) :: m5) = m6 at k1 k2 ⊢
    -- seldom an address without a cell
    refine EX.mid (J := fun m' H' => m' = m6 ∧ Ex1 fun st => C7 (H' D = some (.list (nats st))) (st ≠ []) (st.length ≤ 1000) ((∀ x ∈ st, x < 1000)) (RowsAt H' rl cs) (H' (V.L + 1) = some (.cell (some (.ref bn)))) (H' (V.L + 2) = some (.cell (some (.ref rl)))))
      (E1.ite (ET.cmp (EV.call O4 GG (EV.global_ O4 GG rfl kn_law_dip ⟨330, rfl, kk_330, EV.cell_ O4 (.inl rfl) rfl FA.2.1 (EV.int_ ?_)⟩)))) ?_
    · refine c_dip (n := n + 13) (top := 9) GG FA.1 (by decide) (by decide) fun x a b hx hbo => ?_
      have FB := keep (bo := .list [.int a, .int b]) ⟨a, b, rfl, hbo⟩ FA
      have rB : RowsAt (mns (upd HA bn (.list [.int a, .int b])) [bn, D]) rl cs := by rw [mns_in (by simp)]; exact rA
      have gB : upd HA bn (.list [.int a, .int b]) D = some (.list (nats st)) := (upd_ne hbD).trans hA
      generalize upd HA bn (.list [.int a, .int b]) = HB at FB rB gB ⊢
      have hne : st ≠ [] := fun z => by rw [z] at hk; simp at hk; lia
      refine EV.int_ ⟨fun w9 => ?_, fun w9 => ?_⟩
      · obtain ⟨ps2, hps2, hall2⟩ := rB.ex
        refine EX.next (E1.expr O4 (EV.append (EV.local_ O4 rfl k2 ⟨D, rfl, ⟨_, gB⟩, EV.bin (EV.bcall O4 GG rfl kb_len rfl (.inr ⟨_, rfl⟩) (EV.cell_ O4 (.inl rfl) rfl FB.2.2 (BCall.len_list (mns_sub _ _ hps2) (by rw [hall2.len, sizeLine_eq]; lia) (EV.int_ ?_))))⟩)))
        rw [hall2.len]
        refine ⟨_, gB, by rw [nats_len, hk, sizeLine_eq]; lia, rfl, EX.nil ⟨rfl, rfl, st ++ [cs.length + 1], ?_, fun z => by simp at z, by rw [List.length_append, hk]; show many + 1 ≤ 1000; lia, fun y hy => ?_, ?_, (upd_ne hD1).trans FB.2.1, (upd_ne hD2).trans FB.2.2⟩⟩
        · rw [upd_self, ← nats_snoc]; rfl
        · rcases List.mem_append.mp hy with h | h
          · have := hst y h; lia
          · rw [List.mem_singleton.mp h]; lia
        · refine rB.ext fun z o e => ?_
          obtain ⟨e1, e2⟩ := mns_some e
          simp only [List.mem_cons, List.not_mem_nil, or_false, not_or] at e1
          rw [upd_ne e1.2]; exact e2
      · exact EX.nil ⟨rfl, rfl, st, gB, hne, by lia, fun y hy => by have := hst y hy; lia, rB.ext mns_sub, FB.2.1, FB.2.2⟩
    rintro m7 H9' ⟨e7, st, hst9, hne, hsl, hsb, rows10, c1, c2⟩
    rw [e7]
    refine EX.ite (ET.not_ (ET.plain (EV.call O4 GG (EV.global_ O4 GG rfl kn_law_right ⟨392, rfl, kk_392, EV.cell_ O4 (.inl rfl) rfl c2 (EV.local_ O4 rfl k2 ?_)⟩))))
    refine c_rightG (n := n) (many := cs.length) GG rows10 hst9 hc9 (by lia) gd hsb hsl hne fun HZ xZ => ?_
    exact ⟨nofun, fun w9 => Then.go (EX.nil (u.nx ⟨k1, ⟨_, xZ _ _ c1⟩, ⟨_, xZ _ _ c2⟩⟩))⟩
  · intro m' H' _
    refine EX.ret ?_
    exact EV.bool_ (q _)
end
end Mine

namespace Mine
theorem law_ends {p : Program} {w : World} {P : Params} {s₁ : Shared} {fa a : Addr} {vs : List Value} {ns : List Int} {mg mb : Str → Option Value} {R : Result → Shared → Prop}
    (KX : (HD.kK P).In s₁.heap) (tg : s₁.heap.Ns mainGlobals mg) (tb : s₁.heap.Ns builtinsNs mb) (tm : ∀ x : Str, x ≠ "__name__" → mb x = bootBuiltins x) (tl : s₁.heap.NoLimit) (tn : ∃ mc, s₁.heap.Ns cStatics mc ∧ mc "sys.int_max_str_digits" = none)
    (hf : mg "law" = some (.ref fa)) (hL : s₁.heap.IsList a vs.toArray) (hI : IntsAre vs ns) (hn : ns.length ≤ 63)
    (good : ∀ s', (∀ b o, s₁.heap.get? b = some o → s'.heap.get? b = some o) → s'.os = s₁.os → s'.gens = s₁.gens → R (.ok (.ret (.bool true))) s') :
    codeAny (model p w) callerA (.call (.ref fa) ⟨[.ref a], []⟩) R s₁ := by
  have GG : (gl ⟨p, w, s₁.heap, P, s₁.gens, s₁.drawn, s₁.os⟩).Ok := ⟨KX, tl, ⟨mg, mb, tg, tb, tm⟩, tn⟩
  have e : (.ref fa : Value) = .ref 397 := by
    have := mg_of KX tg (n := "law") (v := .ref 397) kn_law
    rw [hf] at this
    exact Option.some.inj this
  rw [e]
  have C := c_law (n := 0) (H := fun w9 => none) (Q := fun q _ => q = .bool true) (E := fun w9 => False) GG hL hI hn (fun w9 => rfl) [] (fun _ _ h => by cases h) (fun _ _ h => by cases h)
  refine codeAny_mono (C callerA [] s₁.heap s₁.toks [.ref a] rfl (by decide +kernel) (by decide +kernel) (fun w9 => rfl) (.inl rfl) ⟨fun _ _ z => z, (fun b o z => by cases z), (fun b o z => by cases z), ?_⟩ (fun e h => by cases h) (VRs.cons VR.ref VRs.nil)) fun r s' z => ?_
  · obtain ⟨o, _, _, h, _⟩ := tg
    exact ⟨o, h⟩
  · rcases r with v | (v | _ | _ | _)
    · obtain ⟨h', tk', H', e, _, _, _, _, _, _, H1, _, _, z⟩ := z
      exact z.elim
    all_goals first | exact z.elim | skip
    obtain ⟨h', tk', q, H', rfl, R', _, _, V, H1, _, _, rfl⟩ := z
    obtain rfl := V.inv_bool
    exact good _ R'.stays rfl rfl

theorem entry : PySem.Challenge.rw_pq0600_01.Holds := HD.hd (by rfl) (by rfl) (by rfl) (by
  intro w s₀ s₁ mg mb G Y fa o pm cd doc dV kV ho hd' hcd hD hmg hg args vals as hpre hlay hrd hwl hlo
  have KX := kIn_of Y
  refine Ground.open G ?_
  intro T B D TE TW
  clear G Y D B TE TW hcd hD ho hd'
  wrow_args hpre hlay hrd hwl hlo
  refine enter_call ?_
  refine codeAny_mono ?_ (fun _ _ g => GoodW.toG g)
  refine law_ends KX T.g T.b T.builtins T.nolimit T.nodigits hmg (by assumption) (by assumption) (by omega) fun s' hk ho hgn => ?_
  refine ⟨.inl ⟨.bool true, .bool true, [], rfl, raisesW_false ?_, .bool true, ?_, unshared_nil⟩, hk, ho, hgn.trans hg⟩
  · wrow_none_raised
  · wrow_post)
end Mine

theorem PySem.Challenge.cw_pq0600_01_holds : PySem.Challenge.rw_pq0600_01.Holds := by
  exact Mine.entry
