import PyProof.Rows.All
import Wide.All
import OpenK.AllK
import Wide.FinOn
import PySem.Challenge.RW_sm0058_01
set_option Elab.async false
set_option linter.all false
set_option genSizeOfSpec false
set_option genSizeOf false
set_option genInjectivity false
section
open PySem PySem.W PyProof.Rows PySem.Calls PySem.Spec
set_option maxRecDepth 10000
namespace Mine
theorem ex9 {a1 a2 a3 a4 a5 a6 a7 a8 a9 : Type} {p : a1 → a2 → a3 → a4 → a5 → a6 → a7 → a8 → a9 → Prop} {g : Prop} (h : ∃ x1 x2 x3 x4 x5 x6 x7 x8 x9, p x1 x2 x3 x4 x5 x6 x7 x8 x9) (k : ∀ x1 x2 x3 x4 x5 x6 x7 x8 x9, p x1 x2 x3 x4 x5 x6 x7 x8 x9 → g) : g := by
  obtain ⟨x1, x2, x3, x4, x5, x6, x7, x8, x9, h⟩ := h
  exact k _ _ _ _ _ _ _ _ _ h
theorem xi9 {a1 a2 a3 a4 a5 a6 a7 a8 a9 : Type} {p : a1 → a2 → a3 → a4 → a5 → a6 → a7 → a8 → a9 → Prop} (x1 : a1) (x2 : a2) (x3 : a3) (x4 : a4) (x5 : a5) (x6 : a6) (x7 : a7) (x8 : a8) (x9 : a9) (h : p x1 x2 x3 x4 x5 x6 x7 x8 x9) : ∃ x1 x2 x3 x4 x5 x6 x7 x8 x9, p x1 x2 x3 x4 x5 x6 x7 x8 x9 := ⟨x1, x2, x3, x4, x5, x6, x7, x8, x9, h⟩
theorem ex6 {a1 a2 a3 a4 a5 a6 : Type} {p : a1 → a2 → a3 → a4 → a5 → a6 → Prop} {g : Prop} (h : ∃ x1 x2 x3 x4 x5 x6, p x1 x2 x3 x4 x5 x6) (k : ∀ x1 x2 x3 x4 x5 x6, p x1 x2 x3 x4 x5 x6 → g) : g := by
  obtain ⟨x1, x2, x3, x4, x5, x6, h⟩ := h
  exact k _ _ _ _ _ _ h
theorem xi6 {a1 a2 a3 a4 a5 a6 : Type} {p : a1 → a2 → a3 → a4 → a5 → a6 → Prop} (x1 : a1) (x2 : a2) (x3 : a3) (x4 : a4) (x5 : a5) (x6 : a6) (h : p x1 x2 x3 x4 x5 x6) : ∃ x1 x2 x3 x4 x5 x6, p x1 x2 x3 x4 x5 x6 := ⟨x1, x2, x3, x4, x5, x6, h⟩
theorem an13 {b1 b2 b3 b4 b5 b6 b7 b8 b9 b10 b11 b12 b13 g : Prop} (h : b1 ∧ b2 ∧ b3 ∧ b4 ∧ b5 ∧ b6 ∧ b7 ∧ b8 ∧ b9 ∧ b10 ∧ b11 ∧ b12 ∧ b13) (k : b1 → b2 → b3 → b4 → b5 → b6 → b7 → b8 → b9 → b10 → b11 → b12 → b13 → g) : g := by
  obtain ⟨hb1, hb2, hb3, hb4, hb5, hb6, hb7, hb8, hb9, hb10, hb11, hb12, hb13⟩ := h
  exact k hb1 hb2 hb3 hb4 hb5 hb6 hb7 hb8 hb9 hb10 hb11 hb12 hb13
theorem an8 {b1 b2 b3 b4 b5 b6 b7 b8 g : Prop} (h : b1 ∧ b2 ∧ b3 ∧ b4 ∧ b5 ∧ b6 ∧ b7 ∧ b8) (k : b1 → b2 → b3 → b4 → b5 → b6 → b7 → b8 → g) : g := by
  obtain ⟨hb1, hb2, hb3, hb4, hb5, hb6, hb7, hb8⟩ := h
  exact k hb1 hb2 hb3 hb4 hb5 hb6 hb7 hb8
noncomputable abbrev PG : Program := PySem.Challenge.pw_sm0058_01

structure FD where
  name : Str
  qual : Str
  params : Arguments
  body : List Stmt
  scope : Scope

inductive V where
  | any | none | bool (b : Bool) | int (i : Int) | byt (b : Array UInt8) | str (x : Str) | cst (v : Value)
  | w (i : Nat) | l (i : Nat)
  | tup (xs : List V) | lst (xs : List V)
  | ins (C : Addr) (es : List (Str × V))
  | clo (fd : FD) (es : List (Str × V))
  | err (v : V)

structure Rho where
  fr : List Addr
  cc : List Addr
  co : List Addr
  w : List Addr
  l : List (Option Addr)
noncomputable def Rho.own (ρ : Rho) (a : Addr) : Prop := a ∈ ρ.fr ∨ a ∈ ρ.cc ∨ a ∈ ρ.co ∨ a ∈ ρ.w ∨ some a ∈ ρ.l

noncomputable def LuaC : Addr := 74

noncomputable def Vol (o : Obj) : Prop := ∃ vs, o.data = .fields vs ∧ ∀ x t, vs[1]? ≠ some (.str x t)

inductive VR (EC : Addr) (ρ : Rho) (h : Heap) : V → Value → Prop
  | any {v} : VR EC ρ h .any v
  | none : VR EC ρ h .none .none
  | bool {b} : VR EC ρ h (.bool b) (.bool b)
  | int {i t} : VR EC ρ h (.int i) (.int i t)
  | byt {b t} : VR EC ρ h (.byt b) (.bytes b t)
  | str {x t} : VR EC ρ h (.str x) (.str x t)
  | cst {v} : VR EC ρ h (.cst v) v
  | w {i a} : ρ.w[i]? = some a → VR EC ρ h (.w i) (.ref a)
  | l {i a} : ρ.l[i]? = some (some a) → VR EC ρ h (.l i) (.ref a)
  | tup {xs a n} {vs : List Value} : h.get? a = some { cls := .type "tuple", data := .seq vs.toArray n } → ¬ρ.own a → xs.length = vs.length →
      (∀ (i : Nat) x v, xs[i]? = some x → vs[i]? = some v → VR EC ρ h x v) → VR EC ρ h (.tup xs) (.ref a)
  | lst {xs a n} {vs : List Value} : h.get? a = some (listOf vs.toArray n) → ¬ρ.own a → xs.length = vs.length →
      (∀ (i : Nat) x v, xs[i]? = some x → vs[i]? = some v → VR EC ρ h x v) → VR EC ρ h (.lst xs) (.ref a)
  | ins {C es a d n} {des : List DictEntry} {f : Str → Value} : h.get? a = some (instObj C d) → h.get? d = some (dictOf des n) → ¬ρ.own a → ¬ρ.own d →
      (∀ x v, es.lookup x = some v → getL x des = some (some (f x))) → (∀ x, es.lookup x = none → getL x des = some none) → (∀ x v, es.lookup x = some v → VR EC ρ h v (f x)) → VR EC ρ h (.ins C es) (.ref a)
  | clo {fd es a fo cl doc pm an c co vs t ct} {f : Str → Value} : h.get? a = some fo → fo.cls = .type "function" →
      fo.data = .func (fnX fd.name fd.qual fd.params fd.body fd.scope cl .none .none doc pm an (.ref c) ct) → ¬ρ.own a →
      h.get? c = some co → co.data = .fields vs → vs[1]? = some (.str fd.qual t) → ¬ρ.own c →
      (∀ x v, es.lookup x = some v → ∃ ca o, cl.lookup x = some ca ∧ h.get? ca = some o ∧ o.data = .cell (some (f x)) ∧ ¬ρ.own ca) →
      (∀ x v, es.lookup x = some v → VR EC ρ h v (f x)) → VR EC ρ h (.clo fd es) (.ref a)
  | err {v v' a oe d n} {des : List DictEntry} : h.get? a = some oe → oe.cls = .ref EC → oe.dict = some d → Vol oe → h.get? d = some (dictOf des n) → ¬ρ.own a → ¬ρ.own d →
      getL "value" des = some (some v') → VR EC ρ h v v' → VR EC ρ h (.err v) (.ref a)

structure Ext (n : Nat) (ρ : Rho) (h : Heap) (ρ' : Rho) (h' : Heap) : Prop where
  w : ∀ (i : Nat) (a : Addr), ρ.w[i]? = some a → ρ'.w[i]? = some a
  fr : ρ'.fr = ρ.fr
  co : ρ'.co = ρ.co
  cc : ∀ a, a ∈ ρ'.cc → a ∈ ρ.cc
  len : n ≤ ρ'.l.length
  l : ∀ i, i < n → ρ'.l[i]? = ρ.l[i]?
  own : ∀ b, ρ'.own b → ρ.own b ∨ h.get? b = none
  keep : ∀ b o, h.get? b = some o → (¬ρ.own b ∨ b ∈ ρ.co) → (¬Vol o ∨ b ∈ ρ.co) → h'.get? b = some o
  vol : ∀ b o, h.get? b = some o → ¬ρ.own b → Vol o → ∃ o', h'.get? b = some o' ∧ o'.cls = o.cls ∧ o'.dict = o.dict ∧ Vol o'
  old : ∀ b o, h.get? b = some o → ∃ o', h'.get? b = some o'
  frs : ∀ b o, h.get? b = some o → b ∈ ρ.fr.tail → ∃ sl, h'.get? b = some { o with slots := sl }

theorem Ext.refl {n ρ h} (hn : n ≤ ρ.l.length) : Ext n ρ h ρ h :=
  ⟨fun _ _ z => z, rfl, rfl, fun _ x => x, hn, fun _ _ => rfl, fun _ x => .inl x, fun _ _ e _ _ => e, fun _ o e _ v => ⟨o, e, rfl, rfl, v⟩, fun _ o e => ⟨o, e⟩, fun _ o e _ => ⟨o.slots, e⟩⟩
theorem get_none {h : Heap} {b : Addr} : (∀ o, h.get? b = some o → False) → h.get? b = none := fun x => by
  cases q : h.get? b with
  | none => rfl
  | some o => exact (x o q).elim
theorem Ext.trans {n ρ h ρ1 h1 ρ2 h2} (x : Ext n ρ h ρ1 h1) (y : Ext n ρ1 h1 ρ2 h2) : Ext n ρ h ρ2 h2 := by
  have hown : ∀ b, ρ2.own b → ρ.own b ∨ h.get? b = none := fun b q => by
    rcases y.own b q with q | q
    · exact x.own b q
    · exact .inr (get_none fun o e => by obtain ⟨o', e'⟩ := x.old b o e; rw [e'] at q; cases q)
  refine ⟨fun i a q => y.w i a (x.w i a q), y.fr.trans x.fr, y.co.trans x.co, fun a q => x.cc a (y.cc a q), y.len, fun i hi => (y.l i hi).trans (x.l i hi), hown, fun b o e q nv => ?_, fun b o e q v => ?_, fun b o e => ?_, fun b o e q => ?_⟩
  · refine y.keep b o (x.keep b o e q nv) ?_ (nv.imp_right fun z => by rw [x.co]; exact z)
    rcases q with q | q
    · exact .inl fun z => by
        rcases x.own b z with z | z
        · exact q z
        · rw [e] at z; cases z
    · exact .inr (by rw [x.co]; exact q)
  · obtain ⟨o1, e1, c1, d1, v1⟩ := x.vol b o e q v
    obtain ⟨o2, e2, c2, d2, v2⟩ := y.vol b o1 e1 (fun z => by
      rcases x.own b z with z | z
      · exact q z
      · rw [e] at z; cases z) v1
    exact ⟨o2, e2, c2.trans c1, d2.trans d1, v2⟩
  · obtain ⟨o', e'⟩ := x.old b o e
    exact y.old b o' e'
  · obtain ⟨sl, e1⟩ := x.frs b o e q
    obtain ⟨sl', e2⟩ := y.frs b _ e1 (by rw [x.fr]; exact q)
    exact ⟨sl', e2⟩
theorem Ext.mono {n n' ρ h ρ' h'} (x : Ext n ρ h ρ' h') (hn : n' ≤ n) : Ext n' ρ h ρ' h' :=
  ⟨x.w, x.fr, x.co, x.cc, Nat.le_trans hn x.len, fun i hi => x.l i (Nat.lt_of_lt_of_le hi hn), x.own, x.keep, x.vol, x.old, x.frs⟩

section
variable {EC : Addr} {ρ ρ' : Rho} {h h' : Heap} {n : Nat}
theorem Ext.nown {b o} (x : Ext n ρ h ρ' h') (e : h.get? b = some o) (q : ¬ρ.own b) : ¬ρ'.own b := fun z => by
    rcases x.own b z with z | z
    · exact q z
    · rw [e] at z; cases z
theorem nv_of {o : Obj} (e : ∀ vs, o.data ≠ .fields vs) : ¬Vol o := fun ⟨vs, q, _⟩ => e vs q
theorem nv_seq {o : Obj} {vs n} (e : o.data = .seq vs n) : ¬Vol o := nv_of fun _ q => by rw [e] at q; cases q
theorem nv_dict {o : Obj} {vs n} (e : o.data = .dict vs n) : ¬Vol o := nv_of fun _ q => by rw [e] at q; cases q
theorem nv_plain {o : Obj} (e : o.data = .plain) : ¬Vol o := nv_of fun _ q => by rw [e] at q; cases q
theorem nv_func {o : Obj} {f} (e : o.data = .func f) : ¬Vol o := nv_of fun _ q => by rw [e] at q; cases q
theorem nv_cell {o : Obj} {f} (e : o.data = .cell f) : ¬Vol o := nv_of fun _ q => by rw [e] at q; cases q
theorem nv_rec {o : Obj} {vs x t} (e : o.data = .fields vs) (q : vs[1]? = some (.str x t)) : ¬Vol o := fun ⟨vs', q', r⟩ => by rw [e] at q'; cases q'; exact r x t q
theorem Ext.free {b o} (x : Ext n ρ h ρ' h') (e : h.get? b = some o) (q : ¬ρ.own b) (nv : ¬Vol o) : h'.get? b = some o ∧ ¬ρ'.own b :=
  ⟨x.keep b o e (.inl q) (.inl nv), fun z => by
    rcases x.own b z with z | z
    · exact q z
    · rw [e] at z; cases z⟩
theorem VR.ext {v a} (r : VR EC ρ h v a) (x : Ext ρ.l.length ρ h ρ' h') : VR EC ρ' h' v a := by
  induction r with
  | any => exact .any
  | none => exact .none
  | bool => exact .bool
  | int => exact .int
  | byt => exact .byt
  | str => exact .str
  | cst => exact .cst
  | w e => exact .w (x.w _ _ e)
  | l e =>
    refine .l ((x.l _ ?_).trans e)
    obtain ⟨q, _⟩ := List.getElem?_eq_some_iff.mp e
    exact q
  | tup e q hl _ ih => exact .tup (x.free e q (nv_seq rfl)).1 (x.nown e q) hl ih
  | lst e q hl _ ih => exact .lst (x.free e q (nv_seq rfl)).1 (x.nown e q) hl ih
  | ins e1 e2 q1 q2 g g' _ ih => exact .ins (x.free e1 q1 (nv_plain rfl)).1 (x.free e2 q2 (nv_dict rfl)).1 (x.nown e1 q1) (x.nown e2 q2) g g' ih
  | clo e1 c1 d1 q1 e2 d2 s2 q2 g _ ih =>
    refine .clo (x.free e1 q1 (nv_func d1)).1 c1 d1 (x.nown e1 q1) (x.free e2 q2 (nv_rec d2 s2)).1 d2 s2 (x.nown e2 q2) (fun y v m => ?_) ih
    obtain ⟨ca, o, k1, k2, k3, k4⟩ := g y v m
    exact ⟨ca, o, k1, (x.free k2 k4 (nv_cell k3)).1, k3, x.nown k2 k4⟩
  | err e1 c1 dd d1 e2 q1 q2 g _ ih =>
    obtain ⟨o', e', k1, k2, k3⟩ := x.vol _ _ e1 q1 d1
    exact .err e' (k1.trans c1) (k2.trans dd) k3 (x.free e2 q2 (nv_dict rfl)).1 (x.nown e1 q1) (x.nown e2 q2) g ih
end

noncomputable def VRs (EC : Addr) (ρ : Rho) (h : Heap) (xs : List V) (vs : List Value) : Prop :=
  xs.length = vs.length ∧ ∀ (i : Nat) x v, xs[i]? = some x → vs[i]? = some v → VR EC ρ h x v
section
variable {EC : Addr} {ρ ρ' : Rho} {h h' : Heap} {n : Nat}
theorem VRs.nil : VRs EC ρ h [] [] := ⟨rfl, fun i x v e => by simp at e⟩
theorem VRs.cons {x v xs vs} (a : VR EC ρ h x v) (b : VRs EC ρ h xs vs) : VRs EC ρ h (x :: xs) (v :: vs) :=
  ⟨by simp [b.1], fun i y w e1 e2 => by
    cases i with
    | zero => simp at e1 e2; subst e1 e2; exact a
    | succ i => exact b.2 i y w (by simpa using e1) (by simpa using e2)⟩
theorem VRs.head {x v xs vs} (b : VRs EC ρ h (x :: xs) (v :: vs)) : VR EC ρ h x v := b.2 0 x v rfl rfl
theorem VRs.tail {x v xs vs} (b : VRs EC ρ h (x :: xs) (v :: vs)) : VRs EC ρ h xs vs :=
  ⟨by simpa using b.1, fun i y w e1 e2 => b.2 (i + 1) y w (by simpa using e1) (by simpa using e2)⟩
theorem VRs.inv_nil {vs} (b : VRs EC ρ h [] vs) : vs = [] := by
  have := b.1; cases vs with
  | nil => rfl
  | cons => simp at this
theorem VRs.inv_cons {x xs vs} (b : VRs EC ρ h (x :: xs) vs) : ∃ v ws, vs = v :: ws ∧ VR EC ρ h x v ∧ VRs EC ρ h xs ws := by
  cases vs with
  | nil => have := b.1; simp at this
  | cons v ws => exact ⟨v, ws, rfl, b.head, b.tail⟩
theorem VRs.get {xs vs} (b : VRs EC ρ h xs vs) {i : Nat} {x} (e : xs[i]? = some x) : ∃ v, vs[i]? = some v ∧ VR EC ρ h x v := by
  obtain ⟨q, _⟩ := List.getElem?_eq_some_iff.mp e
  have q' : i < vs.length := b.1 ▸ q
  exact ⟨vs[i], List.getElem?_eq_getElem q', b.2 i x _ e (List.getElem?_eq_getElem q')⟩
theorem VRs.append {xs vs ys ws} (a : VRs EC ρ h xs vs) (b : VRs EC ρ h ys ws) : VRs EC ρ h (xs ++ ys) (vs ++ ws) := by
  refine ⟨by simp [a.1, b.1], fun i x v e1 e2 => ?_⟩
  by_cases q : i < xs.length
  · rw [List.getElem?_append_left q] at e1
    rw [List.getElem?_append_left (a.1 ▸ q)] at e2
    exact a.2 i x v e1 e2
  · rw [List.getElem?_append_right (Nat.le_of_not_lt q)] at e1
    rw [List.getElem?_append_right (a.1 ▸ Nat.le_of_not_lt q), ← a.1] at e2
    exact b.2 _ x v e1 e2
theorem VRs.take {xs vs} (a : VRs EC ρ h xs vs) (k : Nat) : VRs EC ρ h (xs.take k) (vs.take k) :=
  ⟨by simp [a.1], fun i x v e1 e2 => by
    rw [List.getElem?_take] at e1 e2
    by_cases q : i < k
    · rw [if_pos q] at e1 e2
      exact a.2 i x v e1 e2
    · rw [if_neg q] at e1
      cases e1⟩
theorem VRs.drop {xs vs} (a : VRs EC ρ h xs vs) (k : Nat) : VRs EC ρ h (xs.drop k) (vs.drop k) :=
  ⟨by simp [a.1], fun i x v e1 e2 => by
    rw [List.getElem?_drop] at e1 e2
    exact a.2 _ x v e1 e2⟩
theorem VRs.ext {xs vs} (a : VRs EC ρ h xs vs) (x : Ext ρ.l.length ρ h ρ' h') : VRs EC ρ' h' xs vs :=
  ⟨a.1, fun i y v e1 e2 => (a.2 i y v e1 e2).ext x⟩
theorem VRs.one {x v} (a : VR EC ρ h x v) : VRs EC ρ h [x] [v] := .cons a .nil
end

inductive Cell where
  | list (xs : List V)
  | dict (es : List (Str × V))
  | map (es : List (Str × V))
  | tab (P : Addr) (pos : Pos) (qual : Str) (made : Bool)
  | ns (es : List (Str × V))
  | exc (vs : Array Value) (d : Option V)
  | inst (C : Addr) (d : V)
structure AS where
  w : List Cell
  l : List Cell

noncomputable def DictR (EC : Addr) (pr : Params) (ρ : Rho) (h : Heap) (es : List (Str × V)) (des : List DictEntry) : Prop :=
  es.length = des.length ∧ ∀ (i : Nat) e d, es[i]? = some e → des[i]? = some d → d.hash = PyData.keyHash pr e.1 ∧ (∃ tk, d.key = .str e.1 tk) ∧ VR EC ρ h e.2 d.val

noncomputable def MapR (EC : Addr) (ρ : Rho) (h : Heap) (es : List (Str × V)) (kvs : List (Str × Value)) : Prop :=
  es.length = kvs.length ∧ ∀ (i : Nat) e d, es[i]? = some e → kvs[i]? = some d → d.1 = e.1 ∧ VR EC ρ h e.2 d.2

noncomputable def CellOk (EC : Addr) (w : World) (ρ : Rho) (h : Heap) (a : Addr) : Cell → Prop
  | .list xs => ∃ vs n, h.get? a = some (listOf (List.toArray vs) n) ∧ VRs EC ρ h xs vs
  | .dict es => ∃ des n, h.get? a = some (dictOf des n) ∧ DictR EC w.params ρ h es des
  | .map es => ∃ kvs, h.DictOf (strKind PG w) a kvs ∧ MapR EC ρ h es kvs
  | .tab P pos qual false => a = P ∧ Heap.get? h a = some (tabObj #[])
  | .tab P pos qual true => a = P ∧ ∃ c co vs t, h.get? a = some (tabObj #[rawInt pos.line, rawInt pos.col, .ref c]) ∧ h.get? c = some co ∧ co.data = .fields vs ∧ vs[1]? = some (.str qual t) ∧ ¬ρ.own c
  | .ns es => ∃ mm : Str → Option Value, h.Ns a mm ∧ ∀ x v, es.lookup x = some v → ∃ b, mm x = some b ∧ VR EC ρ h v b
  | .inst C d => ∃ da, VR EC ρ h d (.ref da) ∧ h.get? a = some (instObj C da)
  | .exc vs Option.none => Heap.get? h a = some { cls := .ref EC, dict := Option.none, data := .fields vs }
  | .exc vs (some d) => ∃ da, VR EC ρ h d (.ref da) ∧ h.get? a = some { cls := .ref EC, dict := some da, data := .fields vs }

theorem DictR.ext {EC pr ρ h ρ' h' es des} (r : DictR EC pr ρ h es des) (x : Ext ρ.l.length ρ h ρ' h') : DictR EC pr ρ' h' es des :=
  ⟨r.1, fun i e d e1 e2 => let ⟨a, b, c⟩ := r.2 i e d e1 e2; ⟨a, b, c.ext x⟩⟩
theorem MapR.ext {EC ρ h ρ' h' es des} (r : MapR EC ρ h es des) (x : Ext ρ.l.length ρ h ρ' h') : MapR EC ρ' h' es des :=
  ⟨r.1, fun i e d e1 e2 => let ⟨a, c⟩ := r.2 i e d e1 e2; ⟨a, c.ext x⟩⟩
theorem CellOk.ext {EC w ρ h ρ' h' a c} (r : CellOk EC w ρ h a c) (x : Ext ρ.l.length ρ h ρ' h') (e : ∀ o, h.get? a = some o → h'.get? a = some o) : CellOk EC w ρ' h' a c := by
  cases c with
  | list xs => obtain ⟨vs, n, q, r⟩ := r; exact ⟨vs, n, e _ q, r.ext x⟩
  | dict es => obtain ⟨des, n, q, r⟩ := r; exact ⟨des, n, e _ q, r.ext x⟩
  | map es => obtain ⟨kvs, q, r⟩ := r; exact ⟨kvs, q.at e, r.ext x⟩
  | tab P p q m =>
    cases m with
    | false => exact ⟨r.1, e _ r.2⟩
    | true => obtain ⟨eP, c, co, vs, t, e0, e1, e2, e3, e4⟩ := r; have y := x.free e1 e4 (nv_rec e2 e3); exact ⟨eP, c, co, vs, t, e _ e0, y.1, e2, e3, y.2⟩
  | ns es => obtain ⟨mm, q, r⟩ := r; exact ⟨mm, q.at' e, fun y v z => let ⟨b, z1, z2⟩ := r y v z; ⟨b, z1, z2.ext x⟩⟩
  | inst C d => obtain ⟨da, r, q⟩ := r; exact ⟨da, r.ext x, e _ q⟩
  | exc vs d =>
    cases d with
    | none => exact e _ r
    | some d => obtain ⟨da, r, q⟩ := r; exact ⟨da, r.ext x, e _ q⟩

noncomputable abbrev Loc := List (Str × V)
structure Frs (ρ : Rho) (h : Heap) (l : List Env) : Prop where
  eq : l.map (·.frame) = ρ.fr.map some
  kd : ∀ env ∈ l, env.scope.kind ≠ .module
  ok : ∀ a ∈ ρ.fr, ∃ o es n, h.get? a = some o ∧ o.data = .dict es n

structure Gd where
  w : World
  H : Heap
  K : Frag
  EC : Addr

structure St (G : Gd) (A : Around) (env : Env) (ρ : Rho) (m : Loc) (σ : AS) (h : Heap) : Prop where
  base : ∀ b o, G.H.get? b = some o → h.get? b = some o
  low : G.H.objs.size ≤ env.locals
  fl : env.frame = some env.locals
  frs : ∃ outer, A.frames = some (env :: outer) ∧ Frs ρ h (env :: outer)
  hown : ∀ a, ρ.own a → G.H.get? a = none ∧ ∃ o, h.get? a = some o
  nodup : (ρ.fr ++ (ρ.cc ++ (ρ.co ++ (ρ.w ++ ρ.l.filterMap id)))).Nodup
  loc : ∃ mm, h.Ns env.locals mm ∧ ∀ x v, m.lookup x = some v → env.scope.names.lookup x = some .local → ∃ a, mm x = some a ∧ VR G.EC ρ h v a
  cel : ∀ x v, m.lookup x = some v → (env.scope.names.lookup x = some .cell ∨ env.scope.names.lookup x = some .free) →
    ∃ ca a, env.cells.lookup x = some ca ∧ h.IsCell ca (some a) ∧ VR G.EC ρ h v a ∧ (ca ∈ ρ.cc ∨ ¬ρ.own ca)
  cun : ∀ x, env.scope.names.lookup x = some .cell → m.lookup x = none → ∃ ca, env.cells.lookup x = some ca ∧ h.IsCell ca none ∧ ca ∈ ρ.cc
  wl : σ.w.length = ρ.w.length
  ll : σ.l.length = ρ.l.length
  cw : ∀ (i : Nat) c a, σ.w[i]? = some c → ρ.w[i]? = some a → CellOk G.EC G.w ρ h a c
  cl : ∀ (i : Nat) c a, σ.l[i]? = some c → ρ.l[i]? = some (some a) → CellOk G.EC G.w ρ h a c


section
variable {G : Gd} {A : Around} {env : Env} {ρ ρ' : Rho} {m : Loc} {σ : AS} {h h' : Heap} {n : Nat}
theorem St.hL (S : St G A env ρ m σ h) : env.locals ∈ ρ.fr := by
  obtain ⟨outer, _, F⟩ := S.frs
  have := F.eq
  rw [List.map_cons, S.fl] at this
  cases e : ρ.fr with
  | nil => rw [e] at this; simp at this
  | cons a r =>
    rw [e, List.map_cons] at this
    have q := (List.cons.inj this).1
    rw [Option.some.inj q]
    exact .head _
theorem St.frHead (S : St G A env ρ m σ h) : ρ.fr = env.locals :: ρ.fr.tail := by
  obtain ⟨outer, _, F⟩ := S.frs
  have := F.eq
  rw [List.map_cons, S.fl] at this
  cases e : ρ.fr with
  | nil => rw [e] at this; simp at this
  | cons a r =>
    rw [e, List.map_cons] at this
    have q := (List.cons.inj this).1
    rw [Option.some.inj q]; rfl
theorem mem_l {ρ : Rho} {i : Nat} {a} (e : ρ.l[i]? = some (some a)) : a ∈ ρ.l.filterMap id := List.mem_filterMap.mpr ⟨some a, List.mem_of_getElem? e, rfl⟩
theorem mem_l' {ρ : Rho} {a} (e : some a ∈ ρ.l) : a ∈ ρ.l.filterMap id := List.mem_filterMap.mpr ⟨some a, e, rfl⟩
theorem own_l {ρ : Rho} {i : Nat} {a} (e : ρ.l[i]? = some (some a)) : ρ.own a := .inr (.inr (.inr (.inr (List.mem_of_getElem? e))))
theorem own_w {ρ : Rho} {i : Nat} {a} (e : ρ.w[i]? = some a) : ρ.own a := .inr (.inr (.inr (.inl (List.mem_of_getElem? e))))
theorem St.apart_l (S : St G A env ρ m σ h) {a} (ha : a ∈ ρ.l.filterMap id) : a ∉ ρ.fr ∧ a ∉ ρ.cc ∧ a ∉ ρ.co ∧ a ∉ ρ.w := by
  have d := S.nodup
  rw [List.nodup_append] at d
  obtain ⟨_, d, f1⟩ := d
  rw [List.nodup_append] at d
  obtain ⟨_, d, f2⟩ := d
  rw [List.nodup_append] at d
  obtain ⟨_, d, f3⟩ := d
  rw [List.nodup_append] at d
  obtain ⟨_, d, f4⟩ := d
  refine ⟨fun q => f1 a q a ?_ rfl, fun q => f2 a q a ?_ rfl, fun q => f3 a q a ?_ rfl, fun q => f4 a q a ha rfl⟩ <;> simp only [List.mem_append] <;> simp [ha]
theorem St.apart_w (S : St G A env ρ m σ h) {a} (ha : a ∈ ρ.w) : a ∉ ρ.fr ∧ a ∉ ρ.cc ∧ a ∉ ρ.co ∧ a ∉ ρ.l.filterMap id := by
  have d := S.nodup
  rw [List.nodup_append] at d
  obtain ⟨_, d, f1⟩ := d
  rw [List.nodup_append] at d
  obtain ⟨_, d, f2⟩ := d
  rw [List.nodup_append] at d
  obtain ⟨_, d, f3⟩ := d
  rw [List.nodup_append] at d
  obtain ⟨_, d, f4⟩ := d
  refine ⟨fun q => f1 a q a ?_ rfl, fun q => f2 a q a ?_ rfl, fun q => f3 a q a ?_ rfl, fun q => f4 a ha a q rfl⟩ <;> simp only [List.mem_append] <;> simp [ha]
theorem filterMap_inj {l : List (Option Addr)} : (l.filterMap id).Nodup → ∀ {i j : Nat} {a}, l[i]? = some (some a) → l[j]? = some (some a) → i = j := by
  induction l with
  | nil => intro _ i j a e; simp at e
  | cons x r ih =>
    intro d i j a e1 e2
    have d' : (r.filterMap id).Nodup := by
      cases x with
      | none => simpa using d
      | some y => simp only [List.filterMap_cons, id] at d; exact (List.nodup_cons.mp d).2
    cases i with
    | zero =>
      cases j with
      | zero => rfl
      | succ j =>
        simp at e1 e2
        subst e1
        simp only [List.filterMap_cons, id] at d
        exact absurd (List.mem_filterMap.mpr ⟨some a, List.mem_of_getElem? e2, rfl⟩ : a ∈ r.filterMap id) (List.nodup_cons.mp d).1
    | succ i =>
      cases j with
      | zero =>
        simp at e1 e2
        subst e2
        simp only [List.filterMap_cons, id] at d
        exact absurd (List.mem_filterMap.mpr ⟨some a, List.mem_of_getElem? e1, rfl⟩ : a ∈ r.filterMap id) (List.nodup_cons.mp d).1
      | succ j => exact congrArg _ (ih d' (by simpa using e1) (by simpa using e2))
theorem St.l_inj (S : St G A env ρ m σ h) {i j : Nat} {a} (e1 : ρ.l[i]? = some (some a)) (e2 : ρ.l[j]? = some (some a)) : i = j := by
  have d := S.nodup
  iterate 4 (rw [List.nodup_append] at d; replace d := d.2.1)
  exact filterMap_inj d e1 e2
theorem St.w_inj (S : St G A env ρ m σ h) {i j : Nat} {a} (e1 : ρ.w[i]? = some a) (e2 : ρ.w[j]? = some a) : i = j := by
  have d := S.nodup
  iterate 3 (rw [List.nodup_append] at d; replace d := d.2.1)
  rw [List.nodup_append] at d
  replace d := d.1
  obtain ⟨q1, r1⟩ := List.getElem?_eq_some_iff.mp e1
  obtain ⟨q2, r2⟩ := List.getElem?_eq_some_iff.mp e2
  have d' := List.pairwise_iff_getElem.mp d
  rcases Nat.lt_trichotomy i j with q | q | q
  · exact absurd (r1.trans r2.symm) (d' i j q1 q2 q)
  · exact q
  · exact absurd (r2.trans r1.symm) (d' j i q2 q1 q)


theorem St.apart_fr (S : St G A env ρ m σ h) {a} (ha : a ∈ ρ.fr) : a ∉ ρ.cc ∧ a ∉ ρ.co := by
  have d := S.nodup
  rw [List.nodup_append] at d
  obtain ⟨_, _, f1⟩ := d
  refine ⟨fun q => f1 a ha a ?_ rfl, fun q => f1 a ha a ?_ rfl⟩ <;> simp only [List.mem_append] <;> simp [q]
theorem St.ccL (S : St G A env ρ m σ h) {a} (ha : a ∈ ρ.fr) : a ∉ ρ.cc := (S.apart_fr ha).1
theorem St.coL (S : St G A env ρ m σ h) {a} (ha : a ∈ ρ.fr) : a ∉ ρ.co := (S.apart_fr ha).2
theorem St.tailL (S : St G A env ρ m σ h) : env.locals ∉ ρ.fr.tail := by
  have d := S.nodup
  rw [List.nodup_append] at d
  have d' := d.1
  rw [S.frHead] at d'
  exact (List.nodup_cons.mp d').1

theorem St.grow (S : St G A env ρ m σ h) (k : ∀ b o, h.get? b = some o → h'.get? b = some o) : St G A env ρ m σ h' ∧ Ext ρ.l.length ρ h ρ h' := by
  have x : Ext ρ.l.length ρ h ρ h' := ⟨fun _ _ z => z, rfl, rfl, fun _ z => z, Nat.le_refl _, fun _ _ => rfl, fun _ z => .inl z, fun b o e _ _ => k b o e, fun b o e _ v => ⟨o, k b o e, rfl, rfl, v⟩, fun b o e => ⟨o, k b o e⟩, fun b o e _ => ⟨o.slots, k b o e⟩⟩
  refine ⟨⟨fun b o e => k b o (S.base b o e), S.low, S.fl, ?_, fun a q => ?_, S.nodup, ?_, fun y v e q => ?_, fun y q e => let ⟨ca, q1, q2, q3⟩ := S.cun y q e; ⟨ca, q1, q2.keeps k, q3⟩, S.wl, S.ll, fun i c a e1 e2 => (S.cw i c a e1 e2).ext x fun o => k a o, fun i c a e1 e2 => (S.cl i c a e1 e2).ext x fun o => k a o⟩, x⟩
  · obtain ⟨outer, q, F⟩ := S.frs
    exact ⟨outer, q, F.eq, F.kd, fun a ha => let ⟨o, es, n, e, d⟩ := F.ok a ha; ⟨o, es, n, k a o e, d⟩⟩
  · obtain ⟨q1, o, q2⟩ := S.hown a q
    exact ⟨q1, o, k a o q2⟩
  · obtain ⟨mm, hn, hm⟩ := S.loc
    exact ⟨mm, hn.keeps k, fun y v e q => let ⟨a, q1, q2⟩ := hm y v e q; ⟨a, q1, q2.ext x⟩⟩
  · obtain ⟨ca, a, q1, q2, q3, q4⟩ := S.cel y v e q
    exact ⟨ca, a, q1, q2.keeps k, q3.ext x, q4⟩

theorem St.updL (S : St G A env ρ m σ h) {i : Nat} {a} {c' : Cell} {mm : Str → Option Value} (ha : ρ.l[i]? = some (some a)) (kp : ∀ b o, b ≠ a → b ≠ env.locals → h.get? b = some o → h'.get? b = some o)
    (hm : ∀ x v, m.lookup x = some v → env.scope.names.lookup x = some .local → ∃ a, mm x = some a ∧ VR G.EC ρ h v a) (hL : h'.Ns env.locals mm)
    (hc : Ext ρ.l.length ρ h ρ h' → CellOk G.EC G.w ρ h' a c') (th : ∃ o, h'.get? a = some o) : St G A env ρ m { σ with l := σ.l.set i c' } h' ∧ Ext ρ.l.length ρ h ρ h' := by
  have ap := S.apart_l (mem_l ha)
  have oa := own_l ha
  obtain ⟨hH, _⟩ := S.hown a oa
  have ne : ∀ b, b ∈ ρ.fr → b ≠ a := fun b q e => ap.1 (e ▸ q)
  have old : ∀ b o, h.get? b = some o → ∃ o', h'.get? b = some o' := fun b o e => by
    by_cases q : b = a
    · rw [q]; exact th
    · by_cases q' : b = env.locals
      · obtain ⟨o', _, _, e', _⟩ := hL
        exact ⟨o', q' ▸ e'⟩
      · exact ⟨o, kp b o q q' e⟩
  have neL : ∀ b, b ∈ ρ.fr.tail → b ≠ env.locals := fun b q e => S.tailL (e ▸ q)
  have x : Ext ρ.l.length ρ h ρ h' := by
    refine ⟨fun _ _ z => z, rfl, rfl, fun _ z => z, Nat.le_refl _, fun _ _ => rfl, fun _ z => .inl z, fun b o e q _ => kp b o (fun z => ?_) (fun z => ?_) e, fun b o e q v => ⟨o, kp b o (fun z => q (z ▸ oa)) (fun z => q (z ▸ .inl S.hL)) e, rfl, rfl, v⟩, old, fun b o e q => ⟨o.slots, kp b o (ne b (List.mem_of_mem_tail q)) (neL b q) e⟩⟩
    · subst z
      rcases q with q | q
      · exact q oa
      · exact ap.2.2.1 q
    · subst z
      rcases q with q | q
      · exact q (.inl S.hL)
      · exact S.coL S.hL q
  refine ⟨⟨fun b o e => kp b o (fun z => by rw [z, hH] at e; cases e) (fun z => by rw [z, (S.hown _ (.inl S.hL)).1] at e; cases e) (S.base b o e), S.low, S.fl, ?_, fun b q => ?_, S.nodup, ?_, fun y v e q => ?_, fun y q e => let ⟨ca, q1, ⟨o, q2, q2'⟩, q3⟩ := S.cun y q e; ⟨ca, q1, ⟨o, kp ca o (fun z => ap.2.1 (z ▸ q3)) (fun z => S.ccL S.hL (z ▸ q3)) q2, q2'⟩, q3⟩, S.wl, ?_, fun j c b e1 e2 => ?_, fun j c b e1 e2 => ?_⟩, x⟩
  · obtain ⟨outer, q, F⟩ := S.frs
    refine ⟨outer, q, F.eq, F.kd, fun b hb => ?_⟩
    by_cases q' : b = env.locals
    · obtain ⟨o', es, ep, e', hd, _⟩ := hL
      exact ⟨o', es, ep, q' ▸ e', hd⟩
    · exact let ⟨o, es, n, e, d⟩ := F.ok b hb; ⟨o, es, n, kp b o (ne b hb) q' e, d⟩
  · obtain ⟨q1, o, q2⟩ := S.hown b q
    exact ⟨q1, old b o q2⟩
  · exact ⟨mm, hL, fun y v e q => let ⟨b, q1, q2⟩ := hm y v e q; ⟨b, q1, q2.ext x⟩⟩
  · obtain ⟨ca, b, q1, ⟨o, q2, q2'⟩, q3, q4⟩ := S.cel y v e q
    refine ⟨ca, b, q1, ⟨o, kp ca o (fun z => ?_) (fun z => ?_) q2, q2'⟩, q3.ext x, q4⟩
    · subst z
      rcases q4 with q4 | q4
      · exact ap.2.1 q4
      · exact q4 oa
    · subst z
      rcases q4 with q4 | q4
      · exact S.ccL S.hL q4
      · exact q4 (.inl S.hL)
  · simp only [List.length_set]; exact S.ll
  · refine (S.cw j c b e1 e2).ext x fun o => kp b o (fun z => ?_) fun z => ?_
    · subst z
      exact ap.2.2.2 (List.mem_of_getElem? e2)
    · subst z
      exact (S.apart_w (List.mem_of_getElem? e2)).1 S.hL
  · by_cases q : i = j
    · subst q
      rw [ha] at e2
      cases e2
      rw [List.getElem?_set_self'] at e1
      cases q : σ.l[i]? with
      | none => rw [q] at e1; cases e1
      | some => rw [q] at e1; cases e1; exact hc x
    · simp only [List.getElem?_set_ne q] at e1
      refine (S.cl j c b e1 e2).ext x fun o => kp b o (fun z => ?_) fun z => ?_
      · subst z
        exact q (S.l_inj ha e2)
      · subst z
        exact (S.apart_l (mem_l e2)).1 S.hL

theorem St.updW (S : St G A env ρ m σ h) {i : Nat} {a} {c' : Cell} {mm : Str → Option Value} (ha : ρ.w[i]? = some a) (kp : ∀ b o, b ≠ a → b ≠ env.locals → h.get? b = some o → h'.get? b = some o)
    (hm : ∀ x v, m.lookup x = some v → env.scope.names.lookup x = some .local → ∃ a, mm x = some a ∧ VR G.EC ρ h v a) (hL : h'.Ns env.locals mm)
    (hc : Ext ρ.l.length ρ h ρ h' → CellOk G.EC G.w ρ h' a c') (th : ∃ o, h'.get? a = some o) : St G A env ρ m { σ with w := σ.w.set i c' } h' ∧ Ext ρ.l.length ρ h ρ h' := by
  have ap := S.apart_w (List.mem_of_getElem? ha)
  have oa := own_w ha
  obtain ⟨hH, _⟩ := S.hown a oa
  have ne : ∀ b, b ∈ ρ.fr → b ≠ a := fun b q e => ap.1 (e ▸ q)
  have old : ∀ b o, h.get? b = some o → ∃ o', h'.get? b = some o' := fun b o e => by
    by_cases q : b = a
    · rw [q]; exact th
    · by_cases q' : b = env.locals
      · obtain ⟨o', _, _, e', _⟩ := hL
        exact ⟨o', q' ▸ e'⟩
      · exact ⟨o, kp b o q q' e⟩
  have neL : ∀ b, b ∈ ρ.fr.tail → b ≠ env.locals := fun b q e => S.tailL (e ▸ q)
  have x : Ext ρ.l.length ρ h ρ h' := by
    refine ⟨fun _ _ z => z, rfl, rfl, fun _ z => z, Nat.le_refl _, fun _ _ => rfl, fun _ z => .inl z, fun b o e q _ => kp b o (fun z => ?_) (fun z => ?_) e, fun b o e q v => ⟨o, kp b o (fun z => q (z ▸ oa)) (fun z => q (z ▸ .inl S.hL)) e, rfl, rfl, v⟩, old, fun b o e q => ⟨o.slots, kp b o (ne b (List.mem_of_mem_tail q)) (neL b q) e⟩⟩
    · subst z
      rcases q with q | q
      · exact q oa
      · exact ap.2.2.1 q
    · subst z
      rcases q with q | q
      · exact q (.inl S.hL)
      · exact S.coL S.hL q
  refine ⟨⟨fun b o e => kp b o (fun z => by rw [z, hH] at e; cases e) (fun z => by rw [z, (S.hown _ (.inl S.hL)).1] at e; cases e) (S.base b o e), S.low, S.fl, ?_, fun b q => ?_, S.nodup, ?_, fun y v e q => ?_, fun y q e => let ⟨ca, q1, ⟨o, q2, q2'⟩, q3⟩ := S.cun y q e; ⟨ca, q1, ⟨o, kp ca o (fun z => ap.2.1 (z ▸ q3)) (fun z => S.ccL S.hL (z ▸ q3)) q2, q2'⟩, q3⟩, ?_, S.ll, fun j c b e1 e2 => ?_, fun j c b e1 e2 => ?_⟩, x⟩
  · obtain ⟨outer, q, F⟩ := S.frs
    refine ⟨outer, q, F.eq, F.kd, fun b hb => ?_⟩
    by_cases q' : b = env.locals
    · obtain ⟨o', es, ep, e', hd, _⟩ := hL
      exact ⟨o', es, ep, q' ▸ e', hd⟩
    · exact let ⟨o, es, n, e, d⟩ := F.ok b hb; ⟨o, es, n, kp b o (ne b hb) q' e, d⟩
  · obtain ⟨q1, o, q2⟩ := S.hown b q
    exact ⟨q1, old b o q2⟩
  · exact ⟨mm, hL, fun y v e q => let ⟨b, q1, q2⟩ := hm y v e q; ⟨b, q1, q2.ext x⟩⟩
  · obtain ⟨ca, b, q1, ⟨o, q2, q2'⟩, q3, q4⟩ := S.cel y v e q
    refine ⟨ca, b, q1, ⟨o, kp ca o (fun z => ?_) (fun z => ?_) q2, q2'⟩, q3.ext x, q4⟩
    · subst z
      rcases q4 with q4 | q4
      · exact ap.2.1 q4
      · exact q4 oa
    · subst z
      rcases q4 with q4 | q4
      · exact S.ccL S.hL q4
      · exact q4 (.inl S.hL)
  · simp only [List.length_set]; exact S.wl
  · by_cases q : i = j
    · subst q
      rw [ha] at e2
      cases e2
      rw [List.getElem?_set_self'] at e1
      cases q : σ.w[i]? with
      | none => rw [q] at e1; cases e1
      | some => rw [q] at e1; cases e1; exact hc x
    · simp only [List.getElem?_set_ne q] at e1
      refine (S.cw j c b e1 e2).ext x fun o => kp b o (fun z => ?_) fun z => ?_
      · subst z
        exact q (S.w_inj ha e2)
      · subst z
        exact (S.apart_w (List.mem_of_getElem? e2)).1 S.hL
  · refine (S.cl j c b e1 e2).ext x fun o => kp b o (fun z => ?_) fun z => ?_
    · subst z
      exact ap.2.2.2 (mem_l e2)
    · subst z
      exact (S.apart_l (mem_l e2)).1 S.hL

theorem St.newL (S : St G A env ρ m σ h) {a} {c : Cell} (hn : h.get? a = none) (k : ∀ b o, h.get? b = some o → h'.get? b = some o) (th : ∃ o, h'.get? a = some o)
    (hc : Ext ρ.l.length ρ h { ρ with l := ρ.l ++ [some a] } h' → CellOk G.EC G.w { ρ with l := ρ.l ++ [some a] } h' a c) :
    St G A env { ρ with l := ρ.l ++ [some a] } m { σ with l := σ.l ++ [c] } h' ∧ Ext ρ.l.length ρ h { ρ with l := ρ.l ++ [some a] } h' ∧
      VR G.EC { ρ with l := ρ.l ++ [some a] } h' (.l σ.l.length) (.ref a) := by
  have nown : ¬ρ.own a := fun q => by
    obtain ⟨_, o, e⟩ := S.hown a q
    rw [hn] at e; cases e
  have hH : G.H.get? a = none := get_none fun o e => by
    have := S.base a o e
    rw [hn] at this; cases this
  have own' : ∀ b, ({ ρ with l := ρ.l ++ [some a] } : Rho).own b → ρ.own b ∨ b = a := fun b q => by
    rcases q with q | q | q | q | q
    · exact .inl (.inl q)
    · exact .inl (.inr (.inl q))
    · exact .inl (.inr (.inr (.inl q)))
    · exact .inl (.inr (.inr (.inr (.inl q))))
    · rcases List.mem_append.mp q with q | q
      · exact .inl (.inr (.inr (.inr (.inr q))))
      · exact .inr (Option.some.inj (List.mem_singleton.mp q))
  have x : Ext ρ.l.length ρ h { ρ with l := ρ.l ++ [some a] } h' := by
    refine ⟨fun _ _ z => z, rfl, rfl, fun _ z => z, by simp, fun i hi => List.getElem?_append_left hi, fun b q => ?_, fun b o e _ _ => k b o e, fun b o e _ v => ⟨o, k b o e, rfl, rfl, v⟩, fun b o e => ⟨o, k b o e⟩, fun b o e _ => ⟨o.slots, k b o e⟩⟩
    rcases own' b q with q | q
    · exact .inl q
    · subst q; exact .inr hn
  have nd : (ρ.fr ++ (ρ.cc ++ (ρ.co ++ (ρ.w ++ (ρ.l ++ [some a]).filterMap id)))).Nodup := by
    have e : ρ.fr ++ (ρ.cc ++ (ρ.co ++ (ρ.w ++ (ρ.l ++ [some a]).filterMap id))) = (ρ.fr ++ (ρ.cc ++ (ρ.co ++ (ρ.w ++ ρ.l.filterMap id)))) ++ [a] := by
      simp [List.filterMap_append, List.append_assoc]
    rw [e, List.nodup_append]
    refine ⟨S.nodup, by simp, fun b hb y hy z => ?_⟩
    have : y = a := by simpa using hy
    subst this
    subst z
    apply nown
    simp only [List.mem_append, List.mem_filterMap, id, exists_eq_right] at hb
    rcases hb with q | q | q | q | q
    · exact .inl q
    · exact .inr (.inl q)
    · exact .inr (.inr (.inl q))
    · exact .inr (.inr (.inr (.inl q)))
    · exact .inr (.inr (.inr (.inr q)))
  refine ⟨⟨fun b o e => k b o (S.base b o e), S.low, S.fl, ?_, fun b q => ?_, nd, ?_, fun y v e q => ?_, fun y q e => let ⟨ca, q1, q2, q3⟩ := S.cun y q e; ⟨ca, q1, q2.keeps k, q3⟩, S.wl, by simp [S.ll], fun j c b e1 e2 => (S.cw j c b e1 e2).ext x fun o => k b o, fun j c' b e1 e2 => ?_⟩, x, ?_⟩
  · obtain ⟨outer, q, F⟩ := S.frs
    exact ⟨outer, q, F.eq, F.kd, fun b hb => let ⟨o, es, n, e, d⟩ := F.ok b hb; ⟨o, es, n, k b o e, d⟩⟩
  · rcases own' b q with q | q
    · obtain ⟨q1, o, q2⟩ := S.hown b q
      exact ⟨q1, o, k b o q2⟩
    · subst q; exact ⟨hH, th⟩
  · obtain ⟨mm, hn, hm⟩ := S.loc
    exact ⟨mm, hn.keeps k, fun y v e q => let ⟨b, q1, q2⟩ := hm y v e q; ⟨b, q1, q2.ext x⟩⟩
  · obtain ⟨ca, b, q1, q2, q3, q4⟩ := S.cel y v e q
    refine ⟨ca, b, q1, q2.keeps k, q3.ext x, q4.imp_right fun q4 z => ?_⟩
    rcases own' ca z with z | z
    · exact q4 z
    · subst z
      obtain ⟨o, q2, _⟩ := q2
      rw [hn] at q2; cases q2
  · by_cases q : j < σ.l.length
    · rw [List.getElem?_append_left q] at e1
      rw [List.getElem?_append_left (S.ll ▸ q)] at e2
      exact (S.cl j c' b e1 e2).ext x fun o => k b o
    · rw [List.getElem?_append_right (Nat.le_of_not_lt q)] at e1
      rw [List.getElem?_append_right (S.ll ▸ Nat.le_of_not_lt q), ← S.ll] at e2
      cases z : j - σ.l.length with
      | zero =>
        rw [z] at e1 e2
        cases e1
        cases e2
        exact hc x
      | succ => rw [z] at e1; simp at e1
  · refine .l ?_
    rw [S.ll]
    simp

theorem St.full (S : St G A env ρ m σ h) : ∃ news, News G.H env.locals h news ∧ (∀ b o, h.get? b = some o → b ≠ env.locals → G.H.get? b = none → (b, o) ∈ news) ∧ (news.map (·.1)).Nodup := by
  refine ⟨(List.range h.objs.size).filterMap (fun b => if b = env.locals ∨ (G.H.get? b).isSome = true then none else (h.get? b).map (fun o => (b, o))), fun p hp => ?_, fun b o e n1 n2 => ?_, ?_⟩
  · obtain ⟨b, _, e⟩ := List.mem_filterMap.mp hp
    split at e
    · cases e
    · rename_i q
      obtain ⟨o, e1, e2⟩ := Option.map_eq_some_iff.mp e
      subst e2
      exact ⟨e1, fun z => q (.inl z), by
        cases z : G.H.get? b with
        | none => rfl
        | some => exact (q (.inr (by rw [z]; rfl))).elim⟩
  · refine List.mem_filterMap.mpr ⟨b, List.mem_range.mpr (Heap.lt_size e), ?_⟩
    rw [if_neg (by rw [n2]; simp [n1]), e]
    rfl
  · have : ∀ l : List Nat, l.Nodup → ((l.filterMap (fun b => if b = env.locals ∨ (G.H.get? b).isSome = true then none else (h.get? b).map (fun o => (b, o)))).map (·.1)).Nodup := by
      intro l
      induction l with
      | nil => intro _; exact List.nodup_nil
      | cons x r ih =>
        intro d
        rw [List.filterMap_cons]
        split
        · exact ih (List.nodup_cons.mp d).2
        · rename_i p e
          rw [List.map_cons, List.nodup_cons]
          refine ⟨fun hm => ?_, ih (List.nodup_cons.mp d).2⟩
          have ep : p.1 = x := by
            split at e
            · cases e
            · obtain ⟨o, _, e2⟩ := Option.map_eq_some_iff.mp e
              rw [← e2]
          obtain ⟨p', hp', e'⟩ := List.mem_map.mp hm
          obtain ⟨y, hy, e3⟩ := List.mem_filterMap.mp hp'
          have ey : p'.1 = y := by
            split at e3
            · cases e3
            · obtain ⟨o, _, e2⟩ := Option.map_eq_some_iff.mp e3
              rw [← e2]
          rw [ey, ep] at e'
          exact (List.nodup_cons.mp d).1 (e' ▸ hy)
    exact this _ List.nodup_range
theorem St.fr_ (S : St G A env ρ m σ h) {mm : Str → Option Value} (hn : h.Ns env.locals mm) : Fr G.H env.locals h mm := ⟨hn, S.base, S.low⟩
theorem kept_of {H h h' : Heap} {L a : Addr} {pre post : List (Addr × Obj)} {o0 o' : Obj} {mm : Str → Option Value} (base : ∀ b o, H.get? b = some o → h.get? b = some o)
    (hf : ∀ b o, h.get? b = some o → b ≠ L → H.get? b = none → (b, o) ∈ pre ++ (a, o0) :: post) (F' : Fr H L h' mm) (N' : News H L h' (pre ++ (a, o') :: post)) :
    ∀ b o, b ≠ a → b ≠ L → h.get? b = some o → h'.get? b = some o := fun b o n1 n2 e => by
  cases q : H.get? b with
  | some o1 =>
    have := base b o1 q
    rw [e] at this
    cases this
    exact F'.keep b o q
  | none =>
    rcases List.mem_append.mp (hf b o e n2 q) with m | m
    · exact (N' _ (List.mem_append_left _ m)).1
    · rcases List.mem_cons.mp m with m | m
      · cases m; exact (n1 rfl).elim
      · exact (N' _ (List.mem_append_right _ (.tail _ m))).1
end

end Mine
end
section
open PySem PySem.W PyProof.Rows PySem.Calls PySem.Spec
set_option maxRecDepth 10000
namespace Mine

@[reducible] noncomputable def sh (z : Shared) (h : Heap) (tk : Tok) : Shared := ⟨h, z.gens, z.drawn, tk, z.os⟩

structure Cx where
  qual : Str
  scope : Scope
  n : Nat
  d : Nat
  hn : Bool
  cd : Option Value

structure GOk (G : Gd) : Prop where
  X : G.K.In G.H
  T : ∃ p loose mg mb, TopRead p loose mg mb G.H
  B : ∃ mg bm ob, G.H.Ns mainGlobals mg ∧ mg "__builtins__" = some (.ref bm) ∧ bm ≠ builtinsNs ∧ G.H.get? bm = some ob ∧ ob.cls = .type "module" ∧ ob.dict = some builtinsNs ∧ ob.data = .plain

structure Ok (G : Gd) (c : Cx) (A : Around) (env : Env) : Prop where
  cd : ∀ v, c.cd = some v → env.code = v
  cinj : ∀ x0, c.scope.names.lookup x0 = some .cell → ∀ x y ca, env.cells.lookup x = some ca → env.cells.lookup y = some ca → x = y
  env : ∃ L a cd cl, env = envX c.qual c.scope L a cd cl
  kind : c.scope.kind = .function
  room : A.depth + 3 * c.d + 3 < recursionLimit
  units : A.units + 20 * c.d + 100 < cLine
  hn : c.hn = true → A.handled = none
  gd : GOk G

inductive FlyR (G : Gd) (P : Option Value → Prop) (ρ : Rho) (h0 h : Heap) (e : Addr) (vs : Array Value) : Prop
  | mk (T : Addr) (oT : Obj) (ts : Array Value) (tr : Addr) (x : Value) : vs[1]? = some (.ref T) → T ≠ e → G.H.get? T = none → h0.get? T = none → ¬ρ.own T → h.get? T = some oT → oT.data = .fields ts → ts[1]? = some (.ref tr) → ts[3]? = some x → P (some x) → FlyR G P ρ h0 h e vs
inductive Fly (G : Gd) (P : Option Value → Prop) (ρ : Rho) (h0 h : Heap) (e : Addr) (v : V) : Prop
  | mk : G.H.get? e = none → h0.get? e = none → ¬ρ.own e → ∀ (oe : Obj) (vs : Array Value) (a0 : Value) (d : Addr) (des : List DictEntry) (n : Nat) (v' : Value), h.get? e = some oe → oe.cls = .ref G.EC → oe.dict = some d → oe.data = .fields vs → vs[0]? = some a0 → ((vs[1]? = some .none ∧ P none) ∨ FlyR G P ρ h0 h e vs) →
    h.get? d = some (dictOf des n) → ¬ρ.own d → getL "value" des = some (some v') → VR G.EC ρ h v v' → Fly G P ρ h0 h e v
noncomputable def fl0 (L : Addr) (x : Option Value) : Prop := x = none ∨ x = some .none ∨ x = some (rawInt L)

theorem Fly.mono {G ρ' h0 h1 h' e v} {P P' : Option Value → Prop} (f : Fly G P ρ' h1 h' e v) (k : ∀ b o, h0.get? b = some o → ∃ o', h1.get? b = some o') (hP : ∀ x, P x → P' x := by exact fun _ q => q) : Fly G P' ρ' h0 h' e v := by
  have nn : ∀ b, h1.get? b = none → h0.get? b = none := fun b q => get_none fun o e => by
    obtain ⟨o', e'⟩ := k b o e
    rw [q] at e'; cases e'
  obtain ⟨f0, f1, f2, oe, vs, a0, d, des, n, v', g1, g2, g3, g4, g5, g6, g7, g8, g9, g10⟩ := f
  refine ⟨f0, nn e f1, f2, oe, vs, a0, d, des, n, v', g1, g2, g3, g4, g5, ?_, g7, g8, g9, g10⟩
  rcases g6 with g6 | ⟨T, oT, ts, tr, x, k1, k2, k2', k3, k4, k5, k6, k7, k8, k9⟩
  · exact .inl ⟨g6.1, hP _ g6.2⟩
  · exact .inr ⟨T, oT, ts, tr, x, k1, k2, k2', nn T k3, k4, k5, k6, k7, k8, hP _ k9⟩

noncomputable abbrev Rel (α β : Type) := Rho → Heap → β → α → Prop
noncomputable def TR (G : Gd) (c : Cx) {α β : Type} (t : Env → Sem α) (R : Rel α β) (m : Loc) (σ : AS) (K : β → AS → Prop) (X : V → AS → Prop) : Prop :=
  ∀ (A : Around) (env : Env) (ρ : Rho) (h : Heap) (tk : Tok) (z : Shared) (Q : α → Shared → Prop) (E : Value → Shared → Prop), Ok G c A env → St G A env ρ m σ h →
    (∀ ρ' h' tk' b a σ', K b σ' → St G A env ρ' m σ' h' → Ext ρ.l.length ρ h ρ' h' → R ρ' h' b a → Q a (sh z h' tk')) →
    (∀ ρ' h' tk' v e σ', X v σ' → St G A env ρ' m σ' h' → Ext ρ.l.length ρ h ρ' h' → Fly G (fl0 env.locals) ρ' h h' e v → E (.ref e) (sh z h' tk')) →
    wpAny (model PG G.w) A (t env) Q E (sh z h tk)

noncomputable abbrev VRel (G : Gd) : Rel Value V := fun ρ h v a => VR G.EC ρ h v a
noncomputable abbrev BRel : Rel Bool Bool := fun _ _ b a => b = a
noncomputable abbrev VsRel (G : Gd) : Rel (List Value) (List V) := fun ρ h v a => VRs G.EC ρ h v a
noncomputable abbrev AE (G : Gd) (c : Cx) (e : Expr) := TR G c (fun env => eval e env) (VRel G)
noncomputable abbrev AB (G : Gd) (c : Cx) (e : Expr) := TR G c (fun env => isTrue e env (eval e env)) BRel

inductive Fl where
  | next | ret (v : V) | brk | cont
inductive FR (G : Gd) (ρ : Rho) (h : Heap) : Fl → Flow → Prop
  | next : FR G ρ h .next .next
  | ret {v a} : VR G.EC ρ h v a → FR G ρ h (.ret v) (.ret a)
  | brk : FR G ρ h .brk .brk
  | cont : FR G ρ h .cont .cont
noncomputable def SX (G : Gd) (c : Cx) (t : Env → Sem Flow) (m : Loc) (σ : AS) (K : Fl → Loc → AS → Prop) (X : V → Loc → AS → Prop) : Prop :=
  ∀ (A : Around) (env : Env) (ρ : Rho) (h : Heap) (tk : Tok) (z : Shared) (Q : Flow → Shared → Prop) (E : Value → Shared → Prop), Ok G c A env → St G A env ρ m σ h → c.n ≤ ρ.l.length →
    (∀ ρ' h' tk' fl m' σ' a, K fl m' σ' → St G A env ρ' m' σ' h' → Ext c.n ρ h ρ' h' → FR G ρ' h' fl a → Q a (sh z h' tk')) →
    (∀ ρ' h' tk' v m' σ' e, X v m' σ' → St G A env ρ' m' σ' h' → Ext c.n ρ h ρ' h' → Fly G (fl0 env.locals) ρ' h h' e v → E (.ref e) (sh z h' tk')) →
    wpAny (model PG G.w) A (t env) Q E (sh z h tk)
noncomputable abbrev SS (G : Gd) (c : Cx) (l : List Stmt) := SX G c (fun env => execs l env)
noncomputable abbrev S1 (G : Gd) (c : Cx) (st : Stmt) := SX G c (fun env => exec st env)

section
variable {G : Gd} {c : Cx} {m : Loc} {σ : AS} {K : V → AS → Prop} {X : V → AS → Prop}

theorem TR.mono {α β : Type} {t : Env → Sem α} {R : Rel α β} {K K' : β → AS → Prop} {X X' : V → AS → Prop} (h : TR G c t R m σ K X) (hK : ∀ b σ', K b σ' → K' b σ') (hX : ∀ v σ', X v σ' → X' v σ') : TR G c t R m σ K' X' :=
  fun A env ρ hh tk z Q E ok S hQ hE => h A env ρ hh tk z Q E ok S (fun ρ' h' tk' b a σ' q => hQ ρ' h' tk' b a σ' (hK b σ' q)) fun ρ' h' tk' v e σ' q => hE ρ' h' tk' v e σ' (hX v σ' q)

theorem two {α β γ δ : Type} {t1 : Env → Sem α} {R1 : Rel α β} {t2 : Env → Sem γ} {R2 : Rel γ δ} {K2 : β → δ → AS → Prop} (hR : ∀ ρ h ρ' h' b a, R1 ρ h b a → Ext ρ.l.length ρ h ρ' h' → R1 ρ' h' b a)
    (hx : TR G c t1 R1 m σ (fun b σ1 => TR G c t2 R2 m σ1 (fun d σ2 => K2 b d σ2) X) X)
    {A : Around} {env : Env} {ρ : Rho} {h : Heap} {tk : Tok} {z : Shared} {Q : α → γ → Shared → Prop} {E : Value → Shared → Prop} (ok : Ok G c A env) (S : St G A env ρ m σ h)
    (hQ : ∀ ρ' h' tk' b d a e σ', K2 b d σ' → St G A env ρ' m σ' h' → Ext ρ.l.length ρ h ρ' h' → R1 ρ' h' b a → R2 ρ' h' d e → Q a e (sh z h' tk'))
    (hE : ∀ ρ' h' tk' v e σ', X v σ' → St G A env ρ' m σ' h' → Ext ρ.l.length ρ h ρ' h' → Fly G (fl0 env.locals) ρ' h h' e v → E (.ref e) (sh z h' tk')) :
    wpAny (model PG G.w) A (t1 env) (fun a s1 => wpAny (model PG G.w) A (t2 env) (fun e s2 => Q a e s2) E s1) E (sh z h tk) :=
  hx A env ρ h tk z _ _ ok S (fun ρ1 h1 tk1 b a σ1 k1 S1 x1 r1 => k1 A env ρ1 h1 tk1 z _ _ ok S1
    (fun ρ2 h2 tk2 d e σ2 k2 S2 x2 r2 => hQ ρ2 h2 tk2 b d a e σ2 k2 S2 (x1.trans (x2.mono x1.len)) (hR _ _ _ _ _ _ r1 x2) r2)
    fun ρ2 h2 tk2 v e σ2 q S2 x2 f2 => hE ρ2 h2 tk2 v e σ2 q S2 (x1.trans (x2.mono x1.len)) (f2.mono x1.old)) hE

theorem vext : ∀ ρ h ρ' h' v a, VRel G ρ h v a → Ext ρ.l.length ρ h ρ' h' → VRel G ρ' h' v a := fun _ _ _ _ _ _ r x => r.ext x
section
variable {K : Fl → Loc → AS → Prop} {X : V → Loc → AS → Prop}
theorem SX.mono {t : Env → Sem Flow} {K K' : Fl → Loc → AS → Prop} {X X' : V → Loc → AS → Prop} (h : SX G c t m σ K X) (hK : ∀ b m' σ', K b m' σ' → K' b m' σ') (hX : ∀ v m' σ', X v m' σ' → X' v m' σ') : SX G c t m σ K' X' :=
  fun A env ρ hh tk z Q E ok S hn hQ hE => h A env ρ hh tk z Q E ok S hn (fun ρ' h' tk' b m' σ' a q => hQ ρ' h' tk' b m' σ' a (hK b m' σ' q)) fun ρ' h' tk' v m' σ' e q => hE ρ' h' tk' v m' σ' e (hX v m' σ' q)
theorem ss_nil (h : K .next m σ) : SS G c [] m σ K X := fun _ _ ρ hh tk _ _ _ _ S hn hQ _ => wpAny_execs_nil (hQ ρ hh tk .next m σ _ h S (.refl hn) .next)
theorem ss_cons {st rest} (h : S1 G c st m σ (fun fl m1 σ1 => match fl with | .next => SS G c rest m1 σ1 K X | fl => K fl m1 σ1) X) : SS G c (st :: rest) m σ K X := by
  intro A env ρ hh tk z Q E ok S hn hQ hE
  refine wpAny_execs_cons ?_
  refine h A env ρ hh tk z _ _ ok S hn (fun ρ1 h1 tk1 fl m1 σ1 a k1 S1 x1 r1 => ?_) hE
  cases r1 with
  | next =>
    exact k1 A env ρ1 h1 tk1 z _ _ ok S1 x1.len (fun ρ2 h2 tk2 fl m2 σ2 a k2 S2 x2 r2 => hQ ρ2 h2 tk2 fl m2 σ2 a k2 S2 (x1.trans x2) r2)
      fun ρ2 h2 tk2 v m2 σ2 e k2 S2 x2 f2 => hE ρ2 h2 tk2 v m2 σ2 e k2 S2 (x1.trans x2) (f2.mono x1.old)
  | ret r => exact hQ ρ1 h1 tk1 _ m1 σ1 _ k1 S1 x1 (.ret r)
  | brk => exact hQ ρ1 h1 tk1 _ m1 σ1 _ k1 S1 x1 .brk
  | cont => exact hQ ρ1 h1 tk1 _ m1 σ1 _ k1 S1 x1 .cont
theorem s_ret {e pos} (h : AE G c e m σ (fun v σ' => K (.ret v) m σ') (fun v σ' => X v m σ')) : S1 G c (.Return (some e) pos) m σ K X := by
  intro A env ρ hh tk z Q E ok S hn hQ hE
  refine wpAny_Return_some ?_
  exact h A env ρ hh tk z _ _ ok S (fun ρ1 h1 tk1 v a σ1 k1 S1 x1 r1 => hQ ρ1 h1 tk1 _ m σ1 _ k1 S1 (x1.mono hn) (.ret r1)) fun ρ1 h1 tk1 v e σ1 k1 S1 x1 f1 => hE ρ1 h1 tk1 v m σ1 e k1 S1 (x1.mono hn) f1
theorem s_if {test body orelse pos} (h : AB G c test m σ (fun b σ1 => match b with | true => SS G c body m σ1 K X | false => SS G c orelse m σ1 K X) (fun v σ' => X v m σ')) :
    S1 G c (.If test body orelse pos) m σ K X := by
  intro A env ρ hh tk z Q E ok S hn hQ hE
  refine wpAny_If ?_
  refine h A env ρ hh tk z _ _ ok S (fun ρ1 h1 tk1 b a σ1 k1 S1 x1 r1 => ?_) fun ρ1 h1 tk1 v e σ1 k1 S1 x1 f1 => hE ρ1 h1 tk1 v m σ1 e k1 S1 (x1.mono hn) f1
  subst r1
  have x1' := x1.mono hn
  cases b <;> exact k1 A env ρ1 h1 tk1 z _ _ ok S1 x1'.len (fun ρ2 h2 tk2 fl m2 σ2 a k2 S2 x2 r2 => hQ ρ2 h2 tk2 fl m2 σ2 a k2 S2 (x1'.trans x2) r2)
      fun ρ2 h2 tk2 v m2 σ2 e k2 S2 x2 f2 => hE ρ2 h2 tk2 v m2 σ2 e k2 S2 (x1'.trans x2) (f2.mono x1'.old)
end
end
end Mine
end
section
open PySem PySem.W PyProof.Rows PySem.Calls PySem.Spec
set_option maxRecDepth 10000
namespace Mine
section
variable {G : Gd} {c : Cx} {m : Loc} {σ : AS} {K : V → AS → Prop} {X : V → AS → Prop}
theorem e_int {i k pos} (h : K (.int i) σ) : AE G c (.Constant (.int i) k pos) m σ K X :=
  fun A env ρ hh tk z Q E ok S hQ hX => wpAny_Constant_int (hQ ρ hh (tk + 1) (.int i) _ σ h S (.refl (Nat.le_refl _)) .int)
theorem e_byt {b k pos} (h : K (.byt b.toArray) σ) : AE G c (.Constant (.bytes b) k pos) m σ K X :=
  fun A env ρ hh tk z Q E ok S hQ hX => Constant_bytes (hQ ρ hh (tk + 1) (.byt b.toArray) _ σ h S (.refl (Nat.le_refl _)) .byt)
theorem e_str {x k pos} (h : K (.str x) σ) : AE G c (.Constant (.str x) k pos) m σ K X :=
  fun A env ρ hh tk z Q E ok S hQ hX => wpAny_Constant_str (hQ ρ hh (tk + 1) (.str x) _ σ h S (.refl (Nat.le_refl _)) .str)
theorem e_bool {b k pos} (h : K (.bool b) σ) : AE G c (.Constant (.bool b) k pos) m σ K X :=
  fun A env ρ hh tk z Q E ok S hQ hX => Constant_bool (hQ ρ hh tk (.bool b) _ σ h S (.refl (Nat.le_refl _)) .bool)
theorem e_none {k pos} (h : K .none σ) : AE G c (.Constant .none k pos) m σ K X :=
  fun A env ρ hh tk z Q E ok S hQ hX => Constant_none (hQ ρ hh tk .none _ σ h S (.refl (Nat.le_refl _)) .none)
theorem e_local {x pos v} (hx : m.lookup x = some v) (hk : c.scope.names.lookup x = some .local) (h : K v σ) (hd : (x == ("__debug__" : Str)) = false := by decide) : AE G c (.Name x pos) m σ K X := by
  intro A env ρ hh tk z Q E ok S hQ hX
  obtain ⟨L, a, cd, cl, rfl⟩ := ok.env
  obtain ⟨mm, hn, hm⟩ := S.loc
  obtain ⟨b, e, r⟩ := hm x v hx hk
  exact wpAny_Name (wpAny_loadName_local ok.kind hk hn e (hQ ρ hh tk v b σ h S (.refl (Nat.le_refl _)) r)) hd
theorem e_cell {x pos v} (hx : m.lookup x = some v) (hk : c.scope.names.lookup x = some .cell) (h : K v σ) (hd : (x == ("__debug__" : Str)) = false := by decide) : AE G c (.Name x pos) m σ K X := by
  intro A env ρ hh tk z Q E ok S hQ hX
  obtain ⟨L, a, cd, cl, rfl⟩ := ok.env
  obtain ⟨ca, b, e, e2, r, _⟩ := S.cel x v hx (.inl hk)
  exact wpAny_Name (wpAny_loadName_cell ok.kind hk e e2 (hQ ρ hh tk v b σ h S (.refl (Nat.le_refl _)) r)) hd
theorem e_free {x pos v} (hx : m.lookup x = some v) (hk : c.scope.names.lookup x = some .free) (h : K v σ) (hd : (x == ("__debug__" : Str)) = false := by decide) (hc : (x == ("__classdict__" : Str)) = false := by decide) : AE G c (.Name x pos) m σ K X := by
  intro A env ρ hh tk z Q E ok S hQ hX
  obtain ⟨L, a, cd, cl, rfl⟩ := ok.env
  obtain ⟨ca, b, e, e2, r, _⟩ := S.cel x v hx (.inr hk)
  exact wpAny_Name (wpAny_loadName_free ok.kind hk e e2 (hQ ρ hh tk v b σ h S (.refl (Nat.le_refl _)) r) hc) hd
noncomputable def gV : Value → V
  | .none => .none | .bool b => .bool b | .int i _ => .int i | .bytes b _ => .byt b | .str x _ => .str x | v => .cst v
theorem gV_ok {ρ h v} : VR G.EC ρ h (gV v) v := by cases v <;> first | exact .none | exact .bool | exact .int | exact .byt | exact .str | exact .cst
theorem e_glob {x pos v u} (hx : nsIn G.K mainGlobals x = some (some v)) (hk : c.scope.names.lookup x = some .globalImplicit) (hu : gV v = u) (h : K u σ) (hd : (x == ("__debug__" : Str)) = false := by decide) : AE G c (.Name x pos) m σ K X := by
  intro A env ρ hh tk z Q E ok S hQ hX
  subst hu
  obtain ⟨L, a, cd, cl, rfl⟩ := ok.env
  obtain ⟨mm, hn, hm⟩ := S.loc
  obtain ⟨p, loose, mg, mb, T⟩ := ok.gd.T
  exact nameX_K (S.fr_ hn) ok.gd.X T hx (hQ ρ hh tk _ v σ h S (.refl (Nat.le_refl _)) gV_ok) ok.kind hk hd
theorem e_blt {x pos v} (hx : nsIn G.K mainGlobals x = some none) (hv : bootBuiltins x = some v) (hk : c.scope.names.lookup x = some .globalImplicit) (h : K (.cst v) σ) (hn : x ≠ "__name__" := by decide) (hd : (x == ("__debug__" : Str)) = false := by decide) : AE G c (.Name x pos) m σ K X := by
  intro A env ρ hh tk z Q E ok S hQ hX
  obtain ⟨L, a, cd, cl, rfl⟩ := ok.env
  obtain ⟨mm, hn', hm⟩ := S.loc
  obtain ⟨p, loose, mg, mb, T⟩ := ok.gd.T
  exact nameX_B (S.fr_ hn') ok.gd.X T hx hv hn (hQ ρ hh tk _ v σ h S (.refl (Nat.le_refl _)) .cst) ok.kind hk hd
inductive IntOp : Operator → (Int → Int → Int) → Prop
  | add : IntOp .Add (· + ·)
  | sub : IntOp .Sub (· - ·)
theorem e_bin {op f e1 e2 pos} (ho : IntOp op f) (h : AE G c e1 m σ (fun v1 σ1 => AE G c e2 m σ1 (fun v2 σ2 => ∃ i j, v1 = .int i ∧ v2 = .int j ∧ K (.int (f i j)) σ2) X) X) : AE G c (.BinOp e1 op e2 pos) m σ K X := by
  intro A env ρ hh tk z Q E ok S hQ hX
  refine wpAny_BinOp (two vext h ok S (fun ρ' h' tk' b d a e σ' k S' x r1 r2 => ?_) hX)
  obtain ⟨i, j, rfl, rfl, k⟩ := k
  cases r1
  cases r2
  cases ho
  · exact add_int (hQ ρ' h' _ _ _ σ' k S' x .int)
  · exact sub_int (hQ ρ' h' _ _ _ σ' k S' x .int)
theorem e_mul {e1 e2 pos} (h : AE G c e1 m σ (fun v1 σ1 => AE G c e2 m σ1 (fun v2 σ2 => ∃ i j, v1 = .int i ∧ v2 = .int j ∧ IntMulOk i j ∧ K (.int (i * j)) σ2) X) X) : AE G c (.BinOp e1 .Mult e2 pos) m σ K X := by
  intro A env ρ hh tk z Q E ok S hQ hX
  refine wpAny_BinOp (two vext h ok S (fun ρ' h' tk' b d a e σ' k S' x r1 r2 => ?_) hX)
  obtain ⟨i, j, rfl, rfl, q, k⟩ := k
  cases r1
  cases r2
  exact mul_int (hQ ρ' h' _ _ _ σ' k S' x .int) q
theorem e_mod {e1 e2 pos} (h : AE G c e1 m σ (fun v1 σ1 => AE G c e2 m σ1 (fun v2 σ2 => ∃ i j, v1 = .int i ∧ v2 = .int j ∧ j ≠ 0 ∧ K (.int (i.fmod j)) σ2) X) X) : AE G c (.BinOp e1 .Mod e2 pos) m σ K X := by
  intro A env ρ hh tk z Q E ok S hQ hX
  refine wpAny_BinOp (two vext h ok S (fun ρ' h' tk' b d a e σ' k S' x r1 r2 => ?_) hX)
  obtain ⟨i, j, rfl, rfl, q, k⟩ := k
  cases r1
  cases r2
  exact mod_int' q (hQ ρ' h' _ _ _ σ' k S' x .int)
theorem e_fdiv {e1 e2 pos} (h : AE G c e1 m σ (fun v1 σ1 => AE G c e2 m σ1 (fun v2 σ2 => ∃ i j, v1 = .int i ∧ v2 = .int j ∧ j ≠ 0 ∧ Builtin.divisionGoesByPylong i j = false ∧ K (.int (i.fdiv j)) σ2) X) X) : AE G c (.BinOp e1 .FloorDiv e2 pos) m σ K X := by
  intro A env ρ hh tk z Q E ok S hQ hX
  refine wpAny_BinOp (two vext h ok S (fun ρ' h' tk' b d a e σ' k S' x r1 r2 => ?_) hX)
  obtain ⟨i, j, rfl, rfl, q, q2, k⟩ := k
  cases r1
  cases r2
  exact floordiv_int q (hQ ρ' h' _ _ _ σ' k S' x .int) (.inl q2)
theorem e_neg {e pos} (h : AE G c e m σ (fun v σ1 => ∃ i, v = .int i ∧ K (.int (-i)) σ1) X) : AE G c (.UnaryOp .USub e pos) m σ K X := by
  intro A env ρ hh tk z Q E ok S hQ hX
  refine UnaryOp_ (h A env ρ hh tk z _ _ ok S (fun ρ' h' tk' b a σ' k S' x r1 => ?_) hX)
  obtain ⟨i, rfl, k⟩ := k
  cases r1
  exact neg_int (hQ ρ' h' _ _ _ σ' k S' x .int)

inductive IntCmp : CmpOp → (Int → Int → Bool) → Prop
  | lt : IntCmp .Lt (fun a b => decide (a < b))
  | le : IntCmp .LtE (fun a b => decide (a ≤ b))
  | gt : IntCmp .Gt (fun a b => decide (a > b))
  | ge : IntCmp .GtE (fun a b => decide (a ≥ b))
  | eq : IntCmp .Eq (fun a b => a == b)
  | ne : IntCmp .NotEq (fun a b => a != b)
theorem cmp_ints {op f} (ho : IntCmp op f) {prog : Program} {w : World} {A : Around} {E : Value → Shared → Prop} {s : Shared} {i j : Int} {t u : Tok} {Q : Value → Shared → Prop} (h : Q (.bool (f i j)) s) :
    wpAny (model prog w) A (compareOp op (.int i t) (.int j u)) Q E s := by
  cases ho
  · exact lt_int h
  · exact le_int h
  · exact gt_int h
  · exact ge_int h
  · exact eq_int h
  · exact ne_int h
theorem e_cmp {op f e1 e2 pos} (ho : IntCmp op f) (h : AE G c e1 m σ (fun v1 σ1 => AE G c e2 m σ1 (fun v2 σ2 => ∃ i j, v1 = .int i ∧ v2 = .int j ∧ K (.bool (f i j)) σ2) X) X)
    (hm : behindInMarks op e2 = false := by with_unfolding_all rfl) : AE G c (.Compare e1 [op] [e2] pos) m σ K X := by
  intro A env ρ hh tk z Q E ok S hQ hX
  refine wpAny_Compare1 (two vext h ok S (fun ρ' h' tk' b d a e σ' k S' x r1 r2 => ?_) hX) hm
  obtain ⟨i, j, rfl, rfl, k⟩ := k
  cases r1
  cases r2
  exact cmp_ints ho (hQ ρ' h' _ _ _ σ' k S' x .bool)
section
variable {K : Bool → AS → Prop}
noncomputable def tru : V → Option Bool
  | .bool b => some b
  | .none => some false
  | .int i => some (i != 0)
  | _ => Option.none
theorem truthy_of {v b ρ h a} (ht : tru v = some b) (r : VR G.EC ρ h v a) {A : Around} {E : Value → Shared → Prop} {s : Shared} {Q : Bool → Shared → Prop} (q : Q b s) : wpAny (model PG G.w) A (truthy a) Q E s := by
  cases r <;> cases ht
  · exact truthy_none q
  · exact wpAny_truthy_bool q
  · exact truthy_int q
theorem b_val {e} (h : AE G c e m σ (fun v σ1 => ∃ b, tru v = some b ∧ K b σ1) X) (he : ∀ env, isTrue e env (eval e env) = (do let v ← eval e env; standAt e.pos; holding [v] (truthy v)) := by intro _; rfl) : AB G c e m σ K X := by
  intro A env ρ hh tk z Q E ok S hQ hX
  refine isTrue_plain (h A env ρ hh tk z _ _ ok S (fun ρ' h' tk' b a σ' k S' x r1 => ?_) hX) (he env)
  obtain ⟨t, ht, k⟩ := k
  exact truthy_of ht r1 (hQ ρ' h' tk' t t σ' k S' x rfl)
theorem b_cmp {op f e1 e2 pos} (ho : IntCmp op f) (h : AE G c e1 m σ (fun v1 σ1 => AE G c e2 m σ1 (fun v2 σ2 => ∃ i j, v1 = .int i ∧ v2 = .int j ∧ K (f i j) σ2) X) X)
    (hm : behindInMarks op e2 = false := by with_unfolding_all rfl) : AB G c (.Compare e1 [op] [e2] pos) m σ K X := by
  intro A env ρ hh tk z Q E ok S hQ hX
  refine wpAny_isTrue_Compare1 (two vext h ok S (fun ρ' h' tk' b d a e σ' k S' x r1 r2 => ?_) hX) hm
  obtain ⟨i, j, rfl, rfl, k⟩ := k
  cases r1
  cases r2
  exact cmp_ints ho (wpAny_truthy_bool (hQ ρ' h' _ _ _ σ' k S' x rfl))
theorem b_not {e pos} (h : AB G c e m σ (fun b σ1 => K (!b) σ1) X) : AB G c (.UnaryOp .Not e pos) m σ K X := by
  intro A env ρ hh tk z Q E ok S hQ hX
  refine isTrue_not (h A env ρ hh tk z _ _ ok S (fun ρ' h' tk' b a σ' k S' x r1 => ?_) hX)
  subst r1
  exact hQ ρ' h' tk' _ _ σ' k S' x rfl
end
theorem e_ite {test body orelse pos} (h : AB G c test m σ (fun b σ1 => match b with | true => AE G c body m σ1 K X | false => AE G c orelse m σ1 K X) X) : AE G c (.IfExp test body orelse pos) m σ K X := by
  intro A env ρ hh tk z Q E ok S hQ hX
  refine IfExp_ (h A env ρ hh tk z _ _ ok S (fun ρ1 h1 tk1 b a σ1 k1 S1 x1 r1 => ?_) hX)
  subst r1
  cases b <;> exact k1 A env ρ1 h1 tk1 z _ _ ok S1 (fun ρ2 h2 tk2 fl σ2 a k2 S2 x2 r2 => hQ ρ2 h2 tk2 fl σ2 a k2 S2 (x1.trans (x2.mono x1.len)) r2)
      fun ρ2 h2 tk2 v σ2 e k2 S2 x2 f2 => hX ρ2 h2 tk2 v σ2 e k2 S2 (x1.trans (x2.mono x1.len)) (f2.mono x1.old)
noncomputable def cellOf (σ : AS) : V → Option Cell
  | .w i => σ.w[i]?
  | .l i => σ.l[i]?
  | _ => Option.none
noncomputable def instOf (σ : AS) (v : V) : Option (Addr × List (Str × V)) := match v with
  | .ins C es => some (C, es)
  | v => match cellOf σ v with
    | some (.inst C d) => (match cellOf σ d with
      | some (.dict es) => some (C, es)
      | _ => Option.none)
    | _ => Option.none
theorem cell_at {A env ρ h v cc} (S : St G A env ρ m σ h) (e : cellOf σ v = some cc) {a} (r : VR G.EC ρ h v (.ref a)) : CellOk G.EC G.w ρ h a cc := by
  cases v with
  | w i => cases r with | w q => exact S.cw i cc a e q
  | l i => cases r with | l q => exact S.cl i cc a e q
  | _ => cases e
theorem cell_ref {A env ρ h v cc} (S : St G A env ρ m σ h) (e : cellOf σ v = some cc) {a} (r : VR G.EC ρ h v a) : ∃ b, a = .ref b := by
  cases v with
  | w i => cases r with | w q => exact ⟨_, rfl⟩
  | l i => cases r with | l q => exact ⟨_, rfl⟩
  | _ => cases e
theorem isStr_self (x y : Str) (t : Tok) : (Value.str y t).isStr x = (y == x) := rfl
theorem dict_get {ρ h} {es : List (Str × V)} {des : List DictEntry} (D : DictR G.EC G.w.params ρ h es des) {x v} (e : es.lookup x = some v) : ∃ a, getL x des = some (some a) ∧ VR G.EC ρ h v a := by
  induction es generalizing des with
  | nil => cases e
  | cons p r ih =>
    obtain ⟨hl, hr⟩ := D
    cases des with
    | nil => simp at hl
    | cons d ds =>
      obtain ⟨q1, ⟨tk, q2⟩, q3⟩ := hr 0 p d rfl rfl
      rw [List.lookup_cons] at e
      unfold getL
      rw [List.find?_cons]
      by_cases hx : (x == p.1) = true
      · rw [hx] at e
        cases e
        have : d.key.isStr x = true := by rw [q2, isStr_self]; exact beq_iff_eq.mpr (beq_iff_eq.mp hx).symm
        rw [this]
        exact ⟨_, rfl, q3⟩
      · have hx' : (x == p.1) = false := by simpa using hx
        rw [hx'] at e
        have : d.key.isStr x = false := by
          rw [q2, isStr_self]
          exact beq_eq_false_iff_ne.mpr fun z => (beq_eq_false_iff_ne.mp hx') z.symm
        rw [this]
        obtain ⟨a, e1, e2⟩ := ih (des := ds) ⟨by simpa using hl, fun i a b c d => hr (i + 1) a b (by simpa using c) (by simpa using d)⟩ e
        refine ⟨a, ?_, e2⟩
        unfold getL at e1
        have nr : d.refKey = false := by unfold DictEntry.refKey; rw [q2]
        simp only [List.any_cons, nr, Bool.false_or]
        exact e1
theorem dict_none {ρ h} {es : List (Str × V)} {des : List DictEntry} (D : DictR G.EC G.w.params ρ h es des) {x} (e : es.lookup x = none) : getL x des = some none := by
  induction es generalizing des with
  | nil =>
    have := D.1
    cases des with
    | nil => rfl
    | cons => simp at this
  | cons p r ih =>
    obtain ⟨hl, hr⟩ := D
    cases des with
    | nil => simp at hl
    | cons d ds =>
      obtain ⟨q1, ⟨tk, q2⟩, q3⟩ := hr 0 p d rfl rfl
      rw [List.lookup_cons] at e
      unfold getL
      rw [List.find?_cons]
      by_cases hx : (x == p.1) = true
      · rw [hx] at e; cases e
      · have hx' : (x == p.1) = false := by simpa using hx
        rw [hx'] at e
        have : d.key.isStr x = false := by
          rw [q2, isStr_self]
          exact beq_eq_false_iff_ne.mpr fun z => (beq_eq_false_iff_ne.mp hx') z.symm
        rw [this]
        have e1 := ih (des := ds) ⟨by simpa using hl, fun i a b c d => hr (i + 1) a b (by simpa using c) (by simpa using d)⟩ e
        unfold getL at e1
        have nr : d.refKey = false := by unfold DictEntry.refKey; rw [q2]
        simp only [List.any_cons, nr, Bool.false_or]
        exact e1
theorem inst_at {A env ρ h v C es} (S : St G A env ρ m σ h) (e : instOf σ v = some (C, es)) {a} (r : VR G.EC ρ h v a) :
    ∃ x dx des n, a = .ref x ∧ h.get? x = some (instObj C dx) ∧ h.get? dx = some (dictOf des n) ∧ (∀ y u, es.lookup y = some u → ∃ b, getL y des = some (some b) ∧ VR G.EC ρ h u b) ∧ (∀ y, es.lookup y = none → getL y des = some none) := by
  have key : ∀ v, (match cellOf σ v with | some (.inst C d) => (match cellOf σ d with | some (.dict es) => some (C, es) | _ => Option.none) | _ => Option.none) = some (C, es) → VR G.EC ρ h v a →
      ∃ x dx des n, a = .ref x ∧ h.get? x = some (instObj C dx) ∧ h.get? dx = some (dictOf des n) ∧ (∀ y u, es.lookup y = some u → ∃ b, getL y des = some (some b) ∧ VR G.EC ρ h u b) ∧ (∀ y, es.lookup y = none → getL y des = some none) := by
    intro v e r
    split at e
    · rename_i C' d hc
      split at e
      · rename_i es' hd
        cases e
        obtain ⟨x, rfl⟩ := cell_ref S hc r
        obtain ⟨dx, rd, hx⟩ := cell_at S hc r
        obtain ⟨des, n, hdx, D⟩ := cell_at S hd rd
        exact ⟨x, dx, des, n, rfl, hx, hdx, fun y u q => dict_get D q, fun y q => dict_none D q⟩
      · cases e
    · cases e
  cases v with
  | ins C' es' =>
    cases e
    cases r with
    | ins e1 e2 q1 q2 g g' rr => exact ⟨_, _, _, _, rfl, e1, e2, fun y u q => ⟨_, g y u q, rr y u q⟩, g'⟩
  | w i => exact key _ e r
  | l i => exact key _ e r
  | _ => cases e
noncomputable def attrOk (K : Frag) (C : Addr) (nm : Str) : Bool := plainGet K C nm && hasDictIn K C && (findIn K (.ref C) nm == some none)
noncomputable def handed : V → Bool
  | .any => false
  | .cst v => handedIn v
  | _ => true
theorem handed_of {ρ h v a} (r : VR G.EC ρ h v a) (e : handed v = true) : handedIn a = true := by cases r <;> first | rfl | exact e | cases e
theorem getattr_inst {A env ρ h tk z v C es a nm u} (ok : Ok G c A env) (S : St G A env ρ m σ h) (e : instOf σ v = some (C, es)) (r : VR G.EC ρ h v a) (ha : attrOk G.K C nm = true) (hl : es.lookup nm = some u) (hh : handed u = true) {Q : Value → Shared → Prop} {E : Value → Shared → Prop} {ex : Bool}
    (k : ∀ b, VR G.EC ρ h u b → Q b (sh z h (tk + 1))) : wpAny (model PG G.w) A (getAttr a nm ex) Q E (sh z h tk) := by
  obtain ⟨x, dx, des, n, rfl, hx, hd, g, _⟩ := inst_at S e r
  obtain ⟨b, e1, r1⟩ := g nm u hl
  obtain ⟨mm, hn, _⟩ := S.loc
  simp only [attrOk, Bool.and_eq_true, beq_iff_eq] at ha
  obtain ⟨⟨h1, h2⟩, h3⟩ := ha
  exact get_own (s := sh z h tk) (S.fr_ hn) ok.gd.X ⟨hx, rfl, rfl, hd⟩ h1 h2 h3 rfl e1 (handed_of r1 hh) (k b r1)
theorem e_attr {e nm pos} (h : AE G c e m σ (fun v σ1 => ∃ C es u, instOf σ1 v = some (C, es) ∧ attrOk G.K C nm = true ∧ es.lookup nm = some u ∧ handed u = true ∧ K u σ1) X)
    (he : ∀ env, eval (.Attribute e nm pos) env = (do
      let o ← eval e env
      standAt pos.atName
      let r ← holding [o] (getAttr o nm true)
      letTemporaryGo e o r
      pure r) := by intro _; with_unfolding_all rfl) : AE G c (.Attribute e nm pos) m σ K X := by
  intro A env ρ hh tk z Q E ok S hQ hX
  refine Attribute_any_ (h A env ρ hh tk z _ _ ok S (fun ρ1 h1 tk1 v a σ1 k1 S1 x1 r1 => ?_) hX) (he env)
  obtain ⟨C, es, u, q1, q2, q3, q4, k⟩ := k1
  exact getattr_inst ok S1 q1 r1 q2 q3 q4 fun b rb => hQ ρ1 h1 _ u b σ1 k S1 x1 rb
end
end Mine
end
section
open PySem PySem.W PyProof.Rows PySem.Calls PySem.Spec
set_option maxRecDepth 10000
namespace Mine
section
variable {G : Gd} {A : Around} {env : Env} {ρ : Rho} {m : Loc} {σ : AS} {h h' : Heap}

theorem St.loose (S : St G A env ρ m σ h) (kp : ∀ b o, h.get? b = some o → b ∉ ρ.fr → ρ.own b ∨ ¬Vol o → h'.get? b = some o)
    (kf : ∀ b o, h.get? b = some o → b ∈ ρ.fr → ∃ sl, h'.get? b = some { o with slots := sl })
    (kv : ∀ b o, h.get? b = some o → ¬ρ.own b → Vol o → ∃ o', h'.get? b = some o' ∧ o'.cls = o.cls ∧ o'.dict = o.dict ∧ Vol o')
    (kb : ∀ b o, G.H.get? b = some o → h'.get? b = some o) : St G A env ρ m σ h' ∧ Ext ρ.l.length ρ h ρ h' := by
  have old : ∀ b o, h.get? b = some o → ∃ o', h'.get? b = some o' := fun b o e => by
    by_cases q : b ∈ ρ.fr
    · obtain ⟨sl, e'⟩ := kf b o e q; exact ⟨_, e'⟩
    · by_cases v : Vol o
      · by_cases ow : ρ.own b
        · exact ⟨o, kp b o e q (.inl ow)⟩
        · obtain ⟨o', e', _⟩ := kv b o e ow v; exact ⟨o', e'⟩
      · exact ⟨o, kp b o e q (.inr v)⟩
  have x : Ext ρ.l.length ρ h ρ h' := by
    refine ⟨fun _ _ z => z, rfl, rfl, fun _ z => z, Nat.le_refl _, fun _ _ => rfl, fun _ z => .inl z, fun b o e q nv => kp b o e (fun z => ?_) (nv.elim .inr fun z => .inl (.inr (.inr (.inl z)))), kv, old, fun b o e q => kf b o e (List.mem_of_mem_tail q)⟩
    rcases q with q | q
    · exact q (.inl z)
    · exact (S.apart_fr z).2 q
  have kc : ∀ b o, ρ.own b → b ∉ ρ.fr → h.get? b = some o → h'.get? b = some o := fun b o q q' e => kp b o e q' (.inl q)
  refine ⟨⟨kb, S.low, S.fl, ?_, fun a q => ?_, S.nodup, ?_, fun y v e q => ?_, fun y q e => let ⟨ca, q1, ⟨o, q2, q2'⟩, q3⟩ := S.cun y q e; ⟨ca, q1, ⟨o, kp ca o q2 (fun z => S.ccL z q3) (.inr (nv_cell q2')), q2'⟩, q3⟩, S.wl, S.ll, fun i c a e1 e2 => (S.cw i c a e1 e2).ext x fun o => kc a o (own_w e2) (S.apart_w (List.mem_of_getElem? e2)).1, fun i c a e1 e2 => (S.cl i c a e1 e2).ext x fun o => kc a o (own_l e2) (S.apart_l (mem_l e2)).1⟩, x⟩
  · obtain ⟨outer, q, F⟩ := S.frs
    refine ⟨outer, q, F.eq, F.kd, fun a ha => ?_⟩
    obtain ⟨o, es, n, e, d⟩ := F.ok a ha
    obtain ⟨sl, e'⟩ := kf a o e ha
    exact ⟨_, es, n, e', d⟩
  · obtain ⟨q1, o, q2⟩ := S.hown a q
    exact ⟨q1, old a o q2⟩
  · obtain ⟨mm, ⟨o, es, ep, hn, r⟩, hm⟩ := S.loc
    obtain ⟨sl, hn'⟩ := kf _ o hn S.hL
    exact ⟨mm, ⟨_, es, ep, hn', r⟩, fun y v e q => let ⟨a, q1, q2⟩ := hm y v e q; ⟨a, q1, q2.ext x⟩⟩
  · obtain ⟨ca, a, q1, ⟨o, q2, q2'⟩, q3, q4⟩ := S.cel y v e q
    refine ⟨ca, a, q1, ⟨o, kp ca o q2 (fun z => ?_) (.inr (nv_cell q2')), q2'⟩, q3.ext x, q4⟩
    rcases q4 with q4 | q4
    · exact S.ccL z q4
    · exact q4 (.inl z)

theorem St.fun_ (S : St G A env ρ m σ h) : ∃ outer, A.frames = some (env :: outer) ∧ h.FunFrames G.H (env :: outer) ∧ (env :: outer).filterMap (·.frame) = ρ.fr := by
  obtain ⟨outer, q, F⟩ := S.frs
  refine ⟨outer, q, ?_, ?_⟩
  · have : ∀ (l : List Env) (fr : List Addr), l.map (·.frame) = fr.map some → (∀ e ∈ l, e.scope.kind ≠ .module) → (∀ a ∈ fr, ∃ o es n, h.get? a = some o ∧ o.data = .dict es n) → (∀ a ∈ fr, G.H.get? a = none) → h.FunFrames G.H l := by
      intro l
      induction l with
      | nil => intros; exact trivial
      | cons e r ih =>
        intro fr e1 e2 e3 e4
        cases fr with
        | nil => simp at e1
        | cons a fr =>
          rw [List.map_cons, List.map_cons] at e1
          obtain ⟨o, es, n, q1, q2⟩ := e3 a (.head _)
          exact ⟨e2 e (.head _), ⟨a, o, (List.cons.inj e1).1, e4 a (.head _), q1, fun vs q => by rw [q2] at q; cases q⟩,
            ih fr (List.cons.inj e1).2 (fun e he => e2 e (.tail _ he)) (fun a ha => e3 a (.tail _ ha)) fun a ha => e4 a (.tail _ ha)⟩
    exact this _ _ F.eq F.kd F.ok fun a ha => (S.hown a (.inl ha)).1
  · have : ∀ (l : List Env) (fr : List Addr), l.map (·.frame) = fr.map some → l.filterMap (·.frame) = fr := by
      intro l
      induction l with
      | nil => intro fr e; cases fr with | nil => rfl | cons => simp at e
      | cons e r ih =>
        intro fr e1
        cases fr with
        | nil => simp at e1
        | cons a fr =>
          rw [List.map_cons, List.map_cons] at e1
          rw [List.filterMap_cons, (List.cons.inj e1).1, ih fr (List.cons.inj e1).2]
    exact this _ _ F.eq

theorem vol_map {o : Obj} {vs i x} (d : o.data = .fields vs) (v : ∀ y t, vs[1]? ≠ some (.str y t)) (hx : ∀ y t, x ≠ .str y t) : Vol (o.mapFields (·.setIfInBounds i x)) := by
  refine ⟨_, Obj.data_mapFields d _, fun y t q => ?_⟩
  rw [Array.getElem?_setIfInBounds] at q
  split at q
  · split at q
    · exact hx y t (Option.some.inj q)
    · cases q
  · exact v y t q
theorem dict_map (o : Obj) (f) : (o.mapFields f).dict = o.dict := by
  obtain ⟨c, d, dt, sl⟩ := o
  cases dt <;> rfl
theorem upd_get {h : Heap} {a b : Addr} {o : Obj} (f : Obj → Obj) (n : b ≠ a) (e : h.get? b = some o) : (h.update a f).get? b = some o := by
  rw [Heap.get?_update_other _ _ (Ne.symm n)]; exact e

noncomputable def flyAt (L : Addr) (x : Option Value) : Prop := x = some (rawInt L)
noncomputable def flyNo (x : Option Value) : Prop := x = some .none
theorem fl0_at {L x} (q : flyAt L x) : fl0 L x := .inr (.inr q)
theorem fl0_no {L x} (q : flyNo x) : fl0 L x := .inr (.inl q)

theorem flightF {G : Gd} {A : Around} {env : Env} {ρ : Rho} {m : Loc} {σ : AS} {h h0 : Heap} {tk z e v} {P : Option Value → Prop} (S : St G A env ρ m σ h) (F : Fly G P ρ h0 h e v) (to : Option Addr) (ht : to = none ∨ to = some env.locals) (hP : ¬P none)
    {Q : Unit → Shared → Prop} {E : Value → Shared → Prop} (k : ∀ h', St G A env ρ m σ h' → Ext ρ.l.length ρ h ρ h' → Fly G (fun x => x = some (to.elim .none fun f => rawInt f)) ρ h0 h' e v → Q () (sh z h' tk)) :
    wpAny (model PG G.w) A (setFlight (.ref e) to) Q E (sh z h tk) := by
  obtain ⟨f0, f1, f2, oe, vs, a0, d, des, n, v', g1, g2, g3, g4, g5, g6, g7, g8, g9, g10⟩ := F
  rcases g6 with ⟨_, q⟩ | ⟨T, oT, ts, tr, x, k1, k2, k3, k4, k5, k6, k7, k8, k9, k10⟩
  · exact (hP q).elim
  unfold setFlight
  refine wpAny_bind (wpAny_field g1 g4 k1 ?_)
  rw [if_pos (show (Value.ref T != Value.none) = true from by simp)]
  refine wpAny_setField k6 k7 (Array.getElem?_eq_some_iff.mp k9).1 ?_
  have vT : ∀ y t, ts[1]? ≠ some (.str y t) := fun y t q => by rw [k8] at q; cases q
  have hx : ∀ y t, (to.elim Value.none fun f => rawInt f) ≠ .str y t := fun y t q => by
    cases to <;> cases q
  obtain ⟨S', x'⟩ := S.loose (h' := h.update T (Obj.mapFields (·.setIfInBounds 3 (to.elim .none fun f => rawInt f))))
    (fun b o eb nf q => upd_get _ (fun z => by
      subst z
      rw [k6] at eb; cases eb
      rcases q with q | q
      · exact k5 q
      · exact q ⟨ts, k7, vT⟩) eb)
    (fun b o eb hb => ⟨o.slots, upd_get _ (fun z => k5 (z ▸ .inl hb)) eb⟩)
    (fun b o eb ow vo => by
      by_cases z : b = T
      · subst z
        rw [k6] at eb; cases eb
        exact ⟨_, Heap.get?_update_self _ k6 (Obj.isFreed_of_fields (Obj.data_mapFields k7 _)), Obj.cls_mapFields _ _, dict_map _ _, vol_map k7 vT hx⟩
      · exact ⟨o, upd_get _ z eb, rfl, rfl, vo⟩)
    (fun b o eb => upd_get _ (fun z => by rw [z, k3] at eb; cases eb) (S.base b o eb))
  refine k _ S' x' ⟨f0, f1, f2, oe, vs, a0, d, des, n, v', upd_get _ (Ne.symm k2) g1, g2, g3, g4, g5, .inr ⟨T, _, _, tr, _, k1, k2, k3, k4, k5, Heap.get?_update_self _ k6 (Obj.isFreed_of_fields (Obj.data_mapFields k7 _)), Obj.data_mapFields k7 _, ?_, ?_, rfl⟩, upd_get _ (fun z => ?_) g7, g8, g9, g10.ext x'⟩
  · rw [Array.getElem?_setIfInBounds_ne (by decide)]; exact k8
  · rw [Array.getElem?_setIfInBounds_self_of_lt (Array.getElem?_eq_some_iff.mp k9).1]
  · rw [z, k6] at g7; cases g7; cases k7

theorem f1_map (f) {o : Obj} {vs : Array Value} (d : o.data = .fields vs) : (o.mapFields f).isFreed = false := Obj.isFreed_of_fields (Obj.data_mapFields d f)

theorem entryF {G : Gd} {A : Around} {env : Env} {ρ : Rho} {m : Loc} {σ : AS} {h h0 : Heap} {tk z e v} (S : St G A env ρ m σ h) (ho : ∀ b o, h0.get? b = some o → ∃ o', h.get? b = some o')
    (f0 : G.H.get? e = none) (f1 : h0.get? e = none) (f2 : ¬ρ.own e) {oe : Obj} {vs : Array Value} {a0 : Value} {d : Addr} {des : List DictEntry} {n : Nat} {v' : Value} (g1 : h.get? e = some oe) (g2 : oe.cls = .ref G.EC) (g3 : oe.dict = some d) (g4 : oe.data = .fields vs) (g5 : vs[0]? = some a0) (g6 : ∀ y t, vs[1]? ≠ some (.str y t)) (gs : 1 < vs.size)
    (g7 : h.get? d = some (dictOf des n)) (g8 : ¬ρ.own d) (g9 : getL "value" des = some (some v')) (g10 : VR G.EC ρ h v v') {head : Value} {hadNext : Bool}
    {Q : Unit → Shared → Prop} {E : Value → Shared → Prop} (k : ∀ h', St G A env ρ m σ h' → Ext ρ.l.length ρ h ρ h' → Fly G (flyAt env.locals) ρ h0 h' e v → Q () (sh z h' tk)) :
    wpAny (model PG G.w) A (do let a ← frameOf env; let pl ← entryPlaceOf env.locals hadNext; let b ← EntryCells.newEntry head a .none (rawInt env.locals) .none pl; setField (.ref e) 1 b) Q E (sh z h tk) := by
  obtain ⟨outer, hfr, hl, hfs⟩ := S.fun_
  refine wpAny_bind (wpAny_frameOf_fun hfr hl S.fl fun h₁ hs₁ => ?_)
  rw [hfs] at hs₁
  refine wpAny_bind (wpAny_entryPlaceOf fun pl hpl => ?_)
  unfold EntryCells.newEntry newFields
  refine wpAny_bind (wpAny_newObj_type ?_ (hpl.sizeOk5 _ _ _ _ _))
  have he₁ : h₁.get? e = some oe := (hs₁.2.1 e fun q => f2 (.inl q)).trans g1
  generalize hT : ({ cls := .type "traceback", dict := none, data := .fields ([head, .ref env.locals, .none, rawInt env.locals, .none] ++ (if pl.isEmpty then List.replicate 6 Value.none else pl)).toArray } : Obj) = oT
  have he₂ := Heap.get?_push_of_some (h := h₁) oT he₁
  refine wpAny_setField he₂ g4 gs ?_
  have hTe : h₁.objs.size ≠ e := Nat.ne_of_gt (Heap.lt_size he₁)
  have hd₃ := Obj.data_mapFields g4 (·.setIfInBounds 1 (Value.ref h₁.objs.size))
  have he₃ := Heap.get?_update_self (Obj.mapFields (·.setIfInBounds 1 (Value.ref h₁.objs.size))) he₂ (Obj.isFreed_of_fields hd₃)
  have keep : ∀ b o, b ≠ e → h₁.get? b = some o → ((h₁.push oT).update e (Obj.mapFields (·.setIfInBounds 1 (Value.ref h₁.objs.size)))).get? b = some o := fun b o n q =>
    upd_get _ n (Heap.get?_push_of_some _ q)
  have keep' : ∀ b o, b ≠ e → b ∉ ρ.fr → h.get? b = some o → ((h₁.push oT).update e (Obj.mapFields (·.setIfInBounds 1 (Value.ref h₁.objs.size)))).get? b = some o := fun b o n q q' =>
    keep b o n ((hs₁.2.1 b q).trans q')
  have hTn : h.get? h₁.objs.size = none := by
    rw [hs₁.1]
    exact get_none fun o q => Nat.lt_irrefl _ (Heap.lt_size q)
  have hT₁ : ((h₁.push oT).update e (Obj.mapFields (·.setIfInBounds 1 (Value.ref h₁.objs.size)))).get? h₁.objs.size = some oT :=
    upd_get _ hTe (by rw [Heap.get?_push_size _ (by subst hT; rfl)])
  obtain ⟨S', x'⟩ := S.loose (h' := (h₁.push oT).update e (Obj.mapFields (·.setIfInBounds 1 (Value.ref h₁.objs.size))))
    (fun b o eb nf q => keep' b o (fun z => by
      subst z
      rw [g1] at eb; cases eb
      rcases q with q | q
      · exact f2 q
      · exact q ⟨vs, g4, g6⟩) nf eb)
    (fun b o eb hb => by
      obtain ⟨sl, q⟩ := hs₁.2.2 b o eb
      exact ⟨sl, keep b _ (fun z => f2 (z ▸ .inl hb)) q⟩)
    (fun b o eb ow vo => by
      by_cases z : b = e
      · subst z
        rw [g1] at eb; cases eb
        exact ⟨_, he₃, Obj.cls_mapFields _ _, dict_map _ _, vol_map g4 g6 fun y t q => by cases q⟩
      · exact ⟨o, keep' b o z (fun q => ow (.inl q)) eb, rfl, rfl, vo⟩)
    (fun b o eb => keep' b o (fun z => by rw [z, f0] at eb; cases eb) (fun q => by rw [(S.hown b (.inl q)).1] at eb; cases eb) (S.base b o eb))
  refine k _ S' x' ⟨f0, f1, f2, _, _, a0, d, des, n, v', he₃, (Obj.cls_mapFields _ _).trans g2, (dict_map _ _).trans g3, hd₃, ?_, .inr ⟨h₁.objs.size, oT, _, env.locals, _, ?_, hTe, ?_, ?_, ?_, hT₁, by subst hT; rfl, rfl, rfl, rfl⟩, keep' d _ (fun z => ?_) (fun q => g8 (.inl q)) g7, g8, g9, g10.ext x'⟩
  · rw [Array.getElem?_setIfInBounds_ne (by decide)]; exact g5
  · rw [Array.getElem?_setIfInBounds_self_of_lt gs]
  · exact get_none fun o q => by have := S.base _ o q; rw [hTn] at this; cases this
  · exact get_none fun o q => by obtain ⟨o', this⟩ := ho _ o q; rw [hTn] at this; cases this
  · intro q
    obtain ⟨_, o, this⟩ := S.hown _ q
    rw [hTn] at this; cases this
  · rw [z, g1] at g7; cases g7; cases g4

theorem noteF {G : Gd} {A : Around} {env : Env} {ρ : Rho} {m : Loc} {σ : AS} {h h0 : Heap} {tk z e v} {P : Option Value → Prop} (S : St G A env ρ m σ h) (ho : ∀ b o, h0.get? b = some o → ∃ o', h.get? b = some o') (F : Fly G P ρ h0 h e v) (hP : ∀ x, P x → fl0 env.locals x)
    {Q : Unit → Shared → Prop} {E : Value → Shared → Prop} (k : ∀ h', St G A env ρ m σ h' → Ext ρ.l.length ρ h ρ h' → Fly G (flyAt env.locals) ρ h0 h' e v → Q () (sh z h' tk)) :
    wpAny (model PG G.w) A (noteFrame (.ref e) env) Q E (sh z h tk) := by
  obtain ⟨f0, f1, f2, oe, vs, a0, d, des, n, v', g1, g2, g3, g4, g5, g6, g7, g8, g9, g10⟩ := F
  unfold noteFrame
  rw [S.fl]
  rcases g6 with ⟨q, hq⟩ | ⟨T, oT, ts, tr, x, k1, k2, k3, k4, k5, k6, k7, k8, k9, k10⟩
  · refine wpAny_bind (wpAny_field g1 g4 q ?_)
    rw [if_neg (by decide)]
    exact entryF S ho f0 f1 f2 g1 g2 g3 g4 g5 (fun y t z => by rw [q] at z; cases z) (Array.getElem?_eq_some_iff.mp q).1 g7 g8 g9 g10 k
  · refine wpAny_bind (wpAny_field g1 g4 k1 ?_)
    rw [if_pos (show (Value.ref T != Value.none) = true from by simp)]
    refine wpAny_bind (wpAny_field k6 k7 k9 ?_)
    rcases hP _ k10 with q | q | q
    · cases q
    · cases q
      rw [if_neg (show ¬ ((Value.none == rawInt env.locals) = true) from by simp [rawInt])]
      refine wpAny_bind (wpAny_setField k6 k7 (Array.getElem?_eq_some_iff.mp k9).1 ?_)
      have vT : ∀ y t, ts[1]? ≠ some (.str y t) := fun y t q => by rw [k8] at q; cases q
      obtain ⟨S', x'⟩ := S.loose (h' := h.update T (Obj.mapFields (·.setIfInBounds 3 .none)))
        (fun b o eb nf q => upd_get _ (fun z => by
          subst z
          rw [k6] at eb; cases eb
          rcases q with q | q
          · exact k5 q
          · exact q ⟨ts, k7, vT⟩) eb)
        (fun b o eb hb => ⟨o.slots, upd_get _ (fun z => k5 (z ▸ .inl hb)) eb⟩)
        (fun b o eb ow vo => by
          by_cases z : b = T
          · subst z
            rw [k6] at eb; cases eb
            exact ⟨_, Heap.get?_update_self _ k6 (f1_map _ k7), Obj.cls_mapFields _ _, dict_map _ _, vol_map k7 vT fun y t q => by cases q⟩
          · exact ⟨o, upd_get _ z eb, rfl, rfl, vo⟩)
        (fun b o eb => upd_get _ (fun z => by rw [z, k3] at eb; cases eb) (S.base b o eb))
      refine entryF S' (fun b o eb => ?_) f0 f1 f2 (upd_get _ (Ne.symm k2) g1) g2 g3 g4 g5 (fun y t z => by rw [k1] at z; cases z) (Array.getElem?_eq_some_iff.mp k1).1 (upd_get _ (fun z => ?_) g7) g8 g9 (g10.ext x') fun h' S'' x'' F'' => k h' S'' (x'.trans x'') F''
      · obtain ⟨o1, e1⟩ := ho b o eb
        exact x'.old b o1 e1
      · rw [z, k6] at g7; cases g7; cases k7
    · cases q
      rw [if_pos (by simp)]
      exact wpAny_pure (k h S (.refl (Nat.le_refl _)) ⟨f0, f1, f2, oe, vs, a0, d, des, n, v', g1, g2, g3, g4, g5, .inr ⟨T, oT, ts, tr, _, k1, k2, k3, k4, k5, k6, k7, k8, k9, rfl⟩, g7, g8, g9, g10⟩)

theorem leaveF {G : Gd} {A : Around} {env : Env} {ρ : Rho} {m : Loc} {σ : AS} {h h0 : Heap} {tk z e v} {P : Option Value → Prop} (S : St G A env ρ m σ h) (ho : ∀ b o, h0.get? b = some o → ∃ o', h.get? b = some o') (F : Fly G P ρ h0 h e v) (hP : ∀ x, P x → fl0 env.locals x)
    {Q : Unit → Shared → Prop} {E : Value → Shared → Prop} (k : ∀ h', St G A env ρ m σ h' → Ext ρ.l.length ρ h ρ h' → Fly G flyNo ρ h0 h' e v → Q () (sh z h' tk)) :
    wpAny (model PG G.w) A (leaving env (.ref e)) Q E (sh z h tk) := by
  unfold leaving
  refine wpAny_bind (noteF S ho F hP fun h1 S1 x1 F1 => ?_)
  exact flightF S1 F1 none (.inl rfl) (fun q => by cases q) fun h2 S2 x2 F2 => k h2 S2 (x1.trans x2) F2
theorem backF {G : Gd} {A : Around} {env : Env} {ρ : Rho} {m : Loc} {σ : AS} {h h0 : Heap} {tk z e v} (S : St G A env ρ m σ h) (F : Fly G (flyAt env.locals) ρ h0 h e v)
    {E : Value → Shared → Prop} (k : ∀ h', St G A env ρ m σ h' → Ext ρ.l.length ρ h ρ h' → Fly G (flyAt env.locals) ρ h0 h' e v → E (.ref e) (sh z h' tk)) :
    cameBackBy (model PG G.w) A env E (.ref e) (sh z h tk) := by
  unfold cameBackBy
  obtain ⟨f0, f1, f2, oe, vs, a0, d, des, n, v', g1, g2, g3, g4, g5, g6, g7, g8, g9, g10⟩ := F
  rcases g6 with ⟨q, hq⟩ | ⟨T, oT, ts, tr, x, k1, k2, k3, k4, k5, k6, k7, k8, k9, k10⟩
  · cases hq
  refine wpAny_bind (wpAny_field g1 g4 k1 ?_)
  rw [if_neg (by simp)]
  rw [S.fl]
  exact flightF S ⟨f0, f1, f2, oe, vs, a0, d, des, n, v', g1, g2, g3, g4, g5, .inr ⟨T, oT, ts, tr, x, k1, k2, k3, k4, k5, k6, k7, k8, k9, k10⟩, g7, g8, g9, g10⟩ (some env.locals) (.inr rfl) (fun q => by cases q) fun h2 S2 x2 F2 => k h2 S2 x2 F2
end
end Mine
end
section
open PySem PySem.W PyProof.Rows PySem.Calls PySem.Spec
set_option maxRecDepth 10000
namespace Mine

structure Tra (ρ : Rho) (h : Heap) (ρ' : Rho) (h' : Heap) : Prop where
  w : ∀ (i : Nat) (a : Addr), ρ.w[i]? = some a → ρ'.w[i]? = some a
  l : ∀ (i : Nat) (a : Addr), ρ.l[i]? = some (some a) → ρ'.l[i]? = some (some a)
  own : ∀ b, ρ'.own b → ρ.own b ∨ h.get? b = none
  keep : ∀ b o, h.get? b = some o → ¬ρ.own b → ¬Vol o → h'.get? b = some o
  vol : ∀ b o, h.get? b = some o → ¬ρ.own b → Vol o → ∃ o', h'.get? b = some o' ∧ o'.cls = o.cls ∧ o'.dict = o.dict ∧ Vol o'
section
variable {EC : Addr} {pr : Params} {w : World} {ρ ρ' : Rho} {h h' : Heap}
theorem Tra.nown {b o} (x : Tra ρ h ρ' h') (e : h.get? b = some o) (q : ¬ρ.own b) : ¬ρ'.own b := fun z => by
  rcases x.own b z with z | z
  · exact q z
  · rw [e] at z; cases z
theorem VR.tra {v a} (r : VR EC ρ h v a) (x : Tra ρ h ρ' h') : VR EC ρ' h' v a := by
  induction r with
  | any => exact .any
  | none => exact .none
  | bool => exact .bool
  | int => exact .int
  | byt => exact .byt
  | str => exact .str
  | cst => exact .cst
  | w e => exact .w (x.w _ _ e)
  | l e => exact .l (x.l _ _ e)
  | tup e q hl _ ih => exact .tup (x.keep _ _ e q (nv_seq rfl)) (x.nown e q) hl ih
  | lst e q hl _ ih => exact .lst (x.keep _ _ e q (nv_seq rfl)) (x.nown e q) hl ih
  | ins e1 e2 q1 q2 g g' _ ih => exact .ins (x.keep _ _ e1 q1 (nv_plain rfl)) (x.keep _ _ e2 q2 (nv_dict rfl)) (x.nown e1 q1) (x.nown e2 q2) g g' ih
  | clo e1 c1 d1 q1 e2 d2 s2 q2 g _ ih =>
    refine .clo (x.keep _ _ e1 q1 (nv_func d1)) c1 d1 (x.nown e1 q1) (x.keep _ _ e2 q2 (nv_rec d2 s2)) d2 s2 (x.nown e2 q2) (fun y v m => ?_) ih
    obtain ⟨ca, o, k1, k2, k3, k4⟩ := g y v m
    exact ⟨ca, o, k1, x.keep _ _ k2 k4 (nv_cell k3), k3, x.nown k2 k4⟩
  | err e1 c1 dd d1 e2 q1 q2 g _ ih =>
    obtain ⟨o', e', k1, k2, k3⟩ := x.vol _ _ e1 q1 d1
    exact .err e' (k1.trans c1) (k2.trans dd) k3 (x.keep _ _ e2 q2 (nv_dict rfl)) (x.nown e1 q1) (x.nown e2 q2) g ih
theorem VRs.tra {xs vs} (a : VRs EC ρ h xs vs) (x : Tra ρ h ρ' h') : VRs EC ρ' h' xs vs := ⟨a.1, fun i y v e1 e2 => (a.2 i y v e1 e2).tra x⟩
theorem DictR.tra {es des} (r : DictR EC pr ρ h es des) (x : Tra ρ h ρ' h') : DictR EC pr ρ' h' es des :=
  ⟨r.1, fun i e d e1 e2 => let ⟨a, b, c⟩ := r.2 i e d e1 e2; ⟨a, b, c.tra x⟩⟩
theorem MapR.tra {es des} (r : MapR EC ρ h es des) (x : Tra ρ h ρ' h') : MapR EC ρ' h' es des :=
  ⟨r.1, fun i e d e1 e2 => let ⟨a, c⟩ := r.2 i e d e1 e2; ⟨a, c.tra x⟩⟩
theorem CellOk.tra {a c} (r : CellOk EC w ρ h a c) (x : Tra ρ h ρ' h') (e : ∀ o, h.get? a = some o → h'.get? a = some o) : CellOk EC w ρ' h' a c := by
  cases c with
  | list xs => obtain ⟨vs, n, q, r⟩ := r; exact ⟨vs, n, e _ q, r.tra x⟩
  | dict es => obtain ⟨des, n, q, r⟩ := r; exact ⟨des, n, e _ q, r.tra x⟩
  | map es => obtain ⟨kvs, q, r⟩ := r; exact ⟨kvs, q.at e, r.tra x⟩
  | tab P p q m =>
    cases m with
    | false => exact ⟨r.1, e _ r.2⟩
    | true => obtain ⟨eP, c, co, vs, t, e0, e1, e2, e3, e4⟩ := r; exact ⟨eP, c, co, vs, t, e _ e0, x.keep _ _ e1 e4 (nv_rec e2 e3), e2, e3, x.nown e1 e4⟩
  | ns es => obtain ⟨mm, q, r⟩ := r; exact ⟨mm, q.at' e, fun y v z => let ⟨b, z1, z2⟩ := r y v z; ⟨b, z1, z2.tra x⟩⟩
  | inst C d => obtain ⟨da, r, q⟩ := r; exact ⟨da, r.tra x, e _ q⟩
  | exc vs d =>
    cases d with
    | none => exact e _ r
    | some d => obtain ⟨da, r, q⟩ := r; exact ⟨da, r.tra x, e _ q⟩
end

@[reducible] noncomputable def Rho.sub (ρ : Rho) (L : Addr) (cs : List Addr) : Rho := { fr := L :: ρ.fr, cc := cs, co := ρ.cc ++ ρ.co, w := ρ.w, l := ρ.l }
@[reducible] noncomputable def Rho.back (ρ ρ2 : Rho) : Rho := { fr := ρ.fr, cc := ρ.cc, co := ρ.co, w := ρ2.w, l := ρ2.l }

section
variable {G : Gd} {A A' : Around} {env env' : Env} {ρ : Rho} {m m' : Loc} {σ : AS} {h h1 : Heap} {L : Addr} {cs : List Addr}
theorem sub_own (b) : (ρ.sub L cs).own b ↔ b = L ∨ b ∈ cs ∨ ρ.own b := by
  unfold Rho.own Rho.sub
  simp only [List.mem_cons, List.mem_append]
  constructor
  · rintro ((q | q) | q | (q | q) | q | q) <;> simp [q]
  · rintro (q | q | q | q | q | q | q) <;> simp [q]
theorem tra_sub (k : ∀ b o, h.get? b = some o → h1.get? b = some o) (hL : h.get? L = none) (hcs : ∀ b ∈ cs, h.get? b = none) : Tra ρ h (ρ.sub L cs) h1 :=
  ⟨fun _ _ e => e, fun _ _ e => e, fun b q => by
    rcases (sub_own b).mp q with q | q | q
    · exact .inr (q ▸ hL)
    · exact .inr (hcs b q)
    · exact .inl q, fun b o e _ _ => k b o e, fun b o e _ v => ⟨o, k b o e, rfl, rfl, v⟩⟩

theorem St.enter (S : St G A env ρ m σ h) (hA : ∀ outer, A.frames = some (env :: outer) → A'.frames = some (env' :: env :: outer)) (hl : env'.locals = L) (hf : env'.frame = some L) (hk : env'.scope.kind = .function)
    (hL : L = h.objs.size) (k : ∀ b o, h.get? b = some o → h1.get? b = some o) (hcs : ∀ b ∈ cs, h.get? b = none ∧ b ≠ L ∧ ∃ o, h1.get? b = some o) (hcd : cs.Nodup)
    (loc : ∃ mm, h1.Ns L mm ∧ ∀ x v, m'.lookup x = some v → env'.scope.names.lookup x = some .local → ∃ a, mm x = some a ∧ VR G.EC (ρ.sub L cs) h1 v a)
    (cel : ∀ x v, m'.lookup x = some v → (env'.scope.names.lookup x = some .cell ∨ env'.scope.names.lookup x = some .free) →
      ∃ ca a, env'.cells.lookup x = some ca ∧ h1.IsCell ca (some a) ∧ VR G.EC (ρ.sub L cs) h1 v a ∧ (ca ∈ cs ∨ ¬(ρ.sub L cs).own ca))
    (cun : ∀ x, env'.scope.names.lookup x = some .cell → m'.lookup x = none → ∃ ca, env'.cells.lookup x = some ca ∧ h1.IsCell ca none ∧ ca ∈ cs) :
    St G A' env' (ρ.sub L cs) m' σ h1 := by
  have hLn : h.get? L = none := by subst hL; exact get_none fun o e => Nat.lt_irrefl _ (Heap.lt_size e)
  have T : Tra ρ h (ρ.sub L cs) h1 := tra_sub k hLn fun b q => (hcs b q).1
  have oldown : ∀ b, ρ.own b → h.get? b ≠ none := fun b q e => by
    obtain ⟨_, o, e'⟩ := S.hown b q
    rw [e] at e'; cases e'
  obtain ⟨o, es, n, hLo, hLd⟩ : ∃ o es n, h1.get? L = some o ∧ o.data = .dict es n := by
    obtain ⟨mm, ⟨o, es, n, e, d, _⟩, _⟩ := loc
    exact ⟨o, es, n, e, d⟩
  subst hl
  refine ⟨fun b o e => k b o (S.base b o e), ?_, hf, ?_, fun a q => ?_, ?_, loc, cel, cun, S.wl, S.ll, fun i c a e1 e2 => (S.cw i c a e1 e2).tra T fun o e => k a o e, fun i c a e1 e2 => (S.cl i c a e1 e2).tra T fun o e => k a o e⟩
  · obtain ⟨o, e⟩ := (S.hown _ (.inl S.hL)).2
    rw [hL]
    exact Nat.le_trans S.low (Nat.le_of_lt (Heap.lt_size e))
  · obtain ⟨outer, q, F⟩ := S.frs
    refine ⟨env :: outer, hA outer q, by rw [List.map_cons, hf, F.eq]; rfl, fun e he => ?_, fun a ha => ?_⟩
    · rcases List.mem_cons.mp he with rfl | he
      · rw [hk]; decide
      · exact F.kd e he
    · rcases List.mem_cons.mp ha with rfl | ha
      · exact ⟨o, es, n, hLo, hLd⟩
      · obtain ⟨o, es, n, e, d⟩ := F.ok a ha
        exact ⟨o, es, n, k a o e, d⟩
  · have nb : h.get? a = none → G.H.get? a = none := fun q => get_none fun o e => by have := S.base a o e; rw [q] at this; cases this
    rcases (sub_own a).mp q with q | q | q
    · subst q; exact ⟨nb hLn, o, hLo⟩
    · exact ⟨nb (hcs a q).1, (hcs a q).2.2⟩
    · obtain ⟨q1, o, q2⟩ := S.hown a q
      exact ⟨q1, o, k a o q2⟩
  · have d := S.nodup
    show (env'.locals :: ρ.fr ++ (cs ++ ((ρ.cc ++ ρ.co) ++ (ρ.w ++ ρ.l.filterMap id)))).Nodup
    have mem : ∀ b, b ∈ ρ.fr ++ (ρ.cc ++ (ρ.co ++ (ρ.w ++ ρ.l.filterMap id))) → ρ.own b := fun b q => by
      simp only [List.mem_append, List.mem_filterMap, id, exists_eq_right] at q
      exact q
    have p : (env'.locals :: ρ.fr ++ (cs ++ ((ρ.cc ++ ρ.co) ++ (ρ.w ++ ρ.l.filterMap id)))).Perm (env'.locals :: (cs ++ (ρ.fr ++ (ρ.cc ++ (ρ.co ++ (ρ.w ++ ρ.l.filterMap id)))))) := by
      rw [List.cons_append]
      refine List.Perm.cons _ ?_
      rw [← List.append_assoc, ← List.append_assoc cs, List.append_assoc ρ.cc]
      exact (List.perm_append_comm).append_right _
    rw [p.nodup_iff, List.nodup_cons, List.nodup_append]
    refine ⟨fun q => ?_, hcd, d, fun a ha b hb e => ?_⟩
    · rcases List.mem_append.mp q with q | q
      · exact (hcs _ q).2.1 rfl
      · exact oldown _ (mem _ q) hLn
    · subst e
      exact oldown _ (mem _ hb) (hcs a ha).1

theorem back_own {ρ2 : Rho} (e1 : ρ2.fr = L :: ρ.fr) (e2 : ρ2.co = ρ.cc ++ ρ.co) (b) (q : (ρ.back ρ2).own b) : ρ2.own b := by
  unfold Rho.own Rho.back at *
  rw [e1, e2]
  simp only [List.mem_cons, List.mem_append]
  rcases q with q | q | q | q | q <;> simp [q]
theorem tra_back {ρ2 : Rho} {h2} (e1 : ρ2.fr = L :: ρ.fr) (e2 : ρ2.co = ρ.cc ++ ρ.co) : Tra ρ2 h2 (ρ.back ρ2) h2 :=
  ⟨fun _ _ e => e, fun _ _ e => e, fun b q => .inl (back_own e1 e2 b q), fun b o e _ _ => e, fun b o e _ v => ⟨o, e, rfl, rfl, v⟩⟩

theorem St.leave (S : St G A env ρ m σ h) (k : ∀ b o, h.get? b = some o → h1.get? b = some o) (hL : h.get? L = none) (hcs : ∀ b ∈ cs, h.get? b = none)
    {ρ2 : Rho} {m2 : Loc} {σ2 : AS} {h2 : Heap} (S2 : St G A' env' ρ2 m2 σ2 h2) (x : Ext ρ.l.length (ρ.sub L cs) h1 ρ2 h2) :
    St G A env (ρ.back ρ2) m σ2 h2 ∧ Ext ρ.l.length ρ h (ρ.back ρ2) h2 ∧ Tra ρ2 h2 (ρ.back ρ2) h2 := by
  have e1 : ρ2.fr = L :: ρ.fr := x.fr
  have e2 : ρ2.co = ρ.cc ++ ρ.co := x.co
  have T := tra_back (h2 := h2) e1 e2
  have X : Ext ρ.l.length ρ h (ρ.back ρ2) h2 := by
    have nsub : ∀ b o, h.get? b = some o → ¬ρ.own b → ¬(ρ.sub L cs).own b := fun b o e q z => by
      rcases (sub_own b).mp z with z | z | z
      · rw [z, hL] at e; cases e
      · rw [hcs b z] at e; cases e
      · exact q z
    refine ⟨x.w, rfl, rfl, fun _ q => q, x.len, x.l, fun b q => ?_, fun b o e q nv => ?_, fun b o e q v => ?_, fun b o e => x.old b o (k b o e), fun b o e q => ?_⟩
    · rcases x.own b (back_own e1 e2 b q) with q | q
      · rcases (sub_own b).mp q with q | q | q
        · exact .inr (q ▸ hL)
        · exact .inr (hcs b q)
        · exact .inl q
      · exact .inr (get_none fun o e => by rw [k b o e] at q; cases q)
    · refine x.keep b o (k b o e) ?_ (nv.imp_right fun z => List.mem_append_right _ z)
      rcases q with q | q
      · exact .inl (nsub b o e q)
      · exact .inr (List.mem_append_right _ q)
    · exact x.vol b o (k b o e) (nsub b o e q) v
    · exact x.frs b o (k b o e) (List.mem_of_mem_tail q)
  refine ⟨⟨S2.base, S.low, S.fl, ?_, fun a q => S2.hown a (back_own e1 e2 a q), ?_, ?_, fun y v e q => ?_, fun y q e => let ⟨ca, q1, ⟨o, q2, q2'⟩, q3⟩ := S.cun y q e; ⟨ca, q1, ⟨o, x.keep ca o (k _ _ q2) (.inr (List.mem_append_left _ q3)) (.inl (nv_cell q2')), q2'⟩, q3⟩, S2.wl, S2.ll, fun i c a e1 e2 => (S2.cw i c a e1 e2).tra T fun o e => e, fun i c a e1 e2 => (S2.cl i c a e1 e2).tra T fun o e => e⟩, X, T⟩
  · obtain ⟨outer, q, F⟩ := S.frs
    obtain ⟨_, _, F2⟩ := S2.frs
    exact ⟨outer, q, F.eq, F.kd, fun a ha => F2.ok a (by rw [e1]; exact .tail _ ha)⟩
  · have d := S2.nodup
    rw [e1, e2] at d
    show (ρ.fr ++ (ρ.cc ++ (ρ.co ++ (ρ2.w ++ ρ2.l.filterMap id)))).Nodup
    rw [List.append_assoc] at d
    exact d.sublist ((List.sublist_cons_self _ _).append (List.sublist_append_right _ _))
  · obtain ⟨mm, ⟨o, es, ep, hn, r⟩, hm⟩ := S.loc
    obtain ⟨sl, hn'⟩ := x.frs _ o (k _ o hn) S.hL
    exact ⟨mm, ⟨_, es, ep, hn', r⟩, fun y v e q => let ⟨a, q1, q2⟩ := hm y v e q; ⟨a, q1, q2.ext X⟩⟩
  · obtain ⟨ca, a, q1, ⟨o, q2, q2'⟩, q3, q4⟩ := S.cel y v e q
    refine ⟨ca, a, q1, ⟨o, ?_, q2'⟩, q3.ext X, ?_⟩
    · rcases q4 with q4 | q4
      · exact x.keep ca o (k _ _ q2) (.inr (List.mem_append_left _ q4)) (.inl (nv_cell q2'))
      · exact X.keep ca o q2 (.inl q4) (.inl (nv_cell q2'))
    · rcases q4 with q4 | q4
      · exact .inl q4
      · exact .inr (X.nown q2 q4)
end
end Mine
end
section
open PySem PySem.W PyProof.Rows PySem.Calls PySem.Spec
set_option maxRecDepth 10000
namespace Mine
theorem star1 {pos e rest} {env : Env} (ha : (backTo pos (starEach (e :: rest) env)).any (·.1) = false) : starEach (e :: rest) env = (false, eval e env) :: starEach rest env := by
  cases e <;> first | rfl | exact Bool.noConfusion (show true = false from ha)
theorem Fly.tra {G P ρ ρ' h0 h e v} (f : Fly G P ρ h0 h e v) (ow : ∀ b, ρ'.own b → ρ.own b) (T : Tra ρ h ρ' h) : Fly G P ρ' h0 h e v := by
  obtain ⟨f0, f1, f2, oe, vs, a0, d, des, n, v', g1, g2, g3, g4, g5, g6, g7, g8, g9, g10⟩ := f
  refine ⟨f0, f1, fun q => f2 (ow _ q), oe, vs, a0, d, des, n, v', g1, g2, g3, g4, g5, ?_, g7, fun q => g8 (ow _ q), g9, g10.tra T⟩
  rcases g6 with g6 | ⟨T, oT, ts, tr, x, k1, k2, k2', k3, k4, k5, k6, k7, k8, k9⟩
  · exact .inl g6
  · exact .inr ⟨T, oT, ts, tr, x, k1, k2, k2', k3, fun q => k4 (ow _ q), k5, k6, k7, k8, k9⟩

noncomputable def fv : Fl → V
  | .ret v => v
  | _ => .none
noncomputable def flv : Flow → Value
  | .ret v => v
  | _ => .none
theorem fr_val {G ρ h fl a} (r : FR G ρ h fl a) : VR G.EC ρ h (fv fl) (flv a) := by
  cases r
  · exact .none
  · assumption
  · exact .none
  · exact .none

theorem look_none {α : Type} {xs : List Str} : ∀ {ys : List α} {x}, x ∉ xs → (xs.zip ys).lookup x = none := by
  induction xs with
  | nil => intros; rfl
  | cons y r ih =>
    intro ys x hx
    cases ys with
    | nil => rfl
    | cons b ys =>
      rw [List.zip_cons_cons, List.lookup_cons]
      have n : x ≠ y := fun e => hx (e ▸ .head _)
      rw [beq_eq_false_iff_ne.mpr n]
      exact ih fun q => hx (.tail _ q)
theorem look_rev_none {α : Type} {l : List (Str × α)} {x} (h : ∀ p ∈ l, p.1 ≠ x) : l.reverse.lookup x = none := by
  rw [List.lookup_eq_none_iff]
  intro p hp
  exact bne_iff_ne.mpr fun e => h p (List.mem_reverse.mp hp) (e.symm)
theorem zip_look {EC ρ h} : ∀ {xs : List Str} {vs : List V} {vals : List Value} {x v}, xs.Nodup → VRs EC ρ h vs vals → (xs.zip vs).lookup x = some v →
    x ∈ xs ∧ ∃ a, (xs.zip vals).reverse.lookup x = some a ∧ VR EC ρ h v a := by
  intro xs
  induction xs with
  | nil => intro vs vals x v _ _ e; simp at e
  | cons y r ih =>
    intro vs vals x v nd R e
    cases vs with
    | nil => simp at e
    | cons u vs =>
      obtain ⟨a, vals, rfl, ra, rr⟩ := R.inv_cons
      rw [List.zip_cons_cons, List.lookup_cons] at e
      rw [List.zip_cons_cons, List.reverse_cons, List.lookup_append]
      by_cases q : x = y
      · subst q
        rw [beq_self_eq_true] at e
        cases e
        have : (r.zip vals).reverse.lookup x = none := look_rev_none fun p hp e => by
          subst e
          exact (List.nodup_cons.mp nd).1 (List.of_mem_zip hp).1
        rw [this]
        refine ⟨.head _, a, ?_, ra⟩
        simp
      · rw [beq_eq_false_iff_ne.mpr q] at e
        obtain ⟨q1, a', q2, q3⟩ := ih (List.nodup_cons.mp nd).2 rr e
        rw [q2]
        exact ⟨.tail _ q1, a', rfl, q3⟩
theorem zip_mem {α : Type} {xs : List Str} : ∀ {ys : List α} {x v}, (xs.zip ys).lookup x = some v → x ∈ xs := fun {ys x v} e => by
  by_cases q : x ∈ xs
  · exact q
  · rw [look_none q] at e; cases e

theorem lookup_not_cell {names : List (Str × NameKind)} (h : ∀ x ∈ names, x.2 ≠ .cell) {x} (e : names.lookup x = some .cell) : False := by
  induction names with
  | nil => cases e
  | cons p r ih =>
    obtain ⟨y, k⟩ := p
    rw [List.lookup_cons] at e
    split at e
    · cases e; exact h _ (.head _) rfl
    · exact ih (fun q hq => h q (.tail _ hq)) e
section
variable {G : Gd} {c : Cx} {A : Around} {env : Env} {ρ : Rho} {m : Loc} {σ : AS} {h : Heap} {tk : Tok} {z : Shared}

noncomputable abbrev fdX (fd : FD) (cl : List (Str × Addr)) (dV kV doc pm : Value) (an : Option Addr) (cdv ct : Value) : FuncData := fnX fd.name fd.qual fd.params fd.body fd.scope cl dV kV doc pm an cdv ct

theorem callG {K : V → AS → Prop} {X : V → AS → Prop} {R : Result → Shared → Prop} (ok : Ok G c A env) (S : St G A env ρ m σ h) {d : Nat} (hd : c.d = d + 1) {fd : FD} {f : Addr} {fo : Obj} {cl : List (Str × Addr)} {dV kV doc pm cdv ct : Value} {an : Option Addr}
    (ho : h.get? f = some fo) (hdat : fo.data = .func (fdX fd cl dV kV doc pm an cdv ct)) (hcd : h.CodeRec cdv fd.qual) {args : Args} {xs : List Str} {vals : List Value} {vs : List V} {es : List (Str × V)}
    (hb : BindsTo (sh z h tk) (fdX fd cl dV kV doc pm an cdv ct) args (xs.zip vals)) (hv : VRs G.EC ρ h vs vals) (nd : xs.Nodup) (loc : ∀ x ∈ xs, fd.scope.names.lookup x = some .local)
    (hes : ∀ x v, es.lookup x = some v → fd.scope.names.lookup x = some .free ∧ ∃ ca a, cl.lookup x = some ca ∧ h.IsCell ca (some a) ∧ VR G.EC ρ h v a ∧ ¬ρ.own ca)
    (hcell : ∀ x ∈ fd.scope.names, x.2 ≠ .cell) (hco : fd.scope.isCoroutine = false) (hgen : fd.scope.isGenerator = false) (hk : fd.scope.kind = .function)
    (body : SS G ⟨fd.qual, fd.scope, σ.l.length, d, c.hn, none⟩ fd.body (xs.zip vs ++ es) σ (fun fl _ σ' => K (fv fl) σ') (fun v _ σ' => X v σ'))
    (hQ : ∀ ρ' h' tk' v a σ', K v σ' → St G A env ρ' m σ' h' → Ext ρ.l.length ρ h ρ' h' → VR G.EC ρ' h' v a → R (.ok (.ret a)) (sh z h' tk'))
    (hE : ∀ ρ' h' tk' v e σ', X v σ' → St G A env ρ' m σ' h' → Ext ρ.l.length ρ h ρ' h' → Fly G flyNo ρ' h h' e v → R (.error (.ref e)) (sh z h' tk')) :
    codeAny (model PG G.w) A (.call (.ref f) args) R (sh z h tk) := by
  obtain ⟨p, loose, mg, mb, T⟩ := ok.gd.T
  have room := ok.room
  have units := ok.units
  rw [hd] at room units
  refine codeAny_call_def (fd := fdX fd cl dV kV doc pm an cdv ct) (body := fd.body) (binds := xs.zip vals) (by omega) ho hdat ((T.nolimit).keeps fun b o e => S.base b o e) hcd rfl hb hcell (fun y hy => loc _ (List.of_mem_zip hy).1) (fun h₁ hns k => ?_) hco hgen hk
  have hLn : h.get? h.objs.size = none := get_none fun o e => Nat.lt_irrefl _ (Heap.lt_size e)
  have tr : Tra ρ h (ρ.sub h.objs.size []) h₁ := tra_sub k hLn fun _ q => by cases q
  have mlook : ∀ x v, (xs.zip vs ++ es).lookup x = some v → (xs.zip vs).lookup x = some v ∨ es.lookup x = some v := fun x v e => by
    rw [List.lookup_append] at e
    cases q : (xs.zip vs).lookup x with
    | none => rw [q] at e; exact .inr e
    | some u => rw [q] at e; exact .inl e
  have S1 : St G (A.deeper (callEnv (fdX fd cl dV kV doc pm an cdv ct) h.objs.size f)) (callEnv (fdX fd cl dV kV doc pm an cdv ct) h.objs.size f) (ρ.sub h.objs.size []) (xs.zip vs ++ es) σ h₁ := by
    refine S.enter (L := h.objs.size) (cs := []) (fun outer q => Around.frames_deeper q) rfl rfl hk rfl k (fun _ q => by cases q) List.nodup_nil ⟨_, hns, fun x v e q => ?_⟩ (fun x v e q => ?_) fun x q e => (lookup_not_cell hcell q).elim
    · rcases mlook x v e with e | e
      · obtain ⟨_, a, q1, q2⟩ := zip_look nd hv e
        exact ⟨a, q1, q2.tra tr⟩
      · have q' : fd.scope.names.lookup x = some .local := q
        rw [(hes x v e).1] at q'; cases q'
    · rcases mlook x v e with e | e
      · have q' : fd.scope.names.lookup x = some .cell ∨ fd.scope.names.lookup x = some .free := q
        rw [loc x (zip_mem e)] at q'
        rcases q' with q' | q' <;> cases q'
      · obtain ⟨_, ca, a, q1, ⟨o, q2, q2'⟩, q3, q4⟩ := hes x v e
        exact ⟨ca, a, q1, ⟨o, k _ _ q2, q2'⟩, q3.tra tr, .inr (tr.nown q2 q4)⟩
  refine body _ _ (ρ.sub h.objs.size []) h₁ _ z _ _ ⟨fun _ q => (by cases q), fun x0 q => (lookup_not_cell hcell q).elim, ⟨h.objs.size, f, cdv, cl, rfl⟩, hk, ?_, ?_, ok.hn, ok.gd⟩ S1 (by rw [S.ll]; exact Nat.le_refl _) (fun ρ2 h2 tk2 fl m2 σ2 a k2 S2 x2 r2 => ?_) fun ρ2 h2 tk2 v m2 σ2 e k2 S2 x2 f2 => ?_
  · show A.depth + 1 + 3 * d + 3 < recursionLimit
    omega
  · show A.units + 3 + 20 * d + 100 < cLine
    omega
  · have x2' : Ext ρ.l.length (ρ.sub h.objs.size []) h₁ ρ2 h2 := S.ll ▸ x2
    obtain ⟨S3, X3, T3⟩ := S.leave k hLn (fun _ q => by cases q) S2 x2'
    have r3 := (fr_val r2).tra T3
    cases a <;> exact hQ _ _ _ _ _ _ k2 S3 X3 r3
  · refine leaveF S2 x2.old f2 (fun _ q => q) fun h3 S3 x3 f3 => ?_
    have x2' : Ext ρ.l.length (ρ.sub h.objs.size []) h₁ ρ2 h3 := (S.ll ▸ x2 : Ext ρ.l.length _ _ _ _).trans (x3.mono (S.ll ▸ x2 : Ext ρ.l.length _ _ _ _).len)
    obtain ⟨S4, X4, T4⟩ := S.leave k hLn (fun _ q => by cases q) S3 x2'
    exact hE _ _ _ _ _ _ k2 S4 X4 ((f3.mono fun b o e => ⟨o, k b o e⟩).tra (back_own x2'.fr x2'.co) T4)
end

inductive FnD (K : Frag) (f : Addr) (fd : FD) (xs : List Str) : Prop
  | mk : ∀ oc od dV kV doc pm an cdv ct osl, K.lookup f = some ⟨oc, od, .func (fdX fd [] dV kV doc pm an cdv ct), osl⟩ → codeIn K cdv fd.qual = true → (∀ s vals, vals.length = xs.length → BindsTo s (fdX fd [] dV kV doc pm an cdv ct) ⟨vals, []⟩ (xs.zip vals)) → FnD K f fd xs
structure FnK (G : Gd) (f : Addr) (fd : FD) (xs : List Str) : Prop where
  look : FnD G.K f fd xs
  keep : keepIn G.K (.ref f) = true
  nd : xs.Nodup
  loc : ∀ x ∈ xs, fd.scope.names.lookup x = some .local
  cell : ∀ x ∈ fd.scope.names, x.2 ≠ .cell
  co : fd.scope.isCoroutine = false
  gen : fd.scope.isGenerator = false
  kind : fd.scope.kind = .function

section
variable {G : Gd} {c : Cx} {A : Around} {env : Env} {ρ : Rho} {m : Loc} {σ : AS} {h : Heap} {tk : Tok} {z : Shared}
theorem St.inK (S : St G A env ρ m σ h) (X : G.K.In G.H) : G.K.In h := X.keeps fun b o e => S.base b o e

noncomputable abbrev FT (G : Gd) (fd : FD) (xs : List Str) (vs : List V) (σ : AS) (d : Nat) (hn : Bool) (K : V → AS → Prop) (X : V → AS → Prop) : Prop :=
  SS G ⟨fd.qual, fd.scope, σ.l.length, d, hn, none⟩ fd.body (xs.zip vs) σ (fun fl _ σ' => K (fv fl) σ') (fun v _ σ' => X v σ')

theorem callK {K : V → AS → Prop} {X : V → AS → Prop} {Q : Value → Shared → Prop} {E : Value → Shared → Prop} (ok : Ok G c A env) (S : St G A env ρ m σ h) {d : Nat} (hd : c.d = d + 1) {fd : FD} {f : Addr} {xs : List Str} (F : FnK G f fd xs)
    {vals : List Value} {vs : List V} (hv : VRs G.EC ρ h vs vals) (hl : vs.length = xs.length) (body : FT G fd xs vs σ d c.hn K X)
    (hQ : ∀ ρ' h' tk' v a σ', K v σ' → St G A env ρ' m σ' h' → Ext ρ.l.length ρ h ρ' h' → VR G.EC ρ' h' v a → Q a (sh z h' tk'))
    (hE : ∀ ρ' h' tk' v e σ', X v σ' → St G A env ρ' m σ' h' → Ext ρ.l.length ρ h ρ' h' → Fly G (fl0 env.locals) ρ' h h' e v → E (.ref e) (sh z h' tk')) :
    wpAny (model PG G.w) A (call (.ref f) vals) Q E (sh z h tk) := by
  obtain ⟨oc, od, dV, kV, doc, pm, an, cdv, ct, osl, e1, e2, e3⟩ := F.look
  have X' := S.inK ok.gd.X
  refine wpAny_call (callG (es := []) ok S hd (X' _ _ e1) rfl (codeRec_of X' e2) (e3 _ _ (hv.1 ▸ hl)) hv F.nd F.loc (fun _ _ e => by cases e) F.cell F.co F.gen F.kind ?_ hQ fun ρ' h' tk' v e σ' q1 q2 q3 q4 => hE ρ' h' tk' v e σ' q1 q2 q3 (q4.mono (fun b o e => ⟨o, e⟩) fun _ q => fl0_no q))
  rw [List.append_nil]
  exact body

noncomputable def AS' (G : Gd) (c : Cx) (args : List Expr) (pos : Pos) := TR G c (fun env => spliced (backTo pos (starEach args env))) (VsRel G)
end
section
variable {G : Gd} {c : Cx} {m : Loc} {σ : AS} {K : List V → AS → Prop} {X : V → AS → Prop}
theorem as_nil {pos} (h : K [] σ) : AS' G c [] pos m σ K X := fun A env ρ hh tk z Q E ok S hQ hX => args_nil (hQ ρ hh tk [] [] σ h S (.refl (Nat.le_refl _)) .nil)
theorem as_cons {e rest pos} (h : AE G c e m σ (fun v σ1 => AS' G c rest pos m σ1 (fun vs σ2 => K (v :: vs) σ2) X) X) (he : ∀ env, starEach (e :: rest) env = (false, eval e env) :: starEach rest env := by intro _; rfl) :
    AS' G c (e :: rest) pos m σ K X := by
  intro A env ρ hh tk z Q E ok S hQ hX
  refine args_cons ?_ (he env)
  exact two (t1 := fun env => eval e env) (t2 := fun env => spliced (backTo pos (starEach rest env))) (K2 := fun v vs σ2 => K (v :: vs) σ2) vext h ok S (fun ρ' h' tk' b d a e σ' k S' x r1 r2 => hQ ρ' h' tk' _ _ σ' k S' x (.cons r1 r2)) hX
end
section
variable {G : Gd} {c : Cx} {m : Loc} {σ : AS} {K : V → AS → Prop} {X : V → AS → Prop}

theorem e_call {x px args pos f fd xs d} (F : FnK G f fd xs) (hx : nsIn G.K mainGlobals x = some (some (.ref f))) (hk : c.scope.names.lookup x = some .globalImplicit) (hd : c.d = d + 1)
    (h : AS' G c args pos m σ (fun vs σ1 => vs.length = xs.length ∧ FT G fd xs vs σ1 d c.hn K X) X)
    (ha' : ∀ env, (backTo pos (starEach args env)).any (·.1) = false := by intro _; rfl) (hne : args ≠ [] := by exact fun q => by cases q)
    (hxd : (x == ("__debug__" : Str)) = false := by decide) : AE G c (.Call (.Name x px) args [] pos) m σ K X := by
  intro A env ρ hh tk z Q E ok S hQ hX
  refine Call_ ?_
  refine e_glob (K := fun v σ1 => v = .cst (.ref f) ∧ σ1 = σ) hx hk rfl ⟨rfl, rfl⟩ hxd A env ρ hh tk z _ _ ok S (fun ρ1 h1 tk1 v a σ1 k1 S1 x1 r1 => ?_) hX
  obtain ⟨rfl, rfl⟩ := k1
  cases r1
  refine callWith_of (P := fun h => G.K.In h) (by rw [ha' env]; rfl) (keeps_K F.keep) ?_
  cases args with
  | nil => exact (hne rfl).elim
  | cons e rest =>
    have he : starEach (e :: rest) env = (false, eval e env) :: starEach rest env := star1 (ha' env)
    have key : wpAny (model PG G.w) A (spliced (backTo pos (starEach (e :: rest) env))) (fun vs s' => G.K.In s'.heap ∧ wpAny (model PG G.w) A (call (.ref f) ([] ++ vs)) Q E s') E (sh z h1 tk1) := ?_
    · rw [he] at key ⊢
      exact evalArgs_plain key
    refine h A env ρ1 h1 tk1 z _ _ ok S1 (fun ρ2 h2 tk2 vs vals σ2 k2 S2 x2 r2 => ⟨S2.inK ok.gd.X, ?_⟩) fun ρ2 h2 tk2 v e σ2 k2 S2 x2 f2 => hX ρ2 h2 tk2 v e σ2 k2 S2 (x1.trans (x2.mono x1.len)) (f2.mono x1.old)
    rw [List.nil_append]
    have x3 := x1.trans (x2.mono x1.len)
    exact callK ok S2 hd F r2 k2.1 k2.2 (fun ρ3 h3 tk3 v a σ3 k3 S3 x4 r3 => hQ ρ3 h3 tk3 v a σ3 k3 S3 (x3.trans (x4.mono x3.len)) r3)
      fun ρ3 h3 tk3 v e σ3 k3 S3 x4 f4 => hX ρ3 h3 tk3 v e σ3 k3 S3 (x3.trans (x4.mono x3.len)) (f4.mono x3.old)
end
end Mine
end
section
open PySem PySem.W PyProof.Rows PySem.Calls PySem.Spec
set_option maxRecDepth 10000
namespace Mine

noncomputable def putA (x : Str) (v : V) : List (Str × V) → List (Str × V)
  | [] => [(x, v)]
  | (y, u) :: r => if y = x then (y, v) :: r else (y, u) :: putA x v r
theorem putA_len (x : Str) (v : V) : ∀ l, (putA x v l).length ≤ l.length + 1
  | [] => Nat.le_refl _
  | (y, u) :: r => by
    unfold putA
    split
    · simp
    · simp only [List.length_cons]; have := putA_len x v r; omega
section
variable {EC : Addr} {pr : Params} {ρ : Rho} {h : Heap}
theorem DictR.cons {p d es des} (a : d.hash = PyData.keyHash pr p.1) (b : ∃ tk, d.key = .str p.1 tk) (c : VR EC ρ h p.2 d.val) (r : DictR EC pr ρ h es des) : DictR EC pr ρ h (p :: es) (d :: des) :=
  ⟨by simp [r.1], fun i e d' e1 e2 => by
    cases i with
    | zero => cases e1; cases e2; exact ⟨a, b, c⟩
    | succ i => exact r.2 i e d' e1 e2⟩
theorem DictR.nil : DictR EC pr ρ h [] [] := ⟨rfl, fun i e d e1 => by simp at e1⟩
theorem DictR.put {x v val tk} (c : VR EC ρ h v val) : ∀ {es des}, DictR EC pr ρ h es des → DictR EC pr ρ h (putA x v es) (putL x (PyData.keyHash pr x) (.str x tk) val des) := by
  intro es
  induction es with
  | nil =>
    intro des r
    have : des = [] := by
      have := r.1
      cases des with
      | nil => rfl
      | cons => simp at this
    subst this
    exact .cons rfl ⟨tk, rfl⟩ c .nil
  | cons p t ih =>
    intro des r
    cases des with
    | nil => have := r.1; simp at this
    | cons d ds =>
      obtain ⟨y, u⟩ := p
      obtain ⟨q1, ⟨tk', q2⟩, q3⟩ := r.2 0 (y, u) d rfl rfl
      have r' : DictR EC pr ρ h t ds := ⟨by simpa using r.1, fun i a b e1 e2 => r.2 (i + 1) a b e1 e2⟩
      unfold putA putL
      rw [q2, isStr_self]
      by_cases e : y = x
      · subst e
        rw [if_pos rfl, beq_self_eq_true]
        exact .cons q1 ⟨tk', rfl⟩ c r'
      · rw [if_neg e, beq_eq_false_iff_ne.mpr e]
        exact .cons q1 ⟨tk', q2⟩ q3 (ih r')
end

noncomputable def putCell (σ : AS) : V → Cell → AS
  | .w i, c => { σ with w := σ.w.set i c }
  | .l i, c => { σ with l := σ.l.set i c }
  | _, _ => σ

section
variable {G : Gd} {c : Cx} {A : Around} {env : Env} {ρ : Rho} {m : Loc} {σ : AS} {h h' : Heap}
theorem St.updC (S : St G A env ρ m σ h) {v a c0 c'} {mm : Str → Option Value} (hc : cellOf σ v = some c0) (r : VR G.EC ρ h v (.ref a)) (kp : ∀ b o, b ≠ a → b ≠ env.locals → h.get? b = some o → h'.get? b = some o)
    (hm : ∀ x v, m.lookup x = some v → env.scope.names.lookup x = some .local → ∃ a, mm x = some a ∧ VR G.EC ρ h v a) (hL : h'.Ns env.locals mm)
    (hc' : Ext ρ.l.length ρ h ρ h' → CellOk G.EC G.w ρ h' a c') (th : ∃ o, h'.get? a = some o) : St G A env ρ m (putCell σ v c') h' ∧ Ext ρ.l.length ρ h ρ h' := by
  cases v with
  | w i => cases r with | w q => exact S.updW q kp hm hL hc' th
  | l i => cases r with | l q => exact S.updL q kp hm hL hc' th
  | _ => cases hc
theorem cell_addr (S : St G A env ρ m σ h) {v a c0} (hc : cellOf σ v = some c0) (r : VR G.EC ρ h v (.ref a)) : ρ.own a ∧ a ∉ ρ.fr ∧ G.H.get? a = none := by
  cases v with
  | w i => cases r with | w q => exact ⟨own_w q, (S.apart_w (List.mem_of_getElem? q)).1, (S.hown _ (own_w q)).1⟩
  | l i => cases r with | l q => exact ⟨own_l q, (S.apart_l (mem_l q)).1, (S.hown _ (own_l q)).1⟩
  | _ => cases hc
theorem St.round (S : St G A env ρ m σ h) {v a c0 o} (hc : cellOf σ v = some c0) (r : VR G.EC ρ h v (.ref a)) (e : h.get? a = some o) :
    ∃ pre post, News G.H env.locals h (pre ++ (a, o) :: post) ∧ (∀ p ∈ pre, p.1 ≠ a) ∧ (∀ p ∈ post, p.1 ≠ a) ∧ ∀ b o', h.get? b = some o' → b ≠ env.locals → G.H.get? b = none → (b, o') ∈ pre ++ (a, o) :: post := by
  obtain ⟨news, N, full, nd⟩ := S.full
  obtain ⟨_, nf, nH⟩ := cell_addr S hc r
  obtain ⟨pre, post, q⟩ := List.append_of_mem (full a o e (fun z => nf (z ▸ S.hL)) nH)
  subst q
  rw [List.map_append, List.map_cons, List.nodup_append] at nd
  obtain ⟨n1, n2, n3⟩ := nd
  refine ⟨pre, post, N, fun p hp z => ?_, fun p hp z => ?_, full⟩
  · exact n3 p.1 (List.mem_map_of_mem hp) a (.head _) z
  · exact (List.nodup_cons.mp n2).1 (List.mem_map.mpr ⟨p, hp, z⟩)

theorem St.setLoc (S : St G A env ρ m σ h) {x v val} {mm : Str → Option Value} (hm : ∀ y u, m.lookup y = some u → env.scope.names.lookup y = some .local → ∃ a, mm y = some a ∧ VR G.EC ρ h u a) (hn : h'.Ns env.locals (fun y => if y = x then some val else mm y))
    (hs : Heap.SameBut env.locals h h') (hx : env.scope.names.lookup x = some .local) (r : VR G.EC ρ h v val) : St G A env ρ ((x, v) :: m) σ h' ∧ Ext ρ.l.length ρ h ρ h' := by
  obtain ⟨outer, q, F⟩ := S.frs
  have nL : ∀ b, ¬ρ.own b → b ≠ env.locals := fun b q z => q (z ▸ .inl S.hL)
  have x' : Ext ρ.l.length ρ h ρ h' := by
    refine ⟨fun _ _ z => z, rfl, rfl, fun _ z => z, Nat.le_refl _, fun _ _ => rfl, fun _ z => .inl z, fun b o e q _ => hs.extBut b o (fun z => ?_) e, fun b o e q v => ⟨o, hs.extBut b o (nL b q) e, rfl, rfl, v⟩, fun b o e => ?_, fun b o e q => ⟨o.slots, hs.extBut b o (fun z => S.tailL (z ▸ q)) e⟩⟩
    · rcases q with q | q
      · exact nL b q z
      · exact S.coL S.hL (z ▸ q)
    · by_cases q : b = env.locals
      · obtain ⟨o', _, _, e', _⟩ := hn
        exact ⟨o', q ▸ e'⟩
      · exact ⟨o, hs.extBut b o q e⟩
  have nw : ∀ b, ρ.own b → b ∉ ρ.fr → ∀ o, h.get? b = some o → h'.get? b = some o := fun b q q' o e => hs.extBut b o (fun z => q' (z ▸ S.hL)) e
  refine ⟨⟨fun b o e => hs.extBut b o (fun z => by rw [z, (S.hown _ (.inl S.hL)).1] at e; cases e) (S.base b o e), S.low, S.fl, ⟨outer, q, F.eq, F.kd, fun a ha => ?_⟩, fun a q => ?_, S.nodup, ⟨_, hn, fun y u e q => ?_⟩, fun y u e q => ?_, fun y q e => ?_, S.wl, S.ll,
    fun i c a e1 e2 => (S.cw i c a e1 e2).ext x' (nw a (own_w e2) (S.apart_w (List.mem_of_getElem? e2)).1), fun i c a e1 e2 => (S.cl i c a e1 e2).ext x' (nw a (own_l e2) (S.apart_l (mem_l e2)).1)⟩, x'⟩
  · by_cases q : a = env.locals
    · obtain ⟨o, es, ep, e, d, _⟩ := hn
      exact ⟨o, es, ep, q ▸ e, d⟩
    · obtain ⟨o, es, n, e, d⟩ := F.ok a ha
      exact ⟨o, es, n, hs.extBut a o q e, d⟩
  · obtain ⟨q1, o, q2⟩ := S.hown a q
    exact ⟨q1, x'.old a o q2⟩
  · rw [List.lookup_cons] at e
    by_cases z : y = x
    · subst z
      rw [beq_self_eq_true] at e
      cases e
      exact ⟨val, by simp, r.ext x'⟩
    · rw [beq_eq_false_iff_ne.mpr z] at e
      obtain ⟨a, q1, q2⟩ := hm y u e q
      exact ⟨a, by simp only [z, if_false]; exact q1, q2.ext x'⟩
  · rw [List.lookup_cons] at e
    by_cases z : y = x
    · subst z
      rw [hx] at q
      rcases q with q | q <;> cases q
    · rw [beq_eq_false_iff_ne.mpr z] at e
      obtain ⟨ca, a, q1, ⟨o, q2, q2'⟩, q3, q4⟩ := S.cel y u e q
      refine ⟨ca, a, q1, ⟨o, hs.extBut ca o (fun w => ?_) q2, q2'⟩, q3.ext x', q4⟩
      subst w
      rcases q4 with q4 | q4
      · exact S.ccL S.hL q4
      · exact q4 (.inl S.hL)
  · rw [List.lookup_cons] at e
    split at e
    · cases e
    · obtain ⟨ca, q1, ⟨o, q2, q2'⟩, q3⟩ := S.cun y q e
      exact ⟨ca, q1, ⟨o, hs.extBut ca o (fun w => S.ccL S.hL (w ▸ q3)) q2, q2'⟩, q3⟩
theorem storeL (ok : Ok G c A env) (S : St G A env ρ m σ h) {tk z x v val} (hx : c.scope.names.lookup x = some .local) (r : VR G.EC ρ h v val) {Q : Unit → Shared → Prop} {E : Value → Shared → Prop}
    (k : ∀ h', St G A env ρ ((x, v) :: m) σ h' → Ext ρ.l.length ρ h ρ h' → Q () (sh z h' (tk + 1))) : wpAny (model PG G.w) A (storeName env x val) Q E (sh z h tk) := by
  obtain ⟨L, a, cd, cl, rfl⟩ := ok.env
  obtain ⟨mm, hn, hm⟩ := S.loc
  refine wpAny_storeName_local hx hn (fun h' hn' hs' => ?_) (by show (c.scope.kind == .class || (c.scope.kind == .module && _)) = false; rw [ok.kind]; rfl)
  obtain ⟨S', x'⟩ := S.setLoc hm hn' hs' hx r
  exact k h' S' x'
end

section
variable {G : Gd} {c : Cx} {m : Loc} {σ : AS} {K : Fl → Loc → AS → Prop} {X : V → Loc → AS → Prop}
theorem s_set {x px value pos} (hx : c.scope.names.lookup x = some .local) (h : AE G c value m σ (fun v σ1 => K .next ((x, v) :: m) σ1) (fun v σ1 => X v m σ1))
    (hs : ∀ env, swapsWith value (some (.Name x px)) pos.line env = pure false := by intro _; rfl) : S1 G c (.Assign [.Name x px] value pos) m σ K X := by
  intro A env ρ hh tk z Q E ok S hn hQ hE
  refine wpAny_Assign_Name (h A env ρ hh tk z _ _ ok S (fun ρ1 h1 tk1 v a σ1 k1 S1 x1 r1 => ?_) fun ρ1 h1 tk1 v e σ1 k1 S1 x1 f1 => hE ρ1 h1 tk1 v m σ1 e k1 S1 (x1.mono hn) f1) (hs env)
  exact storeL ok S1 hx r1 fun h2 S2 x2 => hQ ρ1 h2 _ .next _ σ1 _ k1 S2 ((x1.mono hn).trans (x2.mono (Nat.le_trans hn x1.len))) .next
noncomputable def setOk (K : Frag) (C : Addr) (nm : Str) : Bool := (findIn K (.ref C) "__setattr__" == some (some (.builtin "object.__setattr__"))) && plainOver K C && (takerIn K C nm == some none) && hasDictIn K C
theorem setattr_inst {A env ρ h tk z v C d es a nm u b} (ok : Ok G c A env) (S : St G A env ρ m σ h) (e1 : cellOf σ v = some (.inst C d)) (e2 : cellOf σ d = some (.dict es)) (r : VR G.EC ρ h v a) (rb : VR G.EC ρ h u b) (ha : setOk G.K C nm = true) (hz : es.length < 1000)
    {Q : Unit → Shared → Prop} {E : Value → Shared → Prop} (k : ∀ h' tk', St G A env ρ m (putCell σ d (.dict (putA nm u es))) h' → Ext ρ.l.length ρ h ρ h' → Q () (sh z h' tk')) : wpAny (model PG G.w) A (setAttr a nm b) Q E (sh z h tk) := by
  obtain ⟨x, rfl⟩ := cell_ref S e1 r
  obtain ⟨dx, rd, hx⟩ := cell_at S e1 r
  obtain ⟨des, n, hdx, D⟩ := cell_at S e2 rd
  obtain ⟨pre, post, N, n1, n2, full⟩ := S.round e2 rd hdx
  obtain ⟨mm, hn, hm⟩ := S.loc
  simp only [setOk, Bool.and_eq_true, beq_iff_eq] at ha
  obtain ⟨⟨⟨h1, h2⟩, h3⟩, h4⟩ := ha
  have X' := S.inK ok.gd.X
  have hl : (lookIn nm (dictOf des n)).isSome = true := by
    rw [lookIn_dict]
    cases q : es.lookup nm with
    | none => rw [dict_none D q]; rfl
    | some u => obtain ⟨_, q', _⟩ := dict_get D q; rw [q']; rfl
  have D' := DictR.put (x := nm) (tk := tk + 1) rb D
  have hz' : (putL nm (PyData.keyHash G.w.params nm) (.str nm (tk + 1)) b des).length ≤ 1000 := by
    rw [← D'.1]
    exact Nat.le_trans (putA_len _ _ _) hz
  have I : InstAt h x (instObj C dx) C (some (dictOf des n)) := ⟨hx, rfl, rfl, hdx⟩
  refine set_plain (s := sh z h tk) X' I h1 (osa_dict (s := sh z h (tk + 1)) (S.fr_ hn) N X' I rfl h2 h3 h4 hl n1 n2 (putName_dict _ _ _ _ _ _) rfl hz' fun h' F' N' => ?_)
  have kp := kept_of S.base full F' N'
  have hd' := (N' _ (List.mem_append_right _ (.head _))).1
  obtain ⟨S', x'⟩ := S.updC (c' := .dict (putA nm u es)) e2 rd kp hm F'.ns (fun x => ⟨_, _, hd', D'.ext x⟩) ⟨_, hd'⟩
  exact k h' _ S' x'

theorem s_setattr {o nm pt value pos} (h : AE G c value m σ (fun u σ1 => AE G c o m σ1 (fun v σ2 => ∃ C d es, cellOf σ2 v = some (.inst C d) ∧ cellOf σ2 d = some (.dict es) ∧ setOk G.K C nm = true ∧ es.length < 1000 ∧ K .next m (putCell σ2 d (.dict (putA nm u es)))) (fun v σ2 => X v m σ2)) (fun v σ1 => X v m σ1))
    (hs : ∀ env, swapsWith value (some (.Attribute o nm pt)) pos.line env = pure false := by intro _; rfl) : S1 G c (.Assign [.Attribute o nm pt] value pos) m σ K X := by
  intro A env ρ hh tk z Q E ok S hn hQ hE
  refine plainObj_wpAny_Assign_Attribute ?_ (hs env)
  refine two (t1 := fun env => eval value env) (t2 := fun env => eval o env) vext h ok S (fun ρ' h' tk' b d a e σ' k S' x r1 r2 => ?_) fun ρ' h' tk' v e σ' k S' x f => hE ρ' h' tk' v m σ' e k S' (x.mono hn) f
  obtain ⟨C, dd, es, k1, k2, k3, k4, k5⟩ := k
  exact setattr_inst ok S' k1 k2 r2 r1 k3 k4 fun h2 tk2 S2 x2 => hQ ρ' h2 tk2 .next m _ _ k5 S2 ((x.mono hn).trans (x2.mono (Nat.le_trans hn x.len))) .next

theorem s_augattr {o nm pt op f value pos} (ho : IntOp op f) (h : AE G c o m σ (fun v σ1 => ∃ C d es i, cellOf σ1 v = some (.inst C d) ∧ cellOf σ1 d = some (.dict es) ∧ attrOk G.K C nm = true ∧ es.lookup nm = some (.int i) ∧
      AE G c value m σ1 (fun u σ2 => σ2 = σ1 ∧ ∃ j, u = .int j ∧ setOk G.K C nm = true ∧ es.length < 1000 ∧ K .next m (putCell σ1 d (.dict (putA nm (.int (f i j)) es)))) (fun v σ2 => X v m σ2)) (fun v σ1 => X v m σ1)) :
    S1 G c (.AugAssign (.Attribute o nm pt) op value pos) m σ K X := by
  intro A env ρ hh tk z Q E ok S hn hQ hE
  refine wpAny_AugAssign_AttributeAny (h A env ρ hh tk z _ _ ok S (fun ρ1 h1 tk1 v a σ1 k1 S1 x1 r1 => ?_) fun ρ1 h1 tk1 v e σ1 k1 S1 x1 f1 => hE ρ1 h1 tk1 v m σ1 e k1 S1 (x1.mono hn) f1)
  obtain ⟨C, d, es, i, e1, e2, e3, e4, k1⟩ := k1
  have ei : instOf σ1 v = some (C, es) := by
    cases v <;> first | (cases e1; done) | (simp only [instOf, e1, e2])
  refine getattr_inst ok S1 ei r1 e3 e4 rfl fun b rb => ?_
  cases rb
  refine k1 A env ρ1 h1 _ z _ _ ok S1 (fun ρ2 h2 tk2 u bv σ2 k2 S2 x2 r2 => ?_) fun ρ2 h2 tk2 v e σ2 k2 S2 x2 f2 => hE ρ2 h2 tk2 v m σ2 e k2 S2 ((x1.trans (x2.mono x1.len)).mono hn) (f2.mono x1.old)
  obtain ⟨rfl, j, rfl, k3, k4, k5⟩ := k2
  cases r2
  have x3 := x1.trans (x2.mono x1.len)
  have fin' : ∀ t t', wpAny (model PG G.w) A (setAttr a nm (.int (f i j) t')) (fun _ => Q .next) E (sh z h2 t) := fun t t' => setattr_inst ok S2 e1 e2 (r1.ext x2) .int k3 k4 fun h4 tk4 S4 x4 => hQ ρ2 h4 tk4 .next m _ _ k5 S4 ((x3.mono hn).trans (x4.mono (Nat.le_trans hn x3.len))) .next
  cases ho
  · exact PyProof.Rows.iadd_int (fin' _ _)
  · exact PyProof.Rows.isub_int (fin' _ _)
end
end Mine
end
section
open PySem PySem.W PyProof.Rows PySem.Calls PySem.Spec
set_option maxRecDepth 10000
namespace Mine

theorem get_size {h : Heap} : h.get? h.objs.size = none := get_none fun o e => Nat.lt_irrefl _ (Heap.lt_size e)
section
variable {G : Gd} {c : Cx} {A : Around} {env : Env} {ρ : Rho} {m : Loc} {σ : AS} {h h' : Heap}
theorem St.nsize (S : St G A env ρ m σ h) : ¬ρ.own h.objs.size := fun q => by
  obtain ⟨_, o, e⟩ := S.hown _ q
  rw [get_size] at e; cases e
theorem St.mkLst (S : St G A env ρ m σ h) {vs vals} (r : VRs G.EC ρ h vs vals) : St G A env ρ m σ (h.push (listOf vals.toArray 0)) ∧ Ext ρ.l.length ρ h ρ (h.push (listOf vals.toArray 0)) ∧
    VR G.EC ρ (h.push (listOf vals.toArray 0)) (.lst vs) (.ref h.objs.size) := by
  obtain ⟨S', x'⟩ := S.grow (h' := h.push (listOf vals.toArray 0)) fun b o e => Heap.get?_push_of_some _ e
  exact ⟨S', x', .lst (Heap.get?_push_size _ rfl) S.nsize r.1 (r.ext x').2⟩
theorem St.mkTup (S : St G A env ρ m σ h) {vs vals} (r : VRs G.EC ρ h vs vals) : St G A env ρ m σ (h.push { cls := .type "tuple", data := .seq vals.toArray }) ∧ Ext ρ.l.length ρ h ρ (h.push { cls := .type "tuple", data := .seq vals.toArray }) ∧
    VR G.EC ρ (h.push { cls := .type "tuple", data := .seq vals.toArray }) (.tup vs) (.ref h.objs.size) := by
  obtain ⟨S', x'⟩ := S.grow (h' := h.push { cls := .type "tuple", data := .seq vals.toArray }) fun b o e => Heap.get?_push_of_some _ e
  exact ⟨S', x', .tup (Heap.get?_push_size _ rfl) S.nsize r.1 (r.ext x').2⟩
theorem St.mkL (S : St G A env ρ m σ h) {vs vals} (r : VRs G.EC ρ h vs vals) : ∃ ρ', St G A env ρ' m { σ with l := σ.l ++ [.list vs] } (h.push (listOf vals.toArray 0)) ∧ Ext ρ.l.length ρ h ρ' (h.push (listOf vals.toArray 0)) ∧
    VR G.EC ρ' (h.push (listOf vals.toArray 0)) (.l σ.l.length) (.ref h.objs.size) :=
  ⟨_, S.newL get_size (fun b o e => Heap.get?_push_of_some _ e) ⟨_, Heap.get?_push_size _ rfl⟩ fun x => ⟨vals, _, Heap.get?_push_size _ rfl, r.ext x⟩⟩
end

section
variable {G : Gd} {c : Cx} {m : Loc} {σ : AS} {K : V → AS → Prop} {X : V → AS → Prop}
theorem e_list {elts pos} (h : AS' G c elts pos m σ (fun vs σ1 => vs.length ≤ 1000 ∧ K (.lst vs) σ1) X) : AE G c (.List elts pos) m σ K X := by
  intro A env ρ hh tk z Q E ok S hQ hX
  refine List_ (h A env ρ hh tk z _ _ ok S (fun ρ1 h1 tk1 vs vals σ1 k1 S1 x1 r1 => ?_) hX)
  obtain ⟨S2, x2, r2⟩ := S1.mkLst r1
  exact wpAny_newList (hQ _ _ tk1 _ _ _ k1.2 S2 (x1.trans (x2.mono x1.len)) r2) (by rw [sizeLine_eq, ← r1.1]; exact Nat.le_trans k1.1 (by decide))
theorem e_list0 {pos} (h : K (.l σ.l.length) { σ with l := σ.l ++ [.list []] }) : AE G c (.List [] pos) m σ K X := by
  intro A env ρ hh tk z Q E ok S hQ hX
  refine List_ (args_nil ?_)
  obtain ⟨ρ', S2, x2, r2⟩ := S.mkL VRs.nil
  exact wpAny_newList (hQ _ _ tk _ _ _ h S2 x2 r2)
theorem e_list0f {pos} (h : K (.lst []) σ) : AE G c (.List [] pos) m σ K X := by
  intro A env ρ hh tk z Q E ok S hQ hX
  refine List_ (args_nil ?_)
  obtain ⟨S2, x2, r2⟩ := S.mkLst VRs.nil
  exact wpAny_newList (hQ _ _ tk _ _ _ h S2 x2 r2)
theorem e_tup {elts k pos} (h : AS' G c elts pos m σ (fun vs σ1 => vs.length ≤ 1000 ∧ K (.tup vs) σ1) X) : AE G c (.Tuple elts k pos) m σ K X := by
  intro A env ρ hh tk z Q E ok S hQ hX
  refine Tuple_ (h A env ρ hh tk z _ _ ok S (fun ρ1 h1 tk1 vs vals σ1 k1 S1 x1 r1 => ?_) hX)
  obtain ⟨S2, x2, r2⟩ := S1.mkTup r1
  exact wpAny_newTuple (hQ _ _ tk1 _ _ _ k1.2 S2 (x1.trans (x2.mono x1.len)) r2) (by rw [sizeLine_eq, ← r1.1]; exact Nat.le_trans k1.1 (by decide))
theorem e_dict0 {pos} (h : K .any σ) : AE G c (.Dict [] [] pos) m σ K X := by
  intro A env ρ hh tk z Q E ok S hQ hX
  show wpAny (model PG G.w) A (eval (.Dict [] [] pos) env) Q E _
  rw [eval_Dict_empty]
  refine wpAny_bind (wpAny_standAt (wpAny_newObj_type ?_))
  obtain ⟨S', x'⟩ := S.grow (h' := hh.push { cls := .type "dict", dict := none, data := .dict #[] }) fun b o e => Heap.get?_push_of_some _ e
  exact hQ _ _ tk _ _ _ h S' x' .any
noncomputable def lstOf (σ : AS) (v : V) : Option (List V) := match v with
  | .lst xs => some xs
  | v => match cellOf σ v with
    | some (.list xs) => some xs
    | _ => Option.none
theorem lst_at {A env ρ h v xs} (S : St G A env ρ m σ h) (e : lstOf σ v = some xs) {a} (r : VR G.EC ρ h v a) : ∃ x vals n, a = .ref x ∧ h.get? x = some (listOf (List.toArray vals) n) ∧ VRs G.EC ρ h xs vals := by
  have key : ∀ v, (match cellOf σ v with | some (.list xs) => some xs | _ => Option.none) = some xs → VR G.EC ρ h v a → ∃ x vals n, a = .ref x ∧ h.get? x = some (listOf (List.toArray vals) n) ∧ VRs G.EC ρ h xs vals := by
    intro v e r
    split at e
    · rename_i ys hc
      cases e
      obtain ⟨x, rfl⟩ := cell_ref S hc r
      obtain ⟨vals, n, hx, rr⟩ := cell_at S hc r
      exact ⟨x, vals, n, rfl, hx, rr⟩
    · cases e
  cases v with
  | lst ys =>
    cases e
    cases r with
    | lst q1 q2 q3 q4 => exact ⟨_, _, _, rfl, q1, q3, q4⟩
  | w i => exact key _ e r
  | l i => exact key _ e r
  | _ => cases e
theorem isList_of {h : Heap} {x : Addr} {vals : List Value} {n} (e : h.get? x = some (listOf vals.toArray n)) : h.IsList x vals.toArray := ⟨_, e, rfl, n, rfl⟩
theorem list_type {h : Heap} {x : Addr} {vals : List Value} {n z tk} (e : h.get? x = some (listOf vals.toArray n)) : (sh z h tk).TypeIs (.ref x) "list" := ⟨_, e, rfl⟩

theorem subs {value slice pos} {R2 : V → V → AS → Prop} (h : AE G c value m σ (fun v σ1 => AE G c slice m σ1 (fun i σ2 => R2 v i σ2) X) X)
    {A env ρ hh tk z Q E} (ok : Ok G c A env) (S : St G A env ρ m σ hh)
    (hQ : ∀ ρ' h' tk' v i a b σ', R2 v i σ' → St G A env ρ' m σ' h' → Ext ρ.l.length ρ hh ρ' h' → VR G.EC ρ' h' v a → VR G.EC ρ' h' i b → wpAny (model PG G.w) A (subscriptTail value slice a b) Q E (sh z h' tk'))
    (hX : ∀ ρ' h' tk' v e σ', X v σ' → St G A env ρ' m σ' h' → Ext ρ.l.length ρ hh ρ' h' → Fly G (fl0 env.locals) ρ' hh h' e v → E (.ref e) (sh z h' tk')) :
    wpAny (model PG G.w) A (eval (.Subscript value slice pos) env) Q E (sh z hh tk) := by
  refine Subscript_ (two (t1 := fun env => eval value env) (t2 := fun env => eval slice env) vext h ok S (fun ρ' h' tk' b d a e σ' k S' x r1 r2 => hQ ρ' h' tk' b d a e σ' k S' x r1 r2) hX)

theorem e_item {value slice pos} (h : AE G c value m σ (fun v σ1 => AE G c slice m σ1 (fun i σ2 => ∃ k xs u, i = .int k ∧ lstOf σ2 v = some xs ∧ 0 ≤ k ∧ k < 2 ^ 63 ∧ xs[k.toNat]? = some u ∧ K u σ2) X) X)
    (hs : ∀ a k t, subscripted slice false (.ref a) (.int k t) = operate [.ref a, .int k t] (getItem (.ref a) (.int k t)) := by intro _ _ _; with_unfolding_all rfl) : AE G c (.Subscript value slice pos) m σ K X := by
  intro A env ρ hh tk z Q E ok S hQ hX
  refine subs h ok S (fun ρ' h' tk' v i a b σ' k S' x r1 r2 => ?_) hX
  obtain ⟨k, xs, u, rfl, e1, h0, h1, e2, kk⟩ := k
  obtain ⟨ad, vals, n, rfl, hx, rr⟩ := lst_at S' e1 r1
  cases r2
  obtain ⟨w, e3, r3⟩ := rr.get e2
  refine tail_any (list_type hx) slot_list_getitem.lookup (wpAny_getItem_list (isList_of hx) h0 h1 (x := w) (by simpa using e3) (hQ ρ' h' tk' u w σ' kk S' x r3)) (hs _ _ _)
theorem e_last {value slice pos} (h : AE G c value m σ (fun v σ1 => AE G c slice m σ1 (fun i σ2 => ∃ xs u, i = .int (-1) ∧ lstOf σ2 v = some xs ∧ xs.length < 1000000 ∧ xs.getLast? = some u ∧ K u σ2) X) X)
    (hs : ∀ a k t, subscripted slice false (.ref a) (.int k t) = operate [.ref a, .int k t] (getItem (.ref a) (.int k t)) := by intro _ _ _; with_unfolding_all rfl) : AE G c (.Subscript value slice pos) m σ K X := by
  intro A env ρ hh tk z Q E ok S hQ hX
  refine subs h ok S (fun ρ' h' tk' v i a b σ' k S' x r1 r2 => ?_) hX
  obtain ⟨xs, u, rfl, e1, hl, e2, kk⟩ := k
  obtain ⟨ad, vals, n, rfl, hx, rr⟩ := lst_at S' e1 r1
  cases r2
  rw [List.getLast?_eq_getElem?] at e2
  obtain ⟨w, e3, r3⟩ := rr.get e2
  have hp : 0 < vals.length := by
    have := (List.getElem?_eq_some_iff.mp e3).1
    omega
  have hlen := rr.1
  refine tail_any (list_type hx) slot_list_getitem.lookup (wpAny_getItem_list_neg (isList_of hx) (by decide) (by simp; omega) (by decide) (x := w) ?_ (hQ ρ' h' tk' u w σ' kk S' x r3)) (hs _ _ _)
  have : ((-1 : Int) + (vals.toArray.size : Int)).toNat = xs.length - 1 := by simp; omega
  rw [this]
  simpa using e3
theorem e_titem {value slice pos} (h : AE G c value m σ (fun v σ1 => AE G c slice m σ1 (fun i σ2 => ∃ k xs u, i = .int k ∧ v = .tup xs ∧ 0 ≤ k ∧ k < 2 ^ 63 ∧ xs[k.toNat]? = some u ∧ K u σ2) X) X)
    (hs : ∀ a k t, subscripted slice false (.ref a) (.int k t) = operate [.ref a, .int k t] (getItem (.ref a) (.int k t)) := by intro _ _ _; with_unfolding_all rfl) : AE G c (.Subscript value slice pos) m σ K X := by
  intro A env ρ hh tk z Q E ok S hQ hX
  refine subs h ok S (fun ρ' h' tk' v i a b σ' k S' x r1 r2 => ?_) hX
  obtain ⟨k, xs, u, rfl, rfl, h0, h1, e2, kk⟩ := k
  cases r2
  cases r1 with
  | tup q1 q2 q3 q4 =>
    rename_i ad n vals
    obtain ⟨w, e3, r3⟩ := VRs.get ⟨q3, q4⟩ e2
    have hlt := (List.getElem?_eq_some_iff.mp e3).1
    refine tail_any (T := "tuple") ⟨_, q1, rfl⟩ slot_tuple_getitem.lookup (PyProof.Rows.getItem_tuple (items := vals.toArray) (j := k.toNat) ⟨_, q1, rfl, n, rfl⟩ (by omega) h1 ?_ (x := w) (by simpa using e3) (hQ ρ' h' tk' u w σ' kk S' x r3)) (hs _ _ _)
    unfold seqIndex?
    simp
    omega
end
end Mine
end
section
open PySem PySem.W PyProof.Rows PySem.Calls PySem.Spec
set_option maxRecDepth 10000
namespace Mine

theorem pick_upto (items : Array Value) (y : Int) (h : 0 ≤ y) : slicePick items none (some y) none = (items.toList.take y.toNat).toArray := by
  obtain ⟨k, rfl⟩ := Int.eq_ofNat_of_zero_le h
  have e : sliceBounds none (some (k : Int)) none items.size = (((0 : Nat) : Int), ((min k items.size : Nat) : Int), 1) := by
    show ((0 : Int), (if (1 : Int) > 0 then max 0 (min (if (k : Int) < 0 then (k : Int) + items.size else k) (items.size : Int)) else _), (1 : Int)) = _
    rw [if_pos (by decide), if_neg (Int.not_lt.mpr (Int.natCast_nonneg k))]
    have : max (0 : Int) (min (k : Int) (items.size : Int)) = ((min k items.size : Nat) : Int) := by omega
    rw [this]; rfl
  unfold slicePick
  rw [e]
  show ((sliceRange ((0 : Nat) : Int) ((min k items.size : Nat) : Int) 1).filterMap _).toArray = _
  rw [sliceRange_one, pick_run]
  simp only [List.drop_zero, Nat.sub_zero, Int.toNat_natCast]
  congr 1
  rcases Nat.le_total k items.size with q | q
  · rw [Nat.min_eq_left q]
  · rw [Nat.min_eq_right q, List.take_of_length_le (by simp), List.take_of_length_le (by simpa using q)]
theorem pick_from (items : Array Value) (y : Int) (h : 0 ≤ y) : slicePick items (some y) none none = (items.toList.drop y.toNat).toArray := by
  obtain ⟨k, rfl⟩ := Int.eq_ofNat_of_zero_le h
  have e : sliceBounds (some (k : Int)) none none items.size = (((min k items.size : Nat) : Int), ((items.size : Nat) : Int), 1) := by
    show ((if (1 : Int) > 0 then max 0 (min (if (k : Int) < 0 then (k : Int) + items.size else k) (items.size : Int)) else _), (items.size : Int), (1 : Int)) = _
    rw [if_pos (by decide), if_neg (Int.not_lt.mpr (Int.natCast_nonneg k))]
    have : max (0 : Int) (min (k : Int) (items.size : Int)) = ((min k items.size : Nat) : Int) := by omega
    rw [this]
  unfold slicePick
  rw [e]
  show ((sliceRange ((min k items.size : Nat) : Int) ((items.size : Nat) : Int) 1).filterMap _).toArray = _
  rw [sliceRange_one, pick_run]
  simp only [Int.toNat_natCast]
  congr 1
  rcases Nat.le_total k items.size with q | q
  · rw [Nat.min_eq_left q, List.take_of_length_le (by simp)]
  · rw [Nat.min_eq_right q, List.drop_of_length_le (by simp), List.drop_of_length_le (by simpa using q)]; simp

section
variable {G : Gd} {c : Cx} {A : Around} {env : Env} {ρ : Rho} {m : Loc} {σ : AS} {h h' : Heap}
theorem St.updS (S : St G A env ρ m σ h) {v a c0 c'} (hc : cellOf σ v = some c0) (r : VR G.EC ρ h v (.ref a)) (hs : Heap.SameBut a h h') (hc' : Ext ρ.l.length ρ h ρ h' → CellOk G.EC G.w ρ h' a c') (th : ∃ o, h'.get? a = some o) :
    St G A env ρ m (putCell σ v c') h' ∧ Ext ρ.l.length ρ h ρ h' := by
  obtain ⟨mm, hn, hm⟩ := S.loc
  obtain ⟨_, nf, _⟩ := cell_addr S hc r
  exact S.updC hc r (fun b o n _ e => hs.extBut b o n e) hm (hn.sameBut hs fun z => nf (z ▸ S.hL)) hc' th

theorem VRs.inv_snoc {EC ρ h xs u vs} (b : VRs EC ρ h (xs ++ [u]) vs) : ∃ ws w, vs = ws ++ [w] ∧ VRs EC ρ h xs ws ∧ VR EC ρ h u w := by
  rcases List.eq_nil_or_concat vs with rfl | ⟨ws, w, rfl⟩
  · have := b.1; simp at this
  · rw [List.concat_eq_append] at b ⊢
    have hl : xs.length = ws.length := by have := b.1; simpa using this
    refine ⟨ws, w, rfl, ⟨hl, fun i x v e1 e2 => ?_⟩, ?_⟩
    · have l1 := (List.getElem?_eq_some_iff.mp e1).1
      exact b.2 i x v (by rw [List.getElem?_append_left l1]; exact e1) (by rw [List.getElem?_append_left (hl ▸ l1)]; exact e2)
    · exact b.2 xs.length u w (by simp) (by rw [hl]; simp)
theorem callWith_m1 {M : Model} {E : Value → Shared → Prop} {s : Shared} {pos : Pos} {id : String} {first : List Value} {args : List Expr} {Q : Value → Shared → Prop}
    (h : wpAny M A (spliced (backTo pos (starEach args env))) (fun vs s₁ => wpAny M A (call (.builtin id) (first ++ vs)) Q E s₁) E s) (ha : (backTo pos (starEach args env)).any (·.1) = false) :
    wpAny M A (callWith pos (.builtin id) first (backTo pos (starEach args env)) []) Q E s := by
  refine callWith_builtin ha ?_
  cases args with
  | nil =>
    have h' : wpAny M A (spliced []) (fun vs s₁ => wpAny M A (call (.builtin id) (first ++ vs)) Q E s₁) E s := h
    intro Γ p hΓ
    have q : wpAny M A (call (.builtin id) (first ++ [])) Q E s := h' Γ p hΓ
    exact PyProof.Rows.evalArgs_none (by simpa using q) Γ p hΓ
  | cons e rest =>
    have he : starEach (e :: rest) env = (false, eval e env) :: starEach rest env := star1 ha
    rw [he] at h ⊢
    exact evalArgs_plain h
end
section
variable {G : Gd} {c : Cx} {m : Loc} {σ : AS} {K : V → AS → Prop} {X : V → AS → Prop}

theorem meth_b {o nm apos args pos id} {P1 : V → AS → Prop} {R2 : V → List V → AS → Prop} (h : AE G c o m σ (fun v σ1 => P1 v σ1 ∧ AS' G c args pos m σ1 (fun us σ2 => R2 v us σ2) X) X)
    {A env ρ hh tk z Q E} (ok : Ok G c A env) (S : St G A env ρ m σ hh) (ha : (backTo pos (starEach args env)).any (·.1) = false) {pl : Sem Bool}
    (he : eval (.Call (.Attribute o nm apos) args [] pos) env = (do
      let ov ← eval o env
      standAt apos.atName
      let (f, first) ← holding [ov] (getMethod ov nm pl)
      callWith pos f first (backTo pos (starEach args env)) []))
    (hm : ∀ ρ1 h1 tk1 v a σ1 (Q : Value × List Value → Shared → Prop), P1 v σ1 → St G A env ρ1 m σ1 h1 → VR G.EC ρ1 h1 v a → Q (.builtin id, [a]) (sh z h1 tk1) → wpAny (model PG G.w) A (getMethod a nm pl) Q E (sh z h1 tk1))
    (hQ : ∀ ρ' h' tk' v us a bs σ', R2 v us σ' → St G A env ρ' m σ' h' → Ext ρ.l.length ρ hh ρ' h' → VR G.EC ρ' h' v a → VRs G.EC ρ' h' us bs → wpAny (model PG G.w) A (call (.builtin id) (a :: bs)) Q E (sh z h' tk'))
    (hX : ∀ ρ' h' tk' v e σ', X v σ' → St G A env ρ' m σ' h' → Ext ρ.l.length ρ hh ρ' h' → Fly G (fl0 env.locals) ρ' hh h' e v → E (.ref e) (sh z h' tk')) :
    wpAny (model PG G.w) A (eval (.Call (.Attribute o nm apos) args [] pos) env) Q E (sh z hh tk) := by
  refine MethodCall_ (pl := pl) ?_ he
  refine h A env ρ hh tk z _ _ ok S (fun ρ1 h1 tk1 v a σ1 k1 S1 x1 r1 => ?_) hX
  refine hm ρ1 h1 tk1 v a σ1 _ k1.1 S1 r1 (callWith_m1 (k1.2 A env ρ1 h1 tk1 z _ _ ok S1 (fun ρ2 h2 tk2 us bs σ2 k2 S2 x2 r2 => ?_) fun ρ2 h2 tk2 v e σ2 q S2 x2 f2 => hX ρ2 h2 tk2 v e σ2 q S2 (x1.trans (x2.mono x1.len)) (f2.mono x1.old)) ha)
  exact hQ ρ2 h2 tk2 v us a bs σ2 k2 S2 (x1.trans (x2.mono x1.len)) (r1.ext x2) r2

theorem cell_list_at {A env ρ h v xs} (S : St G A env ρ m σ h) (e : cellOf σ v = some (.list xs)) {a} (r : VR G.EC ρ h v a) : ∃ x vals n, a = .ref x ∧ h.get? x = some (listOf (List.toArray vals) n) ∧ VRs G.EC ρ h xs vals := by
  obtain ⟨x, rfl⟩ := cell_ref S e r
  obtain ⟨vals, n, hx, rr⟩ := cell_at S e r
  exact ⟨x, vals, n, rfl, hx, rr⟩
theorem list_method {A env ρ h v xs nm id pl z tk} (S : St G A env ρ m σ h) (e : cellOf σ v = some (.list xs)) {a} (r : VR G.EC ρ h v a) (slot : Slot "list" nm id) (hty : typeOf (.builtin id) = pure (.type "method_descriptor")) {E : Value → Shared → Prop} (Q : Value × List Value → Shared → Prop)
    (h' : Q (.builtin id, [a]) (sh z h tk)) : wpAny (model PG G.w) A (getMethod a nm pl) Q E (sh z h tk) := by
  obtain ⟨x, vals, n, rfl, hx, _⟩ := cell_list_at S e r
  exact getMethod_builtin ⟨_, hx, rfl⟩ PySem.F.plainAttrs_list slot hty (fun a e => by cases e; exact ⟨_, hx, rfl⟩) h'
theorem e_append {o apos e pos} {pl : Env → Sem Bool} (h : AE G c o m σ (fun v σ1 => (∃ xs, cellOf σ1 v = some (.list xs)) ∧ AS' G c [e] pos m σ1 (fun us σ2 => ∃ u xs, us = [u] ∧ cellOf σ2 v = some (.list xs) ∧ xs.length ≤ 100000 ∧ K .none (putCell σ2 v (.list (xs ++ [u])))) X) X)
    (ha : ∀ env, (backTo pos (starEach [e] env)).any (·.1) = false := by intro _; rfl)
    (he : ∀ env, eval (.Call (.Attribute o "append" apos) [e] [] pos) env = (do
      let ov ← eval o env
      standAt apos.atName
      let (f, first) ← holding [ov] (getMethod ov "append" (pl env))
      callWith pos f first (backTo pos (starEach [e] env)) []) := by intro _; rfl) : AE G c (.Call (.Attribute o "append" apos) [e] [] pos) m σ K X := by
  intro A env ρ hh tk z Q E ok S hQ hX
  refine meth_b (id := "list.append") h ok S (ha env) (he env) (fun ρ1 h1 tk1 v a σ1 Q' p S1 r1 q => ?_) (fun ρ' h' tk' v us a bs σ' k S' x r1 r2 => ?_) hX
  · obtain ⟨xs, p⟩ := p
    exact list_method S1 p r1 PySem.F.slot_list_append PySem.F.type_list_append Q' q
  · obtain ⟨u, xs, rfl, hc, hl, k⟩ := k
    obtain ⟨b, bs', rfl, rb, rr⟩ := r2.inv_cons
    rw [rr.inv_nil]
    obtain ⟨xa, vals, n, rfl, hx, rx⟩ := cell_list_at S' hc r1
    refine append_at hx (fun h2 hs hD => ?_) (by rw [List.size_toArray, ← rx.1, sizeLine_eq]; omega)
    obtain ⟨S2, x2⟩ := S'.updS (c' := .list (xs ++ [u])) hc r1 hs (fun x => ⟨vals ++ [b], n + 1, by rw [hD]; simp [W.listOf], (rx.ext x).append (VRs.one (rb.ext x))⟩) ⟨_, hD⟩
    exact hQ ρ' h2 tk' .none _ _ k S2 (x.trans (x2.mono x.len)) .none
theorem e_pop {o apos pos} {pl : Env → Sem Bool} (h : AE G c o m σ (fun v σ1 => ∃ xs u, cellOf σ1 v = some (.list (xs ++ [u])) ∧ xs.length ≤ 100000 ∧ K .any (putCell σ1 v (.list xs))) X)
    (he : ∀ env, eval (.Call (.Attribute o "pop" apos) [] [] pos) env = (do
      let ov ← eval o env
      standAt apos.atName
      let (f, first) ← holding [ov] (getMethod ov "pop" (pl env))
      callWith pos f first (backTo pos (starEach [] env)) []) := by intro _; rfl) : AE G c (.Call (.Attribute o "pop" apos) [] [] pos) m σ K X := by
  intro A env ρ hh tk z Q E ok S hQ hX
  refine meth_b (id := "list.pop") (P1 := fun v σ1 => ∃ xs, cellOf σ1 v = some (.list xs)) (R2 := fun v us σ2 => us = [] ∧ ∃ xs u, cellOf σ2 v = some (.list (xs ++ [u])) ∧ xs.length ≤ 100000 ∧ K .any (putCell σ2 v (.list xs)))
    (TR.mono h (fun v σ1 ⟨xs, u, k⟩ => ⟨⟨_, k.1⟩, as_nil ⟨rfl, xs, u, k⟩⟩) fun _ _ q => q) ok S rfl (he env) (fun ρ1 h1 tk1 v a σ1 Q' p S1 r1 q => ?_) (fun ρ' h' tk' v us a bs σ' k S' x r1 r2 => ?_) hX
  · obtain ⟨xs, p⟩ := p
    exact list_method S1 p r1 PySem.F.slot_list_pop PySem.F.type_list_pop Q' q
  · obtain ⟨rfl, xs, u, hc, hl, k⟩ := k
    rw [r2.inv_nil]
    obtain ⟨xa, vals, n, rfl, hx, rx⟩ := cell_list_at S' hc r1
    obtain ⟨pre, post, N, n1, n2, full⟩ := S'.round hc r1 hx
    obtain ⟨mm, hn, hm⟩ := S'.loc
    obtain ⟨ws, w, rfl, rxs, rw_⟩ := rx.inv_snoc
    have hlen : ws.length = xs.length := rxs.1.symm
    have hz' : (ws ++ [w]).toArray.size ≤ sizeLine := by rw [List.size_toArray, sizeLine_eq]; simp; omega
    have hk : (ws ++ [w]).toArray.size - 1 = ws.length := by simp
    have hy : (ws ++ [w]).toArray[(ws ++ [w]).toArray.size - 1]? = some w := by rw [hk]; simp
    refine call_meets PySem.F.slot_list_pop ⟨_, hx, rfl⟩ PySem.F.entry_list_pop (PySem.F.args_list_pop_1 _) (PySem.MeetsSeq.list_pop_last xa _ n _ hy hz') ⟨hx, ?_⟩
    have hu := PySem.IsL.update hx fun xs => xs.eraseIdxIfInBounds ((ws ++ [w]).toArray.size - 1)
    have hne' : (ws ++ [w]).toArray.eraseIdxIfInBounds ((ws ++ [w]).toArray.size - 1) = ws.toArray := by
      rw [hk, kl_erase, List.append_nil]
    rw [hne'] at hu
    obtain ⟨S2, x2⟩ := S'.updS (c' := .list xs) hc r1 (Heap.SameBut.update ..) (fun x => ⟨ws, _, hu, rxs.ext x⟩) ⟨_, hu⟩
    exact hQ ρ' _ tk' .any _ _ k S2 (x.trans (x2.mono x.len)) .any
end
end Mine
end
section
open PySem PySem.W PyProof.Rows PySem.Calls PySem.Spec
set_option maxRecDepth 10000
namespace Mine

section
variable {G : Gd} {c : Cx} {m : Loc} {σ : AS} {K : Fl → Loc → AS → Prop} {X : V → Loc → AS → Prop}
theorem s_expr {e pos} (h : AE G c e m σ (fun _ σ1 => K .next m σ1) (fun v σ1 => X v m σ1)) (hs : ∀ env, swapsWith e none pos.line env = pure false := by intro _; rfl) : S1 G c (.Expr e pos) m σ K X := by
  intro A env ρ hh tk z Q E ok S hn hQ hE
  refine wpAny_Expr_any (h A env ρ hh tk z _ _ ok S (fun ρ1 h1 tk1 v a σ1 k1 S1 x1 r1 => hQ ρ1 h1 tk1 .next m σ1 _ k1 S1 (x1.mono hn) .next) fun ρ1 h1 tk1 v e σ1 k1 S1 x1 f1 => hE ρ1 h1 tk1 v m σ1 e k1 S1 (x1.mono hn) f1) ?_ (hs env)
  obtain ⟨L, a, cd, cl, rfl⟩ := ok.env
  unfold interactive
  rw [show (envX c.qual c.scope L a cd cl).scope.kind = .function from ok.kind]
  rfl
theorem s_setitem {o i pt value pos} (h : AE G c value m σ (fun u σ1 => AE G c o m σ1 (fun v σ2 => AE G c i m σ2 (fun iv σ3 => ∃ k xs, iv = .int k ∧ cellOf σ3 v = some (.list xs) ∧ 0 ≤ k ∧ k < xs.length ∧ xs.length < 1000000 ∧ K .next m (putCell σ3 v (.list (xs.set k.toNat u)))) (fun v σ2 => X v m σ2)) (fun v σ2 => X v m σ2)) (fun v σ1 => X v m σ1))
    (hs : ∀ env, swapsWith value (some (.Subscript o i pt)) pos.line env = pure false := by intro _; rfl) : S1 G c (.Assign [.Subscript o i pt] value pos) m σ K X := by
  intro A env ρ hh tk z Q E ok S hn hQ hE
  refine wpAny_Assign_Subscript ?_ (hs env)
  refine h A env ρ hh tk z _ _ ok S (fun ρ1 h1 tk1 u a σ1 k1 S1 x1 r1 => ?_) fun ρ1 h1 tk1 v e σ1 k1 S1 x1 f1 => hE ρ1 h1 tk1 v m σ1 e k1 S1 (x1.mono hn) f1
  refine k1 A env ρ1 h1 tk1 z _ _ ok S1 (fun ρ2 h2 tk2 v b σ2 k2 S2 x2 r2 => ?_) fun ρ2 h2 tk2 v e σ2 k2 S2 x2 f2 => hE ρ2 h2 tk2 v m σ2 e k2 S2 ((x1.trans (x2.mono x1.len)).mono hn) (f2.mono x1.old)
  have x12 := x1.trans (x2.mono x1.len)
  refine k2 A env ρ2 h2 tk2 z _ _ ok S2 (fun ρ3 h3 tk3 iv d σ3 k3 S3 x3 r3 => ?_) fun ρ3 h3 tk3 v e σ3 k3 S3 x3 f3 => hE ρ3 h3 tk3 v m σ3 e k3 S3 ((x12.trans (x3.mono x12.len)).mono hn) (f3.mono x12.old)
  have x13 := x12.trans (x3.mono x12.len)
  obtain ⟨k, xs, rfl, hc, h0, h1', h2', kk⟩ := k3
  cases r3
  obtain ⟨xa, vals, n, rfl, hx, rx⟩ := cell_list_at S3 hc (r2.ext x3)
  have hl : vals.length = xs.length := rx.1.symm
  refine ki_setAt hx h0 (by omega) (by rw [List.size_toArray, hl]; exact h1') ?_
  have hu := PySem.IsL.update hx fun ys => ys.setIfInBounds k.toNat a
  have he : vals.toArray.setIfInBounds k.toNat a = (vals.set k.toNat a).toArray := by simp
  rw [he] at hu
  have ru : VRs G.EC ρ3 h3 (xs.set k.toNat u) (vals.set k.toNat a) := by
    refine ⟨by simp [rx.1], fun j y w e1 e2 => ?_⟩
    rw [List.getElem?_set] at e1 e2
    by_cases q : k.toNat = j
    · rw [if_pos q] at e1 e2
      split at e1
      · split at e2
        · cases e1; cases e2; exact (r1.ext x2).ext x3
        · cases e2
      · cases e1
    · rw [if_neg q] at e1 e2
      exact rx.2 j y w e1 e2
  obtain ⟨S4, x4⟩ := S3.updS (c' := .list (xs.set k.toNat u)) hc (r2.ext x3) (Heap.SameBut.update ..) (fun x => ⟨_, _, hu, ru.ext x⟩) ⟨_, hu⟩
  exact hQ ρ3 _ _ .next m _ _ kk S4 ((x13.trans (x4.mono x13.len)).mono hn) .next
end
section
variable {EC : Addr} {ρ : Rho} {h : Heap}
theorem MapR.look {es : List (Str × V)} {kvs : List (Str × Value)} (r : MapR EC ρ h es kvs) {x v} (e : es.lookup x = some v) : ∃ a, valueAt kvs x = some a ∧ VR EC ρ h v a := by
  induction es generalizing kvs with
  | nil => cases e
  | cons p t ih =>
    cases kvs with
    | nil => have := r.1; simp at this
    | cons q kvs =>
      obtain ⟨k1, k2⟩ := r.2 0 p q rfl rfl
      rw [List.lookup_cons] at e
      unfold valueAt
      rw [List.find?_cons]
      by_cases z : x = p.1
      · rw [beq_iff_eq.mpr z] at e
        cases e
        rw [show decide (q.1 = x) = true from decide_eq_true (k1.trans z.symm)]
        exact ⟨_, rfl, k2⟩
      · rw [beq_eq_false_iff_ne.mpr z] at e
        rw [show decide (q.1 = x) = false from decide_eq_false fun w => z (w.symm.trans k1)]
        exact ih ⟨by simpa using r.1, fun i a b e1 e2 => r.2 (i + 1) a b e1 e2⟩ e
theorem MapR.put {es : List (Str × V)} {kvs : List (Str × Value)} (r : MapR EC ρ h es kvs) (nd : (kvs.map (·.1)).Nodup) {x v a} (ra : VR EC ρ h v a) : MapR EC ρ h (putA x v es) (stored kvs x a) := by
  induction es generalizing kvs with
  | nil =>
    have : kvs = [] := by
      have := r.1
      cases kvs with
      | nil => rfl
      | cons => simp at this
    subst this
    exact ⟨rfl, fun i e d e1 e2 => by
      cases i with
      | zero => cases e1; cases e2; exact ⟨rfl, ra⟩
      | succ i => simp [putA] at e1⟩
  | cons p t ih =>
    cases kvs with
    | nil => have := r.1; simp at this
    | cons q kvs =>
      obtain ⟨y, u⟩ := p
      obtain ⟨qk, qv⟩ := q
      obtain ⟨k1, k2⟩ := r.2 0 (y, u) (qk, qv) rfl rfl
      simp only at k1 k2
      subst k1
      have r' : MapR EC ρ h t kvs := ⟨by simpa using r.1, fun i a b e1 e2 => r.2 (i + 1) a b e1 e2⟩
      have nd' := List.nodup_cons.mp nd
      unfold putA
      by_cases z : qk = x
      · subst z
        rw [if_pos rfl]
        have hm : stored ((qk, qv) :: kvs) qk a = (qk, a) :: kvs := by
          unfold stored
          rw [if_pos (by simp)]
          rw [List.map_cons, if_pos rfl]
          congr 1
          exact (List.map_congr_left (g := id) fun kv hkv => if_neg fun w => nd'.1 (List.mem_map.mpr ⟨kv, hkv, w⟩)).trans (List.map_id _)
        rw [hm]
        exact ⟨by simp [r'.1], fun i e d e1 e2 => by
          cases i with
          | zero => cases e1; cases e2; exact ⟨rfl, ra⟩
          | succ i => exact r'.2 i e d e1 e2⟩
      · rw [if_neg z]
        have hm : stored ((qk, qv) :: kvs) x a = (qk, qv) :: stored kvs x a := by
          unfold stored
          rw [List.any_cons, decide_eq_false z, Bool.false_or]
          split
          · rw [List.map_cons, if_neg z]
          · rfl
        rw [hm]
        have := ih r' nd'.2
        exact ⟨by simp [this.1], fun i e d e1 e2 => by
          cases i with
          | zero => cases e1; cases e2; exact ⟨rfl, k2⟩
          | succ i => exact this.2 i e d e1 e2⟩
end

section
variable {G : Gd} {c : Cx} {m : Loc} {σ : AS}
theorem map_at {A env ρ h v es} (S : St G A env ρ m σ h) (e : cellOf σ v = some (.map es)) {a} (r : VR G.EC ρ h v a) : ∃ x kvs, a = .ref x ∧ h.DictOf (strKind PG G.w) x kvs ∧ MapR G.EC ρ h es kvs := by
  obtain ⟨x, rfl⟩ := cell_ref S e r
  obtain ⟨kvs, hx, rr⟩ := cell_at S e r
  exact ⟨x, kvs, rfl, hx, rr⟩
theorem str_is (x : Str) (t : Tok) : Value.isStrOf x (.str x t) = true := by simp [Value.isStrOf]
section
variable {K : V → AS → Prop} {X : V → AS → Prop}
theorem e_key {value slice pos} (h : AE G c value m σ (fun v σ1 => AE G c slice m σ1 (fun i σ2 => ∃ x es u, i = .str x ∧ cellOf σ2 v = some (.map es) ∧ es.lookup x = some u ∧ K u σ2) X) X)
    (hs : ∀ a x t, subscripted slice false (.ref a) (.str x t) = operate [.ref a, .str x t] (getItem (.ref a) (.str x t)) := by intro _ _ _; with_unfolding_all rfl) : AE G c (.Subscript value slice pos) m σ K X := by
  intro A env ρ hh tk z Q E ok S hQ hX
  refine subs h ok S (fun ρ' h' tk' v i a b σ' k S' x r1 r2 => ?_) hX
  obtain ⟨y, es, u, rfl, e1, e2, kk⟩ := k
  obtain ⟨ad, kvs, rfl, hx, rr⟩ := map_at S' e1 r1
  cases r2
  rename_i tok
  obtain ⟨w, e3, r3⟩ := rr.look e2
  refine tail_any (T := "dict") (Heap.DictOf.typeIs (knd := strKind PG G.w) (s := sh z h' tk') hx) slot_dict_getitem.lookup (wpAny_getItem_of (knd := strKind PG G.w) (k := y) (str_is y tok) hx.mapOf e3 (hQ ρ' h' _ u w σ' kk S' x r3)) (hs _ _ _)
end
variable {K : Fl → Loc → AS → Prop} {X : V → Loc → AS → Prop}
theorem s_setkey {o i pt value pos} (h : AE G c value m σ (fun u σ1 => AE G c o m σ1 (fun v σ2 => AE G c i m σ2 (fun iv σ3 => ∃ x es, iv = .str x ∧ cellOf σ3 v = some (.map es) ∧ es.length < 1000 ∧ K .next m (putCell σ3 v (.map (putA x u es)))) (fun v σ2 => X v m σ2)) (fun v σ2 => X v m σ2)) (fun v σ1 => X v m σ1))
    (hs : ∀ env, swapsWith value (some (.Subscript o i pt)) pos.line env = pure false := by intro _; rfl) : S1 G c (.Assign [.Subscript o i pt] value pos) m σ K X := by
  intro A env ρ hh tk z Q E ok S hn hQ hE
  refine wpAny_Assign_Subscript ?_ (hs env)
  refine h A env ρ hh tk z _ _ ok S (fun ρ1 h1 tk1 u a σ1 k1 S1 x1 r1 => ?_) fun ρ1 h1 tk1 v e σ1 k1 S1 x1 f1 => hE ρ1 h1 tk1 v m σ1 e k1 S1 (x1.mono hn) f1
  refine k1 A env ρ1 h1 tk1 z _ _ ok S1 (fun ρ2 h2 tk2 v b σ2 k2 S2 x2 r2 => ?_) fun ρ2 h2 tk2 v e σ2 k2 S2 x2 f2 => hE ρ2 h2 tk2 v m σ2 e k2 S2 ((x1.trans (x2.mono x1.len)).mono hn) (f2.mono x1.old)
  have x12 := x1.trans (x2.mono x1.len)
  refine k2 A env ρ2 h2 tk2 z _ _ ok S2 (fun ρ3 h3 tk3 iv d σ3 k3 S3 x3 r3 => ?_) fun ρ3 h3 tk3 v e σ3 k3 S3 x3 f3 => hE ρ3 h3 tk3 v m σ3 e k3 S3 ((x12.trans (x3.mono x12.len)).mono hn) (f3.mono x12.old)
  have x13 := x12.trans (x3.mono x12.len)
  obtain ⟨y, es, rfl, hc, hl, kk⟩ := k3
  cases r3
  rename_i tok
  obtain ⟨xa, kvs, rfl, hx, rx⟩ := map_at S3 hc (r2.ext x3)
  have hnd : (kvs.map (·.1)).Nodup := by obtain ⟨_, _, _, _, _, _, _, _, q⟩ := hx; exact q
  refine wpAny_setItem_pairs (knd := strKind PG G.w) (k := y) (str_is y tok) hx (fun h' hd hs' => ?_) (by rw [← rx.1, sizeLine_eq]; omega)
  obtain ⟨S4, x4⟩ := S3.updS (c' := .map (putA y u es)) hc (r2.ext x3) hs' (fun x => ⟨_, hd, rx.ext x |>.put hnd (((r1.ext x2).ext x3).ext x)⟩) (let ⟨o, _, _, e, _⟩ := hd; ⟨o, e⟩)
  exact hQ ρ3 _ _ .next m _ _ kk S4 ((x13.trans (x4.mono x13.len)).mono hn) .next
end
end Mine
end
section
open PySem PySem.W PyProof.Rows PySem.Calls PySem.Spec PySem.SeqAt
set_option maxRecDepth 10000
namespace Mine

noncomputable def methOk (K : Frag) (C : Addr) (nm : Str) (f : Addr) : Bool := plainGet K C nm && (findIn K (.ref C) nm == some (some (.ref f))) && isFn K (.ref f)
section
variable {G : Gd} {c : Cx} {m : Loc} {σ : AS} {K : V → AS → Prop} {X : V → AS → Prop}
theorem method_at {A env ρ h z tk v C es nm f a} (ok : Ok G c A env) (S : St G A env ρ m σ h) (e : instOf σ v = some (C, es)) (r : VR G.EC ρ h v a) (hm : methOk G.K C nm f = true) (hl : es.lookup nm = none) {pl : Sem Bool} {Q : Value × List Value → Shared → Prop} {E : Value → Shared → Prop}
    (h' : Q (.ref f, [a]) (sh z h tk)) : wpAny (model PG G.w) A (getMethod a nm pl) Q E (sh z h tk) := by
  obtain ⟨x, dx, des, n, rfl, hx, hd, _, g⟩ := inst_at S e r
  obtain ⟨mm, hn, _⟩ := S.loc
  simp only [methOk, Bool.and_eq_true, beq_iff_eq] at hm
  obtain ⟨⟨h1, h2⟩, h3⟩ := hm
  have I : InstAt h x (instObj C dx) C (some (dictOf des n)) := ⟨hx, rfl, rfl, hd⟩
  exact method_inst (s := sh z h tk) (S.fr_ hn) ok.gd.X I h1 h2 h3 (g nm hl) h'

theorem callWith_fn {M : Model} {A : Around} {env : Env} {E : Value → Shared → Prop} {s : Shared} {KF : Frag} {pos : Pos} {f : Value} {first : List Value} {args : List Expr} {Q : Value → Shared → Prop} (hk : keepIn KF f = true) (ha : (backTo pos (starEach args env)).any (·.1) = false)
    (h : wpAny M A (spliced (backTo pos (starEach args env))) (fun vs s₁ => KF.In s₁.heap ∧ wpAny M A (call f (first ++ vs)) Q E s₁) E s) :
    wpAny M A (callWith pos f first (backTo pos (starEach args env)) []) Q E s := by
  refine callWith_of (P := fun h => KF.In h) (by rw [ha]; rfl) (keeps_K hk) ?_
  cases args with
  | nil =>
    intro Γ p hΓ
    have q : KF.In s.heap ∧ wpAny M A (call f (first ++ [])) Q E s := h Γ p hΓ
    exact PyProof.Rows.evalArgs_none (Q := fun a s₁ => KF.In s₁.heap ∧ wpAny M A (call f (first ++ a.pos) a.kw) Q E s₁) q Γ p hΓ
  | cons e rest =>
    have he : starEach (e :: rest) env = (false, eval e env) :: starEach rest env := star1 ha
    rw [he] at h ⊢
    exact evalArgs_plain h

theorem e_meth {o nm apos args pos f fd xs d} {pl : Env → Sem Bool} (F : FnK G f fd xs) (hd : c.d = d + 1)
    (h : AE G c o m σ (fun v σ1 => (∃ C es, instOf σ1 v = some (C, es) ∧ methOk G.K C nm f = true ∧ es.lookup nm = none) ∧ AS' G c args pos m σ1 (fun vs σ2 => (v :: vs).length = xs.length ∧ FT G fd xs (v :: vs) σ2 d c.hn K X) X) X)
    (ha : ∀ env, (backTo pos (starEach args env)).any (·.1) = false := by intro _; rfl)
    (he : ∀ env, eval (.Call (.Attribute o nm apos) args [] pos) env = (do
      let ov ← eval o env
      standAt apos.atName
      let (f, first) ← holding [ov] (getMethod ov nm (pl env))
      callWith pos f first (backTo pos (starEach args env)) []) := by intro _; rfl) : AE G c (.Call (.Attribute o nm apos) args [] pos) m σ K X := by
  intro A env ρ hh tk z Q E ok S hQ hX
  refine MethodCall_ (pl := pl env) ?_ (he env)
  refine h A env ρ hh tk z _ _ ok S (fun ρ1 h1 tk1 v a σ1 k1 S1 x1 r1 => ?_) hX
  obtain ⟨⟨C, es, e1, e2, e3⟩, k1⟩ := k1
  refine method_at ok S1 e1 r1 e2 e3 (callWith_fn F.keep (ha env) ?_)
  refine k1 A env ρ1 h1 tk1 z _ _ ok S1 (fun ρ2 h2 tk2 vs vals σ2 k2 S2 x2 r2 => ⟨S2.inK ok.gd.X, ?_⟩) fun ρ2 h2 tk2 v e σ2 k2 S2 x2 f2 => hX ρ2 h2 tk2 v e σ2 k2 S2 (x1.trans (x2.mono x1.len)) (f2.mono x1.old)
  have x3 := x1.trans (x2.mono x1.len)
  exact callK ok S2 hd F (.cons (r1.ext x2) r2) k2.1 k2.2 (fun ρ3 h3 tk3 v a σ3 k3 S3 x4 r3 => hQ ρ3 h3 tk3 v a σ3 k3 S3 (x3.trans (x4.mono x3.len)) r3)
    fun ρ3 h3 tk3 v e σ3 k3 S3 x4 f4 => hX ρ3 h3 tk3 v e σ3 k3 S3 (x3.trans (x4.mono x3.len)) (f4.mono x3.old)
theorem e_addl {e1 e2 pos} (h : AE G c e1 m σ (fun v1 σ1 => AE G c e2 m σ1 (fun v2 σ2 => ∃ xs ys, lstOf σ2 v1 = some xs ∧ lstOf σ2 v2 = some ys ∧ xs.length + ys.length ≤ 100000 ∧ K (.lst (xs ++ ys)) σ2) X) X) : AE G c (.BinOp e1 .Add e2 pos) m σ K X := by
  intro A env ρ hh tk z Q E ok S hQ hX
  refine wpAny_BinOp (two vext h ok S (fun ρ' h' tk' b d a e σ' k S' x r1 r2 => ?_) hX)
  obtain ⟨xs, ys, q1, q2, hl, k⟩ := k
  obtain ⟨a1, v1, n1, rfl, h1, rr1⟩ := lst_at S' q1 r1
  obtain ⟨a2, v2, n2, rfl, h2, rr2⟩ := lst_at S' q2 r2
  obtain ⟨S2, x2, r2⟩ := S'.mkLst (rr1.append rr2)
  refine P.add_list h1 h2 ?_ (by rw [List.size_toArray, List.size_toArray, ← rr1.1, ← rr2.1, sizeLine_eq]; omega)
  have e : v1.toArray ++ v2.toArray = (v1 ++ v2).toArray := by simp
  show Q _ (sh z (h'.push _) tk')
  rw [e]
  exact hQ _ _ tk' _ _ _ k S2 (x.trans (x2.mono x.len)) r2
theorem e_addb {e1 e2 pos} (h : AE G c e1 m σ (fun v1 σ1 => AE G c e2 m σ1 (fun v2 σ2 => ∃ xs ys, v1 = .byt xs ∧ v2 = .byt ys ∧ xs.size + ys.size ≤ 100000 ∧ K (.byt (xs ++ ys)) σ2) X) X) : AE G c (.BinOp e1 .Add e2 pos) m σ K X := by
  intro A env ρ hh tk z Q E ok S hQ hX
  refine wpAny_BinOp (two vext h ok S (fun ρ' h' tk' b d a e σ' k S' x r1 r2 => ?_) hX)
  obtain ⟨xs, ys, rfl, rfl, hl, k⟩ := k
  cases r1
  cases r2
  exact KBy.add_bytes (Nat.le_trans hl (by decide)) fun t' k' => hQ ρ' h' _ _ _ _ k S' x .byt
end
noncomputable def CV (G : Gd) (c : Cx) (σ : AS) (op : CmpOp) (v1 v2 : V) (b : Bool) : Prop :=
  ∀ (A : Around) (env : Env) (ρ : Rho) (m : Loc) (h : Heap) (tk : Tok) (z : Shared) (a1 a2 : Value) (Q : Value → Shared → Prop) (E : Value → Shared → Prop), Ok G c A env → St G A env ρ m σ h → VR G.EC ρ h v1 a1 → VR G.EC ρ h v2 a2 →
    Q (.bool b) (sh z h tk) → wpAny (model PG G.w) A (compareOp op a1 a2) Q E (sh z h tk)
section
variable {G : Gd} {c : Cx} {m : Loc} {σ : AS} {X : V → AS → Prop}
theorem e_cv {op e1 e2 pos} {K : V → AS → Prop} (h : AE G c e1 m σ (fun v1 σ1 => AE G c e2 m σ1 (fun v2 σ2 => ∃ b, CV G c σ2 op v1 v2 b ∧ K (.bool b) σ2) X) X)
    (hm : behindInMarks op e2 = false := by with_unfolding_all rfl) : AE G c (.Compare e1 [op] [e2] pos) m σ K X := by
  intro A env ρ hh tk z Q E ok S hQ hX
  refine wpAny_Compare1 (two vext h ok S (fun ρ' h' tk' b d a e σ' k S' x r1 r2 => ?_) hX) hm
  obtain ⟨b, cv, k⟩ := k
  exact cv A env ρ' m h' tk' z _ _ _ _ ok S' r1 r2 (hQ ρ' h' _ _ _ σ' k S' x .bool)
theorem b_cv {op e1 e2 pos} {K : Bool → AS → Prop} (h : AE G c e1 m σ (fun v1 σ1 => AE G c e2 m σ1 (fun v2 σ2 => ∃ b, CV G c σ2 op v1 v2 b ∧ K b σ2) X) X)
    (hm : behindInMarks op e2 = false := by with_unfolding_all rfl) : AB G c (.Compare e1 [op] [e2] pos) m σ K X := by
  intro A env ρ hh tk z Q E ok S hQ hX
  refine wpAny_isTrue_Compare1 (two vext h ok S (fun ρ' h' tk' b d a e σ' k S' x r1 r2 => ?_) hX) hm
  obtain ⟨b, cv, k⟩ := k
  exact cv A env ρ' m h' tk' z _ _ _ _ ok S' r1 r2 (wpAny_truthy_bool (hQ ρ' h' _ _ _ σ' k S' x rfl))

theorem cv_beq {x y} : CV G c σ .Eq (.byt x) (.byt y) (x.toList == y.toList) := fun A env ρ m h tk z a1 a2 Q E ok S r1 r2 q => by cases r1; cases r2; exact eq_bytes q
theorem cv_bne {x y} : CV G c σ .NotEq (.byt x) (.byt y) (x.toList != y.toList) := fun A env ρ m h tk z a1 a2 Q E ok S r1 r2 q => by cases r1; cases r2; exact ne_bytes q
theorem cv_seq {x y} : CV G c σ .Eq (.str x) (.str y) (x == y) := fun A env ρ m h tk z a1 a2 Q E ok S r1 r2 q => by cases r1; cases r2; exact PyProof.Rows.eq_str q
theorem cv_ints {x i} : CV G c σ .Eq (.int i) (.str x) false := fun A env ρ m h tk z a1 a2 Q E ok S r1 r2 q => by cases r1; cases r2; exact EqMixed.eq_int_str q
theorem Ok.u {A env} (ok : Ok G c A env) : A.units < cLine := by have := ok.units; omega
theorem tup_at {ρ h xs a} (r : VR G.EC ρ h (.tup xs) a) : ∃ x vals n, a = .ref x ∧ h.get? x = some { cls := .type "tuple", data := .seq (List.toArray vals) n } ∧ VRs G.EC ρ h xs vals := by
  cases r with
  | tup e _ l q => exact ⟨_, _, _, rfl, e, l, q⟩
theorem cv_tups {xs x} : CV G c σ .Eq (.tup xs) (.str x) false := fun A env ρ m h tk z a1 a2 Q E ok S r1 r2 q => by
  obtain ⟨b, vals, n, rfl, hb, _⟩ := tup_at r1
  cases r2
  exact RcAt.tuple_str (s := sh z h tk) _ _ ⟨_, hb, rfl, n, rfl⟩ ok.u PG G.w E Q q
noncomputable def isN : V → Option Bool
  | .none => some true
  | .any => Option.none
  | .cst _ => Option.none
  | _ => some false
theorem isN_of {v ρ h a b} (e : isN v = some b) (r : VR G.EC ρ h v a) : (a == .none) = b := by
  cases r <;> cases e <;> rfl
theorem cv_isn {v b} (e : isN v = some b) : CV G c σ .Is v .none b := fun A env ρ m h tk z a1 a2 Q E ok S r1 r2 q => by
  cases r2
  refine is_none_gen ?_
  rw [isN_of e r1]; exact q
theorem cv_isnn {v b} (e : isN v = some b) : CV G c σ .IsNot v .none (!b) := fun A env ρ m h tk z a1 a2 Q E ok S r1 r2 q => by
  cases r2
  refine isNot_none ?_
  rw [isN_of e r1]; exact q
theorem cv_lnil {v xs} (e : lstOf σ v = some xs) : CV G c σ .Eq v (.lst []) xs.isEmpty := fun A env ρ m h tk z a1 a2 Q E ok S r1 r2 q => by
  obtain ⟨x1, v1, n1, rfl, h1, rr1⟩ := lst_at S e r1
  obtain ⟨x2, v2, n2, rfl, h2, rr2⟩ := lst_at S rfl r2
  have := rr2.inv_nil
  subst this
  cases xs with
  | nil =>
    have := rr1.inv_nil
    subst this
    exact eq_listAt (e := fun _ => true) (isList_of h1) (isList_of h2) rfl ok.u (fun j h1 => by simp at h1) q
  | cons y ys =>
    obtain ⟨w, ws, rfl, _, _⟩ := rr1.inv_cons
    exact eq_list_lengthsAt (isList_of h1) (isList_of h2) (by simp) ok.u q

inductive DS (σ : AS) : Nat → V → V → Prop
  | int {n i} : DS σ n (.int i) (.int i)
  | bool {n b} : DS σ n (.bool b) (.bool b)
  | byt {n b} : DS σ n (.byt b) (.byt b)
  | str {n x} : DS σ n (.str x) (.str x)
  | tup {n xs ys} : xs.length = ys.length → (∀ (i : Nat) x y, xs[i]? = some x → ys[i]? = some y → DS σ n x y) → DS σ (n + 1) (.tup xs) (.tup ys)
  | lst {n v u} {xs ys : List V} : lstOf σ v = some xs → lstOf σ u = some ys → xs.length = ys.length → (∀ (i : Nat) x y, xs[i]? = some x → ys[i]? = some y → DS σ n x y) → DS σ (n + 1) v u
theorem all_true (k : Nat) : ((List.range k).all fun _ => true) = true := List.all_eq_true.mpr fun _ _ => rfl
theorem eq_ref_or {A : Around} {s : Shared} {a b : Addr} (h : RcAt A s (.ref a) (.ref b) true) : EqAt A s (.ref a) (.ref b) true := by
  by_cases e : a = b
  · subst e; exact EqAt.same _
  · exact .of_refs e h
theorem ds_eq {n v u} (d : DS σ n v u) : ∀ {A0 A : Around} {env : Env} {ρ : Rho} {h : Heap} {tk z a b}, St G A0 env ρ m σ h → VR G.EC ρ h v a → VR G.EC ρ h u b → A.units + n < cLine → EqAt A (sh z h tk) a b true := by
  induction d with
  | int => intro A0 A env ρ h tk z a b S r1 r2 hu; cases r1; cases r2; rename_i i t u; have q := EqAt.int_int (A := A) (s := sh z h tk) i t i u; rw [beq_self_eq_true] at q; exact q
  | bool => intro A0 A env ρ h tk z a b S r1 r2 hu; cases r1; cases r2; rename_i i; have q := EqAt.bool_bool (A := A) (s := sh z h tk) i i; rw [beq_self_eq_true] at q; exact q
  | byt => intro A0 A env ρ h tk z a b S r1 r2 hu; cases r1; cases r2; exact fun prog w E Q q => eqBool_bytes (by simpa using q)
  | str => intro A0 A env ρ h tk z a b S r1 r2 hu; cases r1; cases r2; rename_i i t u; have q := EqAt.str_str (A := A) (s := sh z h tk) i t i u; rw [beq_self_eq_true] at q; exact q
  | @tup n xs ys hl _ ih =>
    intro A0 A env ρ h tk z a b S r1 r2 hu
    obtain ⟨x1, v1, n1, rfl, h1, rr1⟩ := tup_at r1
    obtain ⟨x2, v2, n2, rfl, h2, rr2⟩ := tup_at r2
    refine eq_ref_or ?_
    have := RcAt.tuples (A := A) (s := sh z h tk) (e := fun _ => true) (l := x1) (b := x2) (items := v1.toArray) (items2 := v2.toArray) ⟨_, h1, rfl, n1, rfl⟩ ⟨_, h2, rfl, n2, rfl⟩ (by omega) fun j j1 j2 => ?_
    · have e : v1.toArray.size = v2.toArray.size := by simp [← rr1.1, ← rr2.1, hl]
      rw [e, all_true, beq_self_eq_true] at this
      exact this
    · have j1' : j < v1.length := by simpa using j1
      have j2' : j < v2.length := by simpa using j2
      have i1 : j < xs.length := by rw [rr1.1]; exact j1'
      have i2 : j < ys.length := by rw [rr2.1]; exact j2'
      exact ih j xs[j] ys[j] (List.getElem?_eq_getElem i1) (List.getElem?_eq_getElem i2) S (rr1.2 j _ _ (List.getElem?_eq_getElem i1) (by simp [j1'])) (rr2.2 j _ _ (List.getElem?_eq_getElem i2) (by simp [j2'])) (by show A.units + 1 + n < cLine; omega)
  | @lst n v u xs ys e1 e2 hl _ ih =>
    intro A0 A env ρ h tk z a b S r1 r2 hu
    obtain ⟨x1, v1, n1, rfl, h1, rr1⟩ := lst_at S e1 r1
    obtain ⟨x2, v2, n2, rfl, h2, rr2⟩ := lst_at S e2 r2
    refine eq_ref_or ?_
    have := RcAt.lists (A := A) (s := sh z h tk) (e := fun _ => true) (isList_of h1) (isList_of h2) (by simp [← rr1.1, ← rr2.1, hl]) (by omega) fun j j1 j2 => ?_
    · rw [all_true] at this; exact this
    · have j1' : j < v1.length := by simpa using j1
      have j2' : j < v2.length := by simpa using j2
      have i1 : j < xs.length := by rw [rr1.1]; exact j1'
      have i2 : j < ys.length := by rw [rr2.1]; exact j2'
      exact ih j xs[j] ys[j] (List.getElem?_eq_getElem i1) (List.getElem?_eq_getElem i2) S (rr1.2 j _ _ (List.getElem?_eq_getElem i1) (by simp [j1'])) (rr2.2 j _ _ (List.getElem?_eq_getElem i2) (by simp [j2'])) (by show A.units + 1 + n < cLine; omega)

theorem cv_dsne {n v u} (d : DS σ n v u) (hn : n < 90) (hr : (∃ xs, v = .tup xs) ∨ ∃ xs, lstOf σ v = some xs) : CV G c σ .NotEq v u false := fun A env ρ m h tk z a b Q E ok S r1 r2 q => by
  have hu := ok.units
  cases d with
  | @tup n xs ys hl ih =>
    obtain ⟨x1, v1, n1, rfl, h1, rr1⟩ := tup_at r1
    obtain ⟨x2, v2, n2, rfl, h2, rr2⟩ := tup_at r2
    have := RcNeAt.tuples (A := A) (s := sh z h tk) (e := fun _ => true) (l := x1) (b := x2) (items := v1.toArray) (items2 := v2.toArray) ⟨_, h1, rfl, n1, rfl⟩ ⟨_, h2, rfl, n2, rfl⟩ (by omega) fun j j1 j2 => ?_
    · have e : v1.toArray.size = v2.toArray.size := by simp [← rr1.1, ← rr2.1, hl]
      rw [e, all_true, beq_self_eq_true] at this
      exact this PG G.w E Q q
    · have j1' : j < v1.length := by simpa using j1
      have j2' : j < v2.length := by simpa using j2
      have i1 : j < xs.length := by rw [rr1.1]; exact j1'
      have i2 : j < ys.length := by rw [rr2.1]; exact j2'
      exact ds_eq (ih j xs[j] ys[j] (List.getElem?_eq_getElem i1) (List.getElem?_eq_getElem i2)) S (rr1.2 j _ _ (List.getElem?_eq_getElem i1) (by simp [j1'])) (rr2.2 j _ _ (List.getElem?_eq_getElem i2) (by simp [j2'])) (by show A.units + 1 + n < cLine; omega)
  | @lst n v u xs ys e1 e2 hl ih =>
    obtain ⟨x1, v1, n1, rfl, h1, rr1⟩ := lst_at S e1 r1
    obtain ⟨x2, v2, n2, rfl, h2, rr2⟩ := lst_at S e2 r2
    have := RcNeAt.lists (A := A) (s := sh z h tk) (e := fun _ => true) (isList_of h1) (isList_of h2) (by simp [← rr1.1, ← rr2.1, hl]) (by omega) fun j j1 j2 => ?_
    · rw [all_true] at this; exact this PG G.w E Q q
    · have j1' : j < v1.length := by simpa using j1
      have j2' : j < v2.length := by simpa using j2
      have i1 : j < xs.length := by rw [rr1.1]; exact j1'
      have i2 : j < ys.length := by rw [rr2.1]; exact j2'
      exact ds_eq (ih j xs[j] ys[j] (List.getElem?_eq_getElem i1) (List.getElem?_eq_getElem i2)) S (rr1.2 j _ _ (List.getElem?_eq_getElem i1) (by simp [j1'])) (rr2.2 j _ _ (List.getElem?_eq_getElem i2) (by simp [j2'])) (by show A.units + 1 + n < cLine; omega)
  | _ => rcases hr with ⟨_, e⟩ | ⟨_, e⟩ <;> cases e

theorem cv_notin {x} {ys : List (Array UInt8)} : CV G c σ .NotIn (.byt x) (.tup (ys.map .byt)) (!ys.any fun y => y.toList == x.toList) := fun A env ρ m h tk z a b Q E ok S r1 r2 q => by
  obtain ⟨x2, v2, n2, rfl, h2, rr2⟩ := tup_at r2
  cases r1
  have key : ∀ (ys : List (Array UInt8)) (vs : List Value), VRs G.EC ρ h (ys.map .byt) vs → (∀ y ∈ vs, ∃ b t, y = .bytes b t) ∧ vs.any (fun y => match y with | .bytes b _ => b.toList == x.toList | _ => false) = ys.any fun y => y.toList == x.toList := by
    intro ys
    induction ys with
    | nil => intro vs r; rw [r.inv_nil]; exact ⟨fun _ q => (by cases q), rfl⟩
    | cons y ys ih =>
      intro vs r
      obtain ⟨w, ws, rfl, r1, r2⟩ := r.inv_cons
      cases r1
      obtain ⟨i1, i2⟩ := ih ws r2
      exact ⟨fun u hu => by
        rcases List.mem_cons.mp hu with rfl | hu
        · exact ⟨_, _, rfl⟩
        · exact i1 u hu, by rw [List.any_cons, List.any_cons, i2]⟩
  obtain ⟨k1, k2⟩ := key ys v2 rr2
  refine notIn_tupleAt (s := sh z h tk) (items := v2.toArray) (fun y => match y with | .bytes b _ => b.toList == x.toList | _ => false) ⟨_, h2, rfl, n2, rfl⟩ (fun y hy => ?_) ?_
  · obtain ⟨b, t, rfl⟩ := k1 y (by simpa using hy)
    exact fun prog w E Q q => eqBool_bytes (by
      have : (b.toList == x.toList) = decide (b.toList = x.toList) := by
        by_cases e : b.toList = x.toList
        · rw [decide_eq_true e]; exact beq_iff_eq.mpr e
        · rw [decide_eq_false e]; exact beq_eq_false_iff_ne.mpr e
      rw [← this]; exact q)
  · have : v2.toArray.any (fun y => match y with | .bytes b _ => b.toList == x.toList | _ => false) = ys.any fun y => y.toList == x.toList := by
      rw [← k2]; simp
    rw [this]; exact q
theorem b_and0 {pos} {K : Bool → AS → Prop} (h : K true σ) : AB G c (.BoolOp .And [] pos) m σ K X := fun A env ρ hh tk z Q E ok S hQ hX => isTrue_and_nil (hQ ρ hh tk _ _ σ h S (.refl (Nat.le_refl _)) rfl)
theorem b_or0 {pos} {K : Bool → AS → Prop} (h : K false σ) : AB G c (.BoolOp .Or [] pos) m σ K X := fun A env ρ hh tk z Q E ok S hQ hX => isTrue_or_nil (hQ ρ hh tk _ _ σ h S (.refl (Nat.le_refl _)) rfl)
theorem b_and {x rest pos} {K : Bool → AS → Prop} (h : AB G c x m σ (fun b σ1 => match b with | true => AB G c (.BoolOp .And rest pos) m σ1 K X | false => K false σ1) X) : AB G c (.BoolOp .And (x :: rest) pos) m σ K X := by
  intro A env ρ hh tk z Q E ok S hQ hX
  refine isTrue_and (h A env ρ hh tk z _ _ ok S (fun ρ1 h1 tk1 b a σ1 k1 S1 x1 r1 => ?_) hX)
  subst r1
  cases b with
  | true =>
    rw [if_pos rfl]
    refine PySem.wpAny_mono (k1 A env ρ1 h1 tk1 z _ _ ok S1 (fun ρ2 h2 tk2 fl a σ2 k2 S2 x2 r2 => hQ ρ2 h2 tk2 fl a σ2 k2 S2 (x1.trans (x2.mono x1.len)) r2)
      fun ρ2 h2 tk2 v e σ2 k2 S2 x2 f2 => hX ρ2 h2 tk2 v e σ2 k2 S2 (x1.trans (x2.mono x1.len)) (f2.mono x1.old)) (fun _ _ q => q) fun _ _ q => q
  | false => rw [if_neg (by decide)]; exact hQ ρ1 h1 tk1 false _ σ1 k1 S1 x1 rfl
end
end Mine
end
section
open PySem PySem.W PyProof.Rows PySem.Calls PySem.Spec PySem.SeqAt
set_option maxRecDepth 10000
namespace Mine
section
variable {G : Gd} {c : Cx} {m : Loc} {σ : AS} {K : V → AS → Prop} {X : V → AS → Prop}

@[reducible] noncomputable def slObj (l u : Value) : Obj := { cls := .type "slice", data := .fields #[l, u, .none] }
theorem slice_run {A env ρ h z tk v xs a l u lo hi value slice ys} (ok : Ok G c A env) (S : St G A env ρ m σ h) (e : lstOf σ v = some xs) (r : VR G.EC ρ h v a) (pl : IsPart l lo) (pu : IsPart u hi) (hz : xs.length ≤ 100000)
    (hy : ∀ vals : List Value, vals.length = xs.length → ∃ ws, slicePick vals.toArray lo hi none = List.toArray ws ∧ ∀ ρ h, VRs G.EC ρ h xs vals → VRs G.EC ρ h ys ws)
    (hs : ∀ a b, subscripted slice false (.ref a) (.ref b) = operate [.ref b, .ref a] (getItem (.ref a) (.ref b)))
    {Q : Value → Shared → Prop} {E : Value → Shared → Prop}
    (k : ∀ h1 ws, St G A env ρ m σ h1 → Ext ρ.l.length ρ h ρ h1 → VRs G.EC ρ h1 ys ws → Q (.ref h1.objs.size) (sh z (h1.push { cls := .type "list", data := .seq (List.toArray ws) }) tk)) :
    wpAny (model PG G.w) A (subscriptTail value slice a (.ref h.objs.size)) Q E (sh z (h.push (slObj l u)) tk) := by
  obtain ⟨S1, x1⟩ := S.grow (h' := h.push (slObj l u)) fun b o e => Heap.get?_push_of_some _ e
  obtain ⟨x, vals, n, rfl, hx, rr⟩ := lst_at S1 e (r.ext x1)
  obtain ⟨ws, e1, e2⟩ := hy vals rr.1.symm
  refine tail_any (list_type hx) slot_list_getitem.lookup (wpAny_getItem_list_slice (isList_of hx) (Heap.IsSliceOf.new ..) pl pu .none (by simp) ?_ (by rw [List.size_toArray, ← rr.1, sizeLine_eq]; omega)) (hs _ _)
  rw [e1]
  exact k _ ws S1 x1 (e2 _ _ rr)
theorem part_int (i : Int) (t : Tok) : IsPart (.int i t) (some i) := .int i t
theorem e_upto {value hi p pos} (h : AE G c value m σ (fun v σ1 => AE G c hi m σ1 (fun i σ2 => ∃ k xs, i = .int k ∧ lstOf σ2 v = some xs ∧ 0 ≤ k ∧ xs.length ≤ 100000 ∧ K (.lst (xs.take k.toNat)) σ2) X) X) : AE G c (.Subscript value (.Slice none (some hi) none p) pos) m σ K X := by
  intro A env ρ hh tk z Q E ok S hQ hX
  refine Subscript_ (h A env ρ hh tk z _ _ ok S (fun ρ1 h1 tk1 v a σ1 k1 S1 x1 r1 => ?_) hX)
  refine wpAny_Slice (wpAny_pure ?_)
  refine k1 A env ρ1 h1 tk1 z _ _ ok S1 (fun ρ2 h2 tk2 i b σ2 k2 S2 x2 r2 => wpAny_pure ?_) fun ρ2 h2 tk2 v e σ2 k2 S2 x2 f2 => hX ρ2 h2 tk2 v e σ2 k2 S2 (x1.trans (x2.mono x1.len)) (f2.mono x1.old)
  obtain ⟨k, xs, rfl, e1, h0, hz, kk⟩ := k2
  cases r2
  refine slice_run (ys := xs.take k.toNat) ok S2 e1 (r1.ext x2) .none (part_int k _) hz (fun vals hv => ⟨vals.take k.toNat, by rw [pick_upto _ _ h0], fun ρ h r => r.take _⟩) (fun a b => by with_unfolding_all rfl) fun h3 ws S3 x3 r3 => ?_
  obtain ⟨S4, x4, r4⟩ := S3.mkLst r3
  have x13 := (x1.trans (x2.mono x1.len)).trans (x3.mono (x1.trans (x2.mono x1.len)).len)
  exact hQ _ _ _ _ _ _ kk S4 (x13.trans (x4.mono x13.len)) r4
theorem e_from {value lo p pos} (h : AE G c value m σ (fun v σ1 => AE G c lo m σ1 (fun i σ2 => ∃ k xs, i = .int k ∧ lstOf σ2 v = some xs ∧ 0 ≤ k ∧ xs.length ≤ 100000 ∧ K (.lst (xs.drop k.toNat)) σ2) X) X) : AE G c (.Subscript value (.Slice (some lo) none none p) pos) m σ K X := by
  intro A env ρ hh tk z Q E ok S hQ hX
  refine Subscript_ (h A env ρ hh tk z _ _ ok S (fun ρ1 h1 tk1 v a σ1 k1 S1 x1 r1 => ?_) hX)
  refine wpAny_Slice ?_
  refine k1 A env ρ1 h1 tk1 z _ _ ok S1 (fun ρ2 h2 tk2 i b σ2 k2 S2 x2 r2 => wpAny_pure (wpAny_pure ?_)) fun ρ2 h2 tk2 v e σ2 k2 S2 x2 f2 => hX ρ2 h2 tk2 v e σ2 k2 S2 (x1.trans (x2.mono x1.len)) (f2.mono x1.old)
  obtain ⟨k, xs, rfl, e1, h0, hz, kk⟩ := k2
  cases r2
  refine slice_run (ys := xs.drop k.toNat) ok S2 e1 (r1.ext x2) (part_int k _) .none hz (fun vals hv => ⟨vals.drop k.toNat, by rw [pick_from _ _ h0], fun ρ h r => r.drop _⟩) (fun a b => by with_unfolding_all rfl) fun h3 ws S3 x3 r3 => ?_
  obtain ⟨S4, x4, r4⟩ := S3.mkLst r3
  have x13 := (x1.trans (x2.mono x1.len)).trans (x3.mono (x1.trans (x2.mono x1.len)).len)
  exact hQ _ _ _ _ _ _ kk S4 (x13.trans (x4.mono x13.len)) r4
theorem bslice_run {A env ρ h z tk x a l u lo hi value slice} (ok : Ok G c A env) (S : St G A env ρ m σ h) (r : VR G.EC ρ h (.byt x) a) (pl : IsPart l lo) (pu : IsPart u hi) (hz : x.size ≤ 100000)
    (hs : ∀ t b, subscripted slice false (.bytes x t) (.ref b) = operate [.ref b, .bytes x t] (getItem (.bytes x t) (.ref b)))
    {Q : Value → Shared → Prop} {E : Value → Shared → Prop}
    (k : ∀ h1 t' tk', St G A env ρ m σ h1 → Ext ρ.l.length ρ h ρ h1 → Q (.bytes (KBy.picked x lo hi) t') (sh z h1 tk')) :
    wpAny (model PG G.w) A (subscriptTail value slice a (.ref h.objs.size)) Q E (sh z (h.push (slObj l u)) tk) := by
  obtain ⟨S1, x1⟩ := S.grow (h' := h.push (slObj l u)) fun b o e => Heap.get?_push_of_some _ e
  cases r
  refine tail_any (typeIs_bytes _ _ _) FB.slot_bytes_getitem.lookup (PySem.getItem_meets (typeIs_bytes _ _ _) (by decide) FB.slot_bytes_getitem FB.entry_bytes_getitem (FB.args_bytes_getitem_2 _ _) (KBc.meets_slice2 _ _ _ pl pu) ⟨Heap.IsSliceOf.new _ _ _ _, ?_, fun t' k' => ?_⟩) (hs _ _)
  · rw [sizeLine_eq]; exact Nat.le_trans (KBc.size_picked_le _ _ _) (Nat.le_trans hz (by decide))
  · exact k _ _ _ S1 x1

theorem call_b {x px args pos id} {R2 : List V → AS → Prop} (hx : nsIn G.K mainGlobals x = some none) (hv : bootBuiltins x = some (.builtin id)) (hk : c.scope.names.lookup x = some .globalImplicit) (hn : x ≠ "__name__") (hd : (x == ("__debug__" : Str)) = false)
    (h : AS' G c args pos m σ (fun us σ2 => R2 us σ2) X) (ha : ∀ env, (backTo pos (starEach args env)).any (·.1) = false)
    {A env ρ hh tk z Q E} (ok : Ok G c A env) (S : St G A env ρ m σ hh)
    (hQ : ∀ ρ' h' tk' us bs σ', R2 us σ' → St G A env ρ' m σ' h' → Ext ρ.l.length ρ hh ρ' h' → VRs G.EC ρ' h' us bs → wpAny (model PG G.w) A (call (.builtin id) bs) Q E (sh z h' tk'))
    (hX : ∀ ρ' h' tk' v e σ', X v σ' → St G A env ρ' m σ' h' → Ext ρ.l.length ρ hh ρ' h' → Fly G (fl0 env.locals) ρ' hh h' e v → E (.ref e) (sh z h' tk')) :
    wpAny (model PG G.w) A (eval (.Call (.Name x px) args [] pos) env) Q E (sh z hh tk) := by
  refine Call_ ?_
  refine e_blt (K := fun v σ1 => v = .cst (.builtin id) ∧ σ1 = σ) hx hv hk ⟨rfl, rfl⟩ hn hd A env ρ hh tk z _ _ ok S (fun ρ1 h1 tk1 v a σ1 k1 S1 x1 r1 => ?_) hX
  obtain ⟨rfl, rfl⟩ := k1
  cases r1
  refine callWith_m1 (h A env ρ1 h1 tk1 z _ _ ok S1 (fun ρ2 h2 tk2 us bs σ2 k2 S2 x2 r2 => ?_) fun ρ2 h2 tk2 v e σ2 q S2 x2 f2 => hX ρ2 h2 tk2 v e σ2 q S2 (x1.trans (x2.mono x1.len)) (f2.mono x1.old)) (ha env)
  rw [List.nil_append]
  exact hQ ρ2 h2 tk2 us bs σ2 k2 S2 (x1.trans (x2.mono x1.len)) r2

theorem e_len {px e pos} (hx : nsIn G.K mainGlobals "len" = some none) (hk : c.scope.names.lookup ("len" : Str) = some .globalImplicit)
    (h : AE G c e m σ (fun v σ1 => ∃ n : Nat, n ≤ 1000000 ∧ ((∃ xs, lstOf σ1 v = some xs ∧ xs.length = n) ∨ ∃ b, v = .byt b ∧ b.size = n) ∧ K (.int n) σ1) X) (hv : bootBuiltins "len" = some (.builtin "len"))
    (ha : ∀ env, (backTo pos (starEach [e] env)).any (·.1) = false := by intro _; rfl) (he : ∀ env, starEach (e :: []) env = (false, eval e env) :: starEach [] env := by intro _; rfl) : AE G c (.Call (.Name "len" px) [e] [] pos) m σ K X := by
  intro A env ρ hh tk z Q E ok S hQ hX
  refine call_b (R2 := fun us σ1 => ∃ v, us = [v] ∧ ∃ n : Nat, n ≤ 1000000 ∧ ((∃ xs, lstOf σ1 v = some xs ∧ xs.length = n) ∨ ∃ b, v = .byt b ∧ b.size = n) ∧ K (.int n) σ1) hx hv hk (by decide) (by decide) (as_cons (TR.mono h (fun v σ1 q => as_nil ⟨v, rfl, q⟩) fun _ _ q => q) he) ha ok S (fun ρ' h' tk' us bs σ' k S' x r => ?_) hX
  obtain ⟨v, rfl, n, hn, q, k⟩ := k
  obtain ⟨b, bs', rfl, rb, rr⟩ := r.inv_cons
  rw [rr.inv_nil]
  rcases q with ⟨xs, e1, rfl⟩ | ⟨b', rfl, rfl⟩
  · obtain ⟨ad, vals, n', rfl, hx', rx⟩ := lst_at S' e1 rb
    have : vals.toArray.size = xs.length := by simp [rx.1]
    refine call_len_list (isList_of hx') (by rw [this]; omega) ?_
    rw [this]
    exact hQ ρ' h' _ _ _ _ k S' x .int
  · cases rb
    exact len_bytes (by omega) (hQ ρ' h' _ _ _ _ k S' x .int)
noncomputable def ownOk (K : Frag) (D : Addr) : Bool := plainGet K D "__class__" && hasDictIn K D && (findIn K (.ref D) "__class__" == some (some (.builtin "object.__class__"))) &&
  (specialIn K (.builtin "object.__class__") "__get__" == some (some (.builtin "getset_descriptor.__get__"))) && (takesIn K (.builtin "object.__class__") == some true) && (mroIn K D (.type "object") == some true)
noncomputable def tyV (K : Frag) (σ : AS) (v : V) : Option Value := match v with
  | .int _ => some (.type "int") | .bool _ => some (.type "bool") | .str _ => some (.type "str") | .byt _ => some (.type "bytes") | .none => some (.type "NoneType") | .tup _ => some (.type "tuple")
  | v => match instOf σ v with
    | some (C, _) => if ownOk K C = true then some (.ref C) else Option.none
    | _ => Option.none
theorem isi_run {A env ρ h z tk v a t cv b} (ok : Ok G c A env) (S : St G A env ρ m σ h) (e : tyV G.K σ v = some t) (r : VR G.EC ρ h v a) (ek : kitOne G.K t cv = some b) {Q : Value → Shared → Prop} {E : Value → Shared → Prop}
    (k : ∀ tk', Q (.bool b) (sh z h tk')) : wpAny (model PG G.w) A (call (.builtin "isinstance") [a, cv]) Q E (sh z h tk) := by
  have X' := S.inK ok.gd.X
  have own : ∀ v, (match instOf σ v with | some (C, _) => if ownOk G.K C = true then some (.ref C) else Option.none | _ => Option.none) = some t → VR G.EC ρ h v a → wpAny (model PG G.w) A (call (.builtin "isinstance") [a, cv]) Q E (sh z h tk) := by
    intro v e r
    split at e
    · rename_i C es hi
      split at e
      · rename_i ho
        cases e
        obtain ⟨x, dx, des, n, rfl, hx, hd, _⟩ := inst_at S hi r
        simp only [ownOk, Bool.and_eq_true, beq_iff_eq] at ho
        obtain ⟨⟨⟨⟨⟨o1, o2⟩, o3⟩, o4⟩, o5⟩, o6⟩ := ho
        have I : InstAt h x (instObj C dx) C (some (dictOf des n)) := ⟨hx, rfl, rfl, hd⟩
        exact kia_one (s := sh z h tk) (kitx_own o1 o2 o3 o4 o5 o6) X' I ek (by intro q; cases q) k
      · cases e
    · cases e
  cases v with
  | int i => cases e; cases r; exact kia_one kitx_int X' trivial ek (by intro q; cases q) k
  | bool i => cases e; cases r; exact kia_one kitx_bool X' trivial ek (by intro q; cases q) k
  | str i => cases e; cases r; exact kia_one kitx_str X' trivial ek (by intro q; cases q) k
  | byt i => cases e; cases r; exact kia_one kitx_bytes X' trivial ek (by intro q; cases q) k
  | none => cases e; cases r; exact kia_one kitx_none X' trivial ek (by intro q; cases q) k
  | tup xs =>
    cases e
    obtain ⟨x, vals, n, rfl, hx, _⟩ := tup_at r
    exact kia_one (s := sh z h tk) kitx_tuple X' ⟨_, hx, rfl⟩ ek (by intro q; cases q) k
  | ins C es => exact own (.ins C es) e r
  | w i => exact own (.w i) e r
  | l i => exact own (.l i) e r
  | _ => cases e
theorem e_isi {px e C pos} (hx : nsIn G.K mainGlobals "isinstance" = some none) (hk : c.scope.names.lookup ("isinstance" : Str) = some .globalImplicit)
    (h : AE G c e m σ (fun v σ1 => AE G c C m σ1 (fun u σ2 => ∃ t cv b, u = .cst cv ∧ tyV G.K σ2 v = some t ∧ kitOne G.K t cv = some b ∧ K (.bool b) σ2) X) X) (hv : bootBuiltins "isinstance" = some (.builtin "isinstance"))
    (ha : ∀ env, (backTo pos (starEach [e, C] env)).any (·.1) = false := by intro _; rfl) (he : ∀ env, starEach (e :: [C]) env = (false, eval e env) :: starEach [C] env := by intro _; rfl) (he' : ∀ env, starEach (C :: []) env = (false, eval C env) :: starEach [] env := by intro _; rfl) :
    AE G c (.Call (.Name "isinstance" px) [e, C] [] pos) m σ K X := by
  intro A env ρ hh tk z Q E ok S hQ hX
  refine call_b (R2 := fun us σ2 => ∃ v u, us = [v, u] ∧ ∃ t cv b, u = .cst cv ∧ tyV G.K σ2 v = some t ∧ kitOne G.K t cv = some b ∧ K (.bool b) σ2) hx hv hk (by decide) (by decide)
    (as_cons (TR.mono h (fun v σ1 q => as_cons (TR.mono q (fun u σ2 q => as_nil ⟨v, u, rfl, q⟩) fun _ _ q => q) he') fun _ _ q => q) he) ha ok S (fun ρ' h' tk' us bs σ' k S' x r => ?_) hX
  obtain ⟨v, u, rfl, t, cv, b, rfl, e1, e2, k⟩ := k
  obtain ⟨a1, bs', rfl, r1, rr⟩ := r.inv_cons
  obtain ⟨a2, bs'', rfl, r2, rr⟩ := rr.inv_cons
  rw [rr.inv_nil]
  cases r2
  exact isi_run ok S' e1 r1 e2 fun tk'' => hQ ρ' h' _ _ _ _ k S' x .bool
end
end Mine
end
section
open PySem PySem.W PyProof.Rows PySem.Calls PySem.Spec PySem.SeqAt
set_option maxRecDepth 10000
namespace Mine

structure Tra0 (ρ : Rho) (h : Heap) (ρ' : Rho) (h' : Heap) : Prop where
  w : ∀ (i : Nat) (a : Addr), ρ.w[i]? = some a → ρ'.w[i]? = some a
  own : ∀ b, ρ'.own b → ρ.own b ∨ h.get? b = none
  keep : ∀ b o, h.get? b = some o → ¬ρ.own b → ¬Vol o → h'.get? b = some o
  vol : ∀ b o, h.get? b = some o → ¬ρ.own b → Vol o → ∃ o', h'.get? b = some o' ∧ o'.cls = o.cls ∧ o'.dict = o.dict ∧ Vol o'
theorem Tra0.ofExt {n ρ h ρ' h'} (x : Ext n ρ h ρ' h') : Tra0 ρ h ρ' h' := ⟨x.w, x.own, fun b o e q nv => x.keep b o e (.inl q) (.inl nv), x.vol⟩
theorem Tra0.nown {ρ h ρ' h' b o} (x : Tra0 ρ h ρ' h') (e : h.get? b = some o) (q : ¬ρ.own b) : ¬ρ'.own b := fun z => by
  rcases x.own b z with z | z
  · exact q z
  · rw [e] at z; cases z
noncomputable def LF (v : V) : Prop := ∀ EC ρ h ρ' h' a, VR EC ρ h v a → Tra0 ρ h ρ' h' → VR EC ρ' h' v a
theorem LF.any : LF .any := fun _ _ _ _ _ _ _ _ => .any
theorem LF.none : LF .none := fun _ _ _ _ _ _ r _ => by cases r; exact .none
theorem LF.bool {b} : LF (.bool b) := fun _ _ _ _ _ _ r _ => by cases r; exact .bool
theorem LF.int {b} : LF (.int b) := fun _ _ _ _ _ _ r _ => by cases r; exact .int
theorem LF.byt {b} : LF (.byt b) := fun _ _ _ _ _ _ r _ => by cases r; exact .byt
theorem LF.str {b} : LF (.str b) := fun _ _ _ _ _ _ r _ => by cases r; exact .str
theorem LF.cst {b} : LF (.cst b) := fun _ _ _ _ _ _ r _ => by cases r; exact .cst
theorem LF.w {b} : LF (.w b) := fun _ _ _ _ _ _ r x => by cases r with | w e => exact .w (x.w _ _ e)
theorem LF.tup {xs : List V} (h : ∀ x ∈ xs, LF x) : LF (.tup xs) := fun _ _ _ _ _ _ r x => by
  cases r with
  | tup e q hl ih => exact .tup (x.keep _ _ e q (nv_seq rfl)) (x.nown e q) hl fun i y v e1 e2 => h y (List.mem_of_getElem? e1) _ _ _ _ _ _ (ih i y v e1 e2) x
theorem LF.lst {xs : List V} (h : ∀ x ∈ xs, LF x) : LF (.lst xs) := fun _ _ _ _ _ _ r x => by
  cases r with
  | lst e q hl ih => exact .lst (x.keep _ _ e q (nv_seq rfl)) (x.nown e q) hl fun i y v e1 e2 => h y (List.mem_of_getElem? e1) _ _ _ _ _ _ (ih i y v e1 e2) x
theorem LF.ins {C es} (h : ∀ y v, es.lookup y = some v → LF v) : LF (.ins C es) := fun _ _ _ _ _ _ r x => by
  cases r with
  | ins e1 e2 q1 q2 g g' ih => exact .ins (x.keep _ _ e1 q1 (nv_plain rfl)) (x.keep _ _ e2 q2 (nv_dict rfl)) (x.nown e1 q1) (x.nown e2 q2) g g' fun y v e => h y v e _ _ _ _ _ _ (ih y v e) x
theorem LF.clo {fd es} (h : ∀ y v, es.lookup y = some v → LF v) : LF (.clo fd es) := fun _ _ _ _ _ _ r x => by
  cases r with
  | clo e1 c1 d1 q1 e2 d2 s2 q2 g ih =>
    refine .clo (x.keep _ _ e1 q1 (nv_func d1)) c1 d1 (x.nown e1 q1) (x.keep _ _ e2 q2 (nv_rec d2 s2)) d2 s2 (x.nown e2 q2) (fun y v m => ?_) fun y v e => h y v e _ _ _ _ _ _ (ih y v e) x
    obtain ⟨ca, o, k1, k2, k3, k4⟩ := g y v m
    exact ⟨ca, o, k1, x.keep _ _ k2 k4 (nv_cell k3), k3, x.nown k2 k4⟩

@[reducible] noncomputable def Rho.cA (ρ : Rho) (is : List Addr) : Rho := { ρ with cc := is ++ ρ.cc }
@[reducible] noncomputable def Rho.cO (ρ : Rho) (is : List Addr) : Rho := { ρ with co := is ++ ρ.co }
section
variable {G : Gd} {A : Around} {env : Env} {ρ ρ' : Rho} {m : Loc} {σ : AS} {h h' h0 : Heap} {is : List Addr} {n : Nat}
theorem cA_own (b) : (ρ.cA is).own b ↔ b ∈ is ∨ ρ.own b := by
  unfold Rho.own Rho.cA
  simp only [List.mem_append]
  constructor
  · rintro (q | (q | q) | q | q | q) <;> simp [q]
  · rintro (q | q | q | q | q | q) <;> simp [q]
theorem cO_own (b) : (ρ.cO is).own b ↔ b ∈ is ∨ ρ.own b := by
  unfold Rho.own Rho.cO
  simp only [List.mem_append]
  constructor
  · rintro (q | q | (q | q) | q | q) <;> simp [q]
  · rintro (q | q | q | q | q | q) <;> simp [q]
theorem cAO (b) : (ρ.cA is).own b ↔ (ρ.cO is).own b := (cA_own b).trans (cO_own b).symm

theorem St.mapRho {ρ2 : Rho} (S : St G A env ρ m σ h) (ow : ∀ b, ρ2.own b ↔ ρ.own b ∨ (b ∈ is ∧ G.H.get? b = none ∧ ∃ o, h.get? b = some o)) (nis : ∀ b ∈ is, b ∈ is → ρ.own b ∨ ∀ v a, VR G.EC ρ h v a → True) (hfr : ρ2.fr = ρ.fr) (hw : ρ2.w = ρ.w) (hl : ρ2.l = ρ.l)
    (tr : ∀ v a, VR G.EC ρ h v a → VR G.EC ρ2 h v a) (nd : (ρ2.fr ++ (ρ2.cc ++ (ρ2.co ++ (ρ2.w ++ ρ2.l.filterMap id)))).Nodup) (hc : ∀ ca x v, (∃ a, h.IsCell ca (some a) ∧ VR G.EC ρ h v a ∧ env.cells.lookup x = some ca) → (ca ∈ ρ.cc ∨ ¬ρ.own ca) → (ca ∈ ρ2.cc ∨ ¬ρ2.own ca)) (hu : ∀ ca, h.IsCell ca none → ca ∈ ρ.cc → ca ∈ ρ2.cc) (his : is = [] := by rfl) : St G A env ρ2 m σ h := by
  refine ⟨S.base, S.low, S.fl, ?_, fun a q => ?_, nd, ?_, fun y v e q => ?_, fun y q e => let ⟨ca, q1, q2, q3⟩ := S.cun y q e; ⟨ca, q1, q2, hu ca q2 q3⟩, by rw [hw]; exact S.wl, by rw [hl]; exact S.ll, fun i c a e1 e2 => ?_, fun i c a e1 e2 => ?_⟩
  · obtain ⟨outer, q, F⟩ := S.frs
    exact ⟨outer, q, by rw [hfr]; exact F.eq, F.kd, by rw [hfr]; exact F.ok⟩
  · rcases (ow a).mp q with q | ⟨_, q⟩
    · exact S.hown a q
    · exact q
  · obtain ⟨mm, hn, hm⟩ := S.loc
    exact ⟨mm, hn, fun y v e q => let ⟨a, q1, q2⟩ := hm y v e q; ⟨a, q1, tr _ _ q2⟩⟩
  · obtain ⟨ca, a, q1, q2, q3, q4⟩ := S.cel y v e q
    exact ⟨ca, a, q1, q2, tr _ _ q3, hc ca y v ⟨a, q2, q3, q1⟩ q4⟩
  · rw [hw] at e2
    have := S.cw i c a e1 e2
    cases c with
    | list xs => obtain ⟨vs, n, q, r⟩ := this; exact ⟨vs, n, q, r.1, fun i y v e1 e2 => tr _ _ (r.2 i y v e1 e2)⟩
    | dict es => obtain ⟨vs, n, q, r⟩ := this; exact ⟨vs, n, q, r.1, fun i y v e1 e2 => let ⟨a, b, c⟩ := r.2 i y v e1 e2; ⟨a, b, tr _ _ c⟩⟩
    | map es => obtain ⟨vs, q, r⟩ := this; exact ⟨vs, q, r.1, fun i y v e1 e2 => let ⟨a, c⟩ := r.2 i y v e1 e2; ⟨a, tr _ _ c⟩⟩
    | tab P p q m =>
      cases m with
      | false => exact this
      | true => obtain ⟨eP, c, co, vs, t, e0, e1, e2, e3, e4⟩ := this; exact ⟨eP, c, co, vs, t, e0, e1, e2, e3, fun z => ((ow c).mp z).elim e4 fun q => by rw [his] at q; cases q.1⟩
    | ns es => obtain ⟨mm, q, r⟩ := this; exact ⟨mm, q, fun y v z => let ⟨b, z1, z2⟩ := r y v z; ⟨b, z1, tr _ _ z2⟩⟩
    | inst C d => obtain ⟨da, r, q⟩ := this; exact ⟨da, tr _ _ r, q⟩
    | exc vs d =>
      cases d with
      | none => exact this
      | some d => obtain ⟨da, r, q⟩ := this; exact ⟨da, tr _ _ r, q⟩
  · rw [hl] at e2
    have := S.cl i c a e1 e2
    cases c with
    | list xs => obtain ⟨vs, n, q, r⟩ := this; exact ⟨vs, n, q, r.1, fun i y v e1 e2 => tr _ _ (r.2 i y v e1 e2)⟩
    | dict es => obtain ⟨vs, n, q, r⟩ := this; exact ⟨vs, n, q, r.1, fun i y v e1 e2 => let ⟨a, b, c⟩ := r.2 i y v e1 e2; ⟨a, b, tr _ _ c⟩⟩
    | map es => obtain ⟨vs, q, r⟩ := this; exact ⟨vs, q, r.1, fun i y v e1 e2 => let ⟨a, c⟩ := r.2 i y v e1 e2; ⟨a, tr _ _ c⟩⟩
    | tab P p q m =>
      cases m with
      | false => exact this
      | true => obtain ⟨eP, c, co, vs, t, e0, e1, e2, e3, e4⟩ := this; exact ⟨eP, c, co, vs, t, e0, e1, e2, e3, fun z => ((ow c).mp z).elim e4 fun q => by rw [his] at q; cases q.1⟩
    | ns es => obtain ⟨mm, q, r⟩ := this; exact ⟨mm, q, fun y v z => let ⟨b, z1, z2⟩ := r y v z; ⟨b, z1, tr _ _ z2⟩⟩
    | inst C d => obtain ⟨da, r, q⟩ := this; exact ⟨da, tr _ _ r, q⟩
    | exc vs d =>
      cases d with
      | none => exact this
      | some d => obtain ⟨da, r, q⟩ := this; exact ⟨da, tr _ _ r, q⟩

theorem St.takeA (S : St G A env ρ m σ h0) (k : ∀ b o, h0.get? b = some o → h.get? b = some o) (hf : ∀ b ∈ is, h0.get? b = none ∧ ∃ o, h.get? b = some o) (nd : is.Nodup) : St G A env (ρ.cA is) m σ h := by
  obtain ⟨S1, x1⟩ := S.grow k
  have nown : ∀ b ∈ is, ¬ρ.own b := fun b q z => by
    obtain ⟨_, o, e⟩ := S.hown b z
    rw [(hf b q).1] at e; cases e
  have tr : Tra ρ h0 (ρ.cA is) h := ⟨fun _ _ e => e, fun _ _ e => e, fun b q => by
    rcases (cA_own b).mp q with q | q
    · exact .inr (hf b q).1
    · exact .inl q, fun b o e _ _ => k b o e, fun b o e _ v => ⟨o, k b o e, rfl, rfl, v⟩⟩
  refine ⟨S1.base, S.low, S.fl, let ⟨o, q, F⟩ := S1.frs; ⟨o, q, F.eq, F.kd, F.ok⟩, fun a q => ?_, ?_, ?_, fun y v e q => ?_, fun y q e => let ⟨ca, q1, q2, q3⟩ := S.cun y q e; ⟨ca, q1, q2.keeps k, List.mem_append_right _ q3⟩, S.wl, S.ll, fun i c a e1 e2 => (S.cw i c a e1 e2).tra tr fun o => k a o, fun i c a e1 e2 => (S.cl i c a e1 e2).tra tr fun o => k a o⟩
  · rcases (cA_own a).mp q with q | q
    · exact ⟨get_none fun o e => (by have := S.base a o e; rw [(hf a q).1] at this; cases this), (hf a q).2⟩
    · exact S1.hown a q
  · have d := S.nodup
    have mem : ∀ b, b ∈ ρ.fr ++ (ρ.cc ++ (ρ.co ++ (ρ.w ++ ρ.l.filterMap id))) → ρ.own b := fun b q => by
      simp only [List.mem_append, List.mem_filterMap, id, exists_eq_right] at q
      exact q
    show (ρ.fr ++ ((is ++ ρ.cc) ++ (ρ.co ++ (ρ.w ++ ρ.l.filterMap id)))).Nodup
    have p : (ρ.fr ++ ((is ++ ρ.cc) ++ (ρ.co ++ (ρ.w ++ ρ.l.filterMap id)))).Perm (is ++ (ρ.fr ++ (ρ.cc ++ (ρ.co ++ (ρ.w ++ ρ.l.filterMap id))))) := by
      rw [List.append_assoc is, ← List.append_assoc ρ.fr, ← List.append_assoc is]
      exact (List.perm_append_comm).append_right _
    rw [p.nodup_iff, List.nodup_append]
    exact ⟨nd, d, fun a ha b hb e => nown a ha (e ▸ mem b hb)⟩
  · obtain ⟨mm, hn, hm⟩ := S.loc
    exact ⟨mm, hn.keeps k, fun y v e q => let ⟨a, q1, q2⟩ := hm y v e q; ⟨a, q1, q2.tra tr⟩⟩
  · obtain ⟨ca, a, q1, ⟨o, q2, q2'⟩, q3, q4⟩ := S.cel y v e q
    refine ⟨ca, a, q1, ⟨o, k _ _ q2, q2'⟩, q3.tra tr, ?_⟩
    rcases q4 with q4 | q4
    · exact .inl (List.mem_append_right _ q4)
    · exact .inr (tr.nown q2 q4)
theorem St.AtoO (S : St G A env (ρ.cA is) m σ h) (hc : ∀ b ∈ is, ∀ c, ¬h.IsCell b c) : St G A env (ρ.cO is) m σ h := by
  have tr : Tra (ρ.cA is) h (ρ.cO is) h := ⟨fun _ _ e => e, fun _ _ e => e, fun b q => .inl ((cAO b).mpr q), fun b o e _ _ => e, fun b o e _ v => ⟨o, e, rfl, rfl, v⟩⟩
  refine S.mapRho (is := []) (fun b => ⟨fun q => .inl ((cAO b).mpr q), fun q => q.elim (cAO b).mp fun q => by cases q.1⟩) (fun b q => by cases q) rfl rfl rfl (fun v a r => r.tra tr) ?_ (fun ca x v ⟨a, q1, _⟩ q => ?_) (fun ca q1 q => (List.mem_append.mp q).elim (fun q => (hc ca q _ q1).elim) id)
  · have d := S.nodup
    refine (List.Perm.nodup_iff ?_).mpr d
    show (ρ.fr ++ (ρ.cc ++ ((is ++ ρ.co) ++ (ρ.w ++ ρ.l.filterMap id)))).Perm (ρ.fr ++ ((is ++ ρ.cc) ++ (ρ.co ++ (ρ.w ++ ρ.l.filterMap id))))
    refine List.Perm.append_left _ ?_
    rw [List.append_assoc is, List.append_assoc is, ← List.append_assoc ρ.cc, ← List.append_assoc is]
    exact (List.perm_append_comm).append_right _
  · rcases q with q | q
    · rcases List.mem_append.mp q with q | q
      · exact (hc ca q _ q1).elim
      · exact .inl q
    · exact .inr fun z => q ((cAO ca).mpr z)
theorem St.OtoA (S : St G A env (ρ.cO is) m σ h) : St G A env (ρ.cA is) m σ h := by
  have tr : Tra (ρ.cO is) h (ρ.cA is) h := ⟨fun _ _ e => e, fun _ _ e => e, fun b q => .inl ((cAO b).mp q), fun b o e _ _ => e, fun b o e _ v => ⟨o, e, rfl, rfl, v⟩⟩
  refine S.mapRho (is := []) (fun b => ⟨fun q => .inl ((cAO b).mp q), fun q => q.elim (cAO b).mpr fun q => by cases q.1⟩) (fun b q => by cases q) rfl rfl rfl (fun v a r => r.tra tr) ?_ (fun ca x v ⟨a, q1, _⟩ q => ?_) (fun ca q1 q => List.mem_append_right _ q)
  · have d := S.nodup
    refine (List.Perm.nodup_iff ?_).mp d
    show (ρ.fr ++ (ρ.cc ++ ((is ++ ρ.co) ++ (ρ.w ++ ρ.l.filterMap id)))).Perm (ρ.fr ++ ((is ++ ρ.cc) ++ (ρ.co ++ (ρ.w ++ ρ.l.filterMap id))))
    refine List.Perm.append_left _ ?_
    rw [List.append_assoc is, List.append_assoc is, ← List.append_assoc ρ.cc, ← List.append_assoc is]
    exact (List.perm_append_comm).append_right _
  · rcases q with q | q
    · exact .inl (List.mem_append_right _ q)
    · exact .inr fun z => q ((cAO ca).mp z)
theorem St.dropK (S : St G A env (ρ.cA is) m σ h) (k : ∀ b o, b ∉ is → h.get? b = some o → h'.get? b = some o) (hc : ∀ b ∈ is, ∀ c, ¬h.IsCell b c) : St G A env ρ m σ h' ∧ Tra (ρ.cA is) h ρ h' := by
  have d' : (ρ.fr ++ ((is ++ ρ.cc) ++ (ρ.co ++ (ρ.w ++ ρ.l.filterMap id)))).Nodup := S.nodup
  rw [List.nodup_append] at d'
  obtain ⟨_, d2, f1⟩ := d'
  rw [List.nodup_append] at d2
  obtain ⟨_, _, f2⟩ := d2
  have nfr : ∀ b ∈ ρ.fr, b ∉ is := fun b q z => f1 b q b (List.mem_append_left _ (List.mem_append_left _ z)) rfl
  have nw : ∀ b ∈ ρ.w, b ∉ is := fun b q z => f2 b (List.mem_append_left _ z) b (List.mem_append_right _ (List.mem_append_left _ q)) rfl
  have nl : ∀ b ∈ ρ.l.filterMap id, b ∉ is := fun b q z => f2 b (List.mem_append_left _ z) b (List.mem_append_right _ (List.mem_append_right _ q)) rfl
  have nco : ∀ b ∈ ρ.co, b ∉ is := fun b q z => f2 b (List.mem_append_left _ z) b (List.mem_append_left _ q) rfl
  have ncc : ∀ b ∈ ρ.cc, b ∉ is := fun b q z => by
    have d3 : (is ++ ρ.cc).Nodup := by
      have d' : (ρ.fr ++ ((is ++ ρ.cc) ++ (ρ.co ++ (ρ.w ++ ρ.l.filterMap id)))).Nodup := S.nodup
      rw [List.nodup_append] at d'
      obtain ⟨_, d2, _⟩ := d'
      exact (List.nodup_append.mp d2).1
    exact (List.nodup_append.mp d3).2.2 b z b q rfl
  have nis : ∀ b, ¬(ρ.cA is).own b → b ∉ is := fun b q z => q ((cA_own b).mpr (.inl z))
  have tr : Tra (ρ.cA is) h ρ h' := ⟨fun _ _ e => e, fun _ _ e => e, fun b q => .inl ((cA_own b).mpr (.inr q)), fun b o e q _ => k b o (nis b q) e, fun b o e q v => ⟨o, k b o (nis b q) e, rfl, rfl, v⟩⟩
  refine ⟨⟨fun b o e => k b o (fun z => by rw [(S.hown b ((cA_own b).mpr (.inl z))).1] at e; cases e) (S.base b o e), S.low, S.fl, let ⟨o, q, F⟩ := S.frs; ⟨o, q, F.eq, F.kd, fun a ha => let ⟨o, es, n, e, d⟩ := F.ok a ha; ⟨o, es, n, k a o (nfr a ha) e, d⟩⟩, fun a q => ?_, ?_, ?_, fun y v e q => ?_, fun y q e => ?_, S.wl, S.ll, fun i c a e1 e2 => (S.cw i c a e1 e2).tra tr fun o e => k a o (nw a (List.mem_of_getElem? e2)) e, fun i c a e1 e2 => (S.cl i c a e1 e2).tra tr fun o e => k a o (nl a (mem_l e2)) e⟩, tr⟩
  · obtain ⟨q1, o, q2⟩ := S.hown a ((cA_own a).mpr (.inr q))
    refine ⟨q1, o, k a o ?_ q2⟩
    rcases q with q | q | q | q | q
    · exact nfr a q
    · exact ncc a q
    · exact nco a q
    · exact nw a q
    · exact nl a (mem_l' q)
  · have d := S.nodup
    have d' : (ρ.fr ++ ((is ++ ρ.cc) ++ (ρ.co ++ (ρ.w ++ ρ.l.filterMap id)))).Nodup := d
    refine d'.sublist (List.Sublist.append (List.Sublist.refl _) ?_)
    rw [List.append_assoc]
    exact List.sublist_append_right _ _
  · obtain ⟨mm, hn, hm⟩ := S.loc
    exact ⟨mm, hn.at' fun o e => k _ o (nfr _ S.hL) e, fun y v e q => let ⟨a, q1, q2⟩ := hm y v e q; ⟨a, q1, q2.tra tr⟩⟩
  · obtain ⟨ca, a, q1, ⟨o, q2, q2'⟩, q3, q4⟩ := S.cel y v e q
    have nca : ca ∉ is := fun z => hc ca z _ ⟨o, q2, q2'⟩
    refine ⟨ca, a, q1, ⟨o, k ca o nca q2, q2'⟩, q3.tra tr, ?_⟩
    rcases q4 with q4 | q4
    · exact (List.mem_append.mp q4).elim (fun z => (nca z).elim) .inl
    · exact .inr fun w => q4 ((cA_own ca).mpr (.inr w))
  · obtain ⟨ca, q1, ⟨o, q2, q2'⟩, q3⟩ := S.cun y q e
    have nca : ca ∉ is := fun z => hc ca z _ ⟨o, q2, q2'⟩
    exact ⟨ca, q1, ⟨o, k ca o nca q2, q2'⟩, (List.mem_append.mp q3).elim (fun z => (nca z).elim) id⟩
theorem St.dropA (S : St G A env (ρ.cA is) m σ h) (hc : ∀ b ∈ is, ∀ c, ¬h.IsCell b c) : St G A env ρ m σ h ∧ Tra (ρ.cA is) h ρ h := S.dropK (fun _ _ _ e => e) hc
theorem St.stepA (S : St G A env (ρ.cA is) m σ h) (k : ∀ b o, b ∉ is → h.get? b = some o → h'.get? b = some o) (hi : ∀ b ∈ is, ∃ o, h'.get? b = some o) (hc : ∀ b ∈ is, ∀ c, ¬h.IsCell b c) : St G A env (ρ.cA is) m σ h' ∧ Ext ρ.l.length (ρ.cA is) h (ρ.cA is) h' := by
  have d' : (ρ.fr ++ ((is ++ ρ.cc) ++ (ρ.co ++ (ρ.w ++ ρ.l.filterMap id)))).Nodup := S.nodup
  rw [List.nodup_append] at d'
  obtain ⟨_, d2, f1⟩ := d'
  rw [List.nodup_append] at d2
  obtain ⟨_, _, f2⟩ := d2
  have nfr : ∀ b ∈ ρ.fr, b ∉ is := fun b q z => f1 b q b (List.mem_append_left _ (List.mem_append_left _ z)) rfl
  have nco : ∀ b ∈ ρ.co, b ∉ is := fun b q z => f2 b (List.mem_append_left _ z) b (List.mem_append_left _ q) rfl
  have nw : ∀ b ∈ ρ.w, b ∉ is := fun b q z => f2 b (List.mem_append_left _ z) b (List.mem_append_right _ (List.mem_append_left _ q)) rfl
  have nl : ∀ b ∈ ρ.l.filterMap id, b ∉ is := fun b q z => f2 b (List.mem_append_left _ z) b (List.mem_append_right _ (List.mem_append_right _ q)) rfl
  have own : ∀ b ∈ is, (ρ.cA is).own b := fun b q => (cA_own b).mpr (.inl q)
  have x : Ext ρ.l.length (ρ.cA is) h (ρ.cA is) h' := by
    refine ⟨fun _ _ z => z, rfl, rfl, fun _ z => z, Nat.le_refl _, fun _ _ => rfl, fun _ z => .inl z, fun b o e q _ => k b o (fun z => ?_) e, fun b o e q v => ⟨o, k b o (fun z => q (own b z)) e, rfl, rfl, v⟩, fun b o e => ?_, fun b o e q => ⟨o.slots, k b o (nfr b (List.mem_of_mem_tail q)) e⟩⟩
    · rcases q with q | q
      · exact q (own b z)
      · exact nco b q z
    · by_cases z : b ∈ is
      · exact hi b z
      · exact ⟨o, k b o z e⟩
  refine ⟨⟨fun b o e => k b o (fun z => by rw [(S.hown b (own b z)).1] at e; cases e) (S.base b o e), S.low, S.fl, ?_, fun a q => ?_, S.nodup, ?_, fun y v e q => ?_, fun y q e => let ⟨ca, q1, ⟨o, q2, q2'⟩, q3⟩ := S.cun y q e; ⟨ca, q1, ⟨o, k ca o (fun z => hc ca z _ ⟨o, q2, q2'⟩) q2, q2'⟩, q3⟩, S.wl, S.ll, fun i c a e1 e2 => (S.cw i c a e1 e2).ext x fun o => k a o (nw a (List.mem_of_getElem? e2)), fun i c a e1 e2 => (S.cl i c a e1 e2).ext x fun o => k a o (nl a (mem_l e2))⟩, x⟩
  · obtain ⟨outer, q, F⟩ := S.frs
    exact ⟨outer, q, F.eq, F.kd, fun a ha => let ⟨o, es, n, e, d⟩ := F.ok a ha; ⟨o, es, n, k a o (nfr a ha) e, d⟩⟩
  · obtain ⟨q1, o, q2⟩ := S.hown a q
    exact ⟨q1, x.old a o q2⟩
  · obtain ⟨mm, hn, hm⟩ := S.loc
    exact ⟨mm, hn.at' fun o e => k _ o (nfr _ S.hL) e, fun y v e q => let ⟨a, q1, q2⟩ := hm y v e q; ⟨a, q1, q2.ext x⟩⟩
  · obtain ⟨ca, a, q1, ⟨o, q2, q2'⟩, q3, q4⟩ := S.cel y v e q
    exact ⟨ca, a, q1, ⟨o, k ca o (fun z => hc ca z _ ⟨o, q2, q2'⟩) q2, q2'⟩, q3.ext x, q4⟩
theorem Ext.OtoA (x : Ext n (ρ.cO is) h (ρ'.cO is) h') (hco : ρ'.co = ρ.co) : Ext n (ρ.cA is) h (ρ'.cA is) h' :=
  ⟨x.w, x.fr, hco, fun a q => (List.mem_append.mp q).elim (fun q => List.mem_append_left _ q) fun q => List.mem_append_right _ (x.cc a q), x.len, x.l, fun b q => (x.own b ((cAO b).mp q)).imp_left (cAO b).mpr,
    fun b o e q nv => x.keep b o e (q.imp (fun q z => q ((cAO b).mpr z)) fun q => List.mem_append_right _ q) (nv.imp_right fun q => List.mem_append_right _ q), fun b o e q v => x.vol b o e (fun z => q ((cAO b).mpr z)) v, x.old, x.frs⟩
theorem Ext.fromK {h1 : Heap} (x : Ext n (ρ.cA is) h (ρ'.cA is) h1) (k1 : ∀ b o, b ∉ is → h1.get? b = some o → h'.get? b = some o) (k : ∀ b o, h0.get? b = some o → h.get? b = some o) (hf : ∀ b ∈ is, h0.get? b = none) (hcc : ∀ a ∈ ρ'.cc, a ∈ ρ.cc) : Ext n ρ h0 ρ' h' := by
  have nA : ∀ b o, h0.get? b = some o → ¬ρ.own b → ¬(ρ.cA is).own b := fun b o e q z => by
    rcases (cA_own b).mp z with z | z
    · rw [hf b z] at e; cases e
    · exact q z
  have nis : ∀ b o, h0.get? b = some o → b ∉ is := fun b o e z => by rw [hf b z] at e; cases e
  refine ⟨x.w, x.fr, x.co, hcc, x.len, x.l, fun b q => ?_, fun b o e q nv => k1 b o (nis b o e) (x.keep b o (k b o e) (q.imp (fun q => nA b o e q) fun q => q) nv), fun b o e q v => ?_, fun b o e => ?_, fun b o e q => ?_⟩
  · rcases x.own b ((cA_own b).mpr (.inr q)) with q | q
    · rcases (cA_own b).mp q with q | q
      · exact .inr (hf b q)
      · exact .inl q
    · exact .inr (get_none fun o e => by rw [k b o e] at q; cases q)
  · obtain ⟨o', e', r⟩ := x.vol b o (k b o e) (nA b o e q) v
    exact ⟨o', k1 b o' (nis b o e) e', r⟩
  · obtain ⟨o', e'⟩ := x.old b o (k b o e)
    exact ⟨o', k1 b o' (nis b o e) e'⟩
  · obtain ⟨sl, e'⟩ := x.frs b o (k b o e) q
    exact ⟨sl, k1 b _ (nis b o e) e'⟩
theorem Ext.fromA (x : Ext n (ρ.cA is) h (ρ'.cA is) h') (k : ∀ b o, h0.get? b = some o → h.get? b = some o) (hf : ∀ b ∈ is, h0.get? b = none) (hcc : ∀ a ∈ ρ'.cc, a ∈ ρ.cc) : Ext n ρ h0 ρ' h' := x.fromK (fun _ _ _ e => e) k hf hcc
end
end Mine
end
section
open PySem PySem.W PyProof.Rows PySem.Calls PySem.Spec PySem.SeqAt
set_option maxRecDepth 10000
namespace Mine

noncomputable def TA (G : Gd) (c : Cx) (t : Env → Value → Sem Unit) (v : V) (m : Loc) (σ : AS) (K : Loc → AS → Prop) (X : V → Loc → AS → Prop) : Prop :=
  ∀ (A : Around) (env : Env) (ρ : Rho) (h : Heap) (tk : Tok) (z : Shared) (val : Value) (Q : Unit → Shared → Prop) (E : Value → Shared → Prop), Ok G c A env → St G A env ρ m σ h → c.n ≤ ρ.l.length → VR G.EC ρ h v val →
    (∀ ρ' h' tk' m' σ', K m' σ' → St G A env ρ' m' σ' h' → Ext c.n ρ h ρ' h' → Q () (sh z h' tk')) →
    (∀ ρ' h' tk' v m' σ' e, X v m' σ' → St G A env ρ' m' σ' h' → Ext c.n ρ h ρ' h' → Fly G (fl0 env.locals) ρ' h h' e v → E (.ref e) (sh z h' tk')) →
    wpAny (model PG G.w) A (t env val) Q E (sh z h tk)
noncomputable def TAs (G : Gd) (c : Cx) : List (Env → Value → Sem Unit) → List V → Loc → AS → (Loc → AS → Prop) → (V → Loc → AS → Prop) → Prop
  | [], [], m, σ, K, X => K m σ
  | t :: ts, v :: vs, m, σ, K, X => TA G c t v m σ (fun m' σ' => TAs G c ts vs m' σ' K X) X
  | _, _, _, _, _, _ => False

section
variable {G : Gd} {c : Cx} {A : Around} {env : Env} {ρ : Rho} {m : Loc} {σ : AS} {h h' : Heap}
theorem St.setCel (S : St G A env ρ m σ h) {x v val ca} (hk : env.scope.names.lookup x = some .cell) (hc : env.cells.lookup x = some ca) (hcc : ca ∈ ρ.cc) (inj : ∀ y, (env.scope.names.lookup y = some .cell ∨ env.scope.names.lookup y = some .free) → y ≠ x → env.cells.lookup y ≠ some ca) (hn : h'.IsCell ca (some val)) (hs : Heap.SameBut ca h h')
    (r : VR G.EC ρ h v val) : St G A env ρ ((x, v) :: m) σ h' ∧ Ext ρ.l.length ρ h ρ h' := by
  have d := S.nodup
  have oc : ρ.own ca := .inr (.inl hcc)
  have nfr : ∀ b ∈ ρ.fr, b ≠ ca := fun b q z => by subst z; exact S.ccL q hcc
  rw [List.nodup_append] at d
  obtain ⟨_, d2, _⟩ := d
  rw [List.nodup_append] at d2
  obtain ⟨_, _, f2⟩ := d2
  have nco : ∀ b ∈ ρ.co, b ≠ ca := fun b q z => f2 ca hcc b (List.mem_append_left _ q) z.symm
  have nw : ∀ b ∈ ρ.w, b ≠ ca := fun b q z => f2 ca hcc b (List.mem_append_right _ (List.mem_append_left _ q)) z.symm
  have nl : ∀ b ∈ ρ.l.filterMap id, b ≠ ca := fun b q z => f2 ca hcc b (List.mem_append_right _ (List.mem_append_right _ q)) z.symm
  have x' : Ext ρ.l.length ρ h ρ h' := by
    refine ⟨fun _ _ z => z, rfl, rfl, fun _ z => z, Nat.le_refl _, fun _ _ => rfl, fun _ z => .inl z, fun b o e q _ => hs.extBut b o (fun z => ?_) e, fun b o e q v => ⟨o, hs.extBut b o (fun z => q (z ▸ oc)) e, rfl, rfl, v⟩, fun b o e => ?_, fun b o e q => ⟨o.slots, hs.extBut b o (nfr b (List.mem_of_mem_tail q)) e⟩⟩
    · rcases q with q | q
      · exact q (z ▸ oc)
      · exact nco b q z
    · by_cases q : b = ca
      · obtain ⟨o', e', _⟩ := hn
        exact ⟨o', q ▸ e'⟩
      · exact ⟨o, hs.extBut b o q e⟩
  refine ⟨⟨fun b o e => hs.extBut b o (fun z => by rw [z, (S.hown _ oc).1] at e; cases e) (S.base b o e), S.low, S.fl, ?_, fun a q => ?_, S.nodup, ?_, fun y u e q => ?_, fun y q e => ?_, S.wl, S.ll,
    fun i c a e1 e2 => (S.cw i c a e1 e2).ext x' fun o => hs.extBut a o (nw a (List.mem_of_getElem? e2)), fun i c a e1 e2 => (S.cl i c a e1 e2).ext x' fun o => hs.extBut a o (nl a (mem_l e2))⟩, x'⟩
  · obtain ⟨outer, q, F⟩ := S.frs
    exact ⟨outer, q, F.eq, F.kd, fun a ha => let ⟨o, es, n, e, d⟩ := F.ok a ha; ⟨o, es, n, hs.extBut a o (nfr a ha) e, d⟩⟩
  · obtain ⟨q1, o, q2⟩ := S.hown a q
    exact ⟨q1, x'.old a o q2⟩
  · obtain ⟨mm, hn', hm⟩ := S.loc
    refine ⟨mm, hn'.sameBut hs (nfr _ S.hL), fun y u e q => ?_⟩
    rw [List.lookup_cons] at e
    split at e
    · rename_i z
      rw [beq_iff_eq.mp z, hk] at q; cases q
    · obtain ⟨a, q1, q2⟩ := hm y u e q
      exact ⟨a, q1, q2.ext x'⟩
  · rw [List.lookup_cons] at e
    by_cases z : y = x
    · subst z
      rw [beq_self_eq_true] at e
      cases e
      exact ⟨ca, val, hc, hn, r.ext x', .inl hcc⟩
    · rw [beq_eq_false_iff_ne.mpr z] at e
      obtain ⟨cb, a, q1, ⟨o, q2, q2'⟩, q3, q4⟩ := S.cel y u e q
      exact ⟨cb, a, q1, ⟨o, hs.extBut cb o (fun w => inj y q z (w ▸ q1)) q2, q2'⟩, q3.ext x', q4⟩
  · rw [List.lookup_cons] at e
    split at e
    · cases e
    · rename_i z
      have z' : y ≠ x := by simpa using z
      obtain ⟨cb, q1, ⟨o, q2, q2'⟩, q3⟩ := S.cun y q e
      exact ⟨cb, q1, ⟨o, hs.extBut cb o (fun w => inj y (.inl q) z' (w ▸ q1)) q2, q2'⟩, q3⟩
end
section
variable {G : Gd} {c : Cx} {m : Loc} {σ : AS} {K : Loc → AS → Prop} {X : V → Loc → AS → Prop}
theorem ta_loc {x px v} (hx : c.scope.names.lookup x = some .local) (h : K ((x, v) :: m) σ) : TA G c (assign (.Name x px)) v m σ K X := fun A env ρ hh tk z val Q E ok S hn r hQ hE =>
  PyProof.Rows.assign_Name (storeL ok S hx r fun h2 S2 x2 => hQ ρ h2 _ _ σ h S2 (x2.mono hn))
theorem storeC {A env ρ h tk z v val x} (ok : Ok G c A env) (S : St G A env ρ m σ h) (hx : c.scope.names.lookup x = some .cell) (hm : m.lookup x = none) (r : VR G.EC ρ h v val) {Q : Unit → Shared → Prop} {E : Value → Shared → Prop}
    (k : ∀ h' tk', St G A env ρ ((x, v) :: m) σ h' → Ext ρ.l.length ρ h ρ h' → Q () (sh z h' tk')) : wpAny (model PG G.w) A (storeName env x val) Q E (sh z h tk) := by
  have inj := ok.cinj x hx
  obtain ⟨L, a, cd, cl, rfl⟩ := ok.env
  obtain ⟨ca, q1, q2, q3⟩ := S.cun x hx hm
  refine wpAny_storeName_cell ok.kind hx q1 q2 fun h' hc hs => ?_
  obtain ⟨S', x'⟩ := S.setCel hx q1 q3 (fun y _ n e => n (inj y x ca e q1)) hc hs r
  exact k h' tk S' x'
theorem ta_cel {x px v} (hx : c.scope.names.lookup x = some .cell) (hm : m.lookup x = none) (h : K ((x, v) :: m) σ) : TA G c (assign (.Name x px)) v m σ K X := fun A env ρ hh tk z val Q E ok S hn r hQ hE =>
  PyProof.Rows.assign_Name (storeC ok S hx hm r fun h2 tk2 S2 x2 => hQ ρ h2 _ _ σ h S2 (x2.mono hn))
theorem ta_attr {o nm pt v} (h : AE G c o m σ (fun u σ2 => ∃ C d es, cellOf σ2 u = some (.inst C d) ∧ cellOf σ2 d = some (.dict es) ∧ setOk G.K C nm = true ∧ es.length < 1000 ∧ K m (putCell σ2 d (.dict (putA nm v es)))) (fun v σ2 => X v m σ2)) : TA G c (assign (.Attribute o nm pt)) v m σ K X := by
  intro A env ρ hh tk z val Q E ok S hn r hQ hE
  rw [assign_Attribute]
  refine wpAny_bind (wpAny_holding (h A env ρ hh tk z _ _ ok S (fun ρ1 h1 tk1 u a σ1 k1 S1 x1 r1 => ?_) fun ρ1 h1 tk1 v e σ1 k1 S1 x1 f1 => hE ρ1 h1 tk1 v m σ1 e k1 S1 (x1.mono hn) f1))
  obtain ⟨C, d, es, k1, k2, k3, k4, k5⟩ := k1
  refine wpAny_bind (wpAny_standAt (wpAny_bind (wpAny_holding (setattr_inst ok S1 k1 k2 r1 (r.ext x1) k3 k4 fun h2 tk2 S2 x2 => ?_))))
  exact wpAny_release (hQ ρ1 h2 tk2 m _ k5 S2 ((x1.mono hn).trans (x2.mono (Nat.le_trans hn x1.len))))

theorem lf_ext {EC : Addr} {n ρ h ρ' h' vs vals} (lf : ∀ v ∈ vs, LF v) (r : VRs EC ρ h vs vals) (x : Ext n ρ h ρ' h') : VRs EC ρ' h' vs vals :=
  ⟨r.1, fun i y v e1 e2 => lf y (List.mem_of_getElem? e1) _ _ _ _ _ _ (r.2 i y v e1 e2) (.ofExt x)⟩
theorem tas_run {ts vs} (h : TAs G c ts vs m σ K X) (lf : ∀ v ∈ vs, LF v) {A env ρ hh tk z vals Q E} (ok : Ok G c A env) (S : St G A env ρ m σ hh) (hn : c.n ≤ ρ.l.length) (r : VRs G.EC ρ hh vs vals)
    (hQ : ∀ ρ' h' tk' m' σ', K m' σ' → St G A env ρ' m' σ' h' → Ext c.n ρ hh ρ' h' → Q () (sh z h' tk'))
    (hE : ∀ ρ' h' tk' v m' σ' e, X v m' σ' → St G A env ρ' m' σ' h' → Ext c.n ρ hh ρ' h' → Fly G (fl0 env.locals) ρ' hh h' e v → E (.ref e) (sh z h' tk')) :
    wpAny (model PG G.w) A (assignInOrder (ts.map fun t => t env) vals) Q E (sh z hh tk) := by
  induction ts generalizing vs vals m σ ρ hh tk with
  | nil =>
    cases vs with
    | nil => rw [r.inv_nil]; exact wpAny_pure (hQ ρ hh tk m σ h S (.refl hn))
    | cons => exact h.elim
  | cons t ts ih =>
    cases vs with
    | nil => exact h.elim
    | cons v vs =>
      obtain ⟨a, as, rfl, r1, r2⟩ := r.inv_cons
      rw [List.map_cons]
      unfold assignInOrder
      refine wpAny_bind (wpAny_holding (h A env ρ hh tk z a _ _ ok S hn r1 (fun ρ1 h1 tk1 m1 σ1 k1 S1 x1 => ?_) hE))
      exact ih k1 (fun v hv => lf v (.tail _ hv)) S1 x1.len (lf_ext (fun v hv => lf v (.tail _ hv)) r2 x1) (fun ρ2 h2 tk2 m2 σ2 k2 S2 x2 => hQ ρ2 h2 tk2 m2 σ2 k2 S2 (x1.trans x2)) fun ρ2 h2 tk2 v m2 σ2 e k2 S2 x2 f2 => hE ρ2 h2 tk2 v m2 σ2 e k2 S2 (x1.trans x2) (f2.mono x1.old)

theorem ta_tup {elts k pos vs} (h : TAs G c (elts.map fun e => assign e) vs m σ K X) (lf : ∀ v ∈ vs, LF v) (hl : elts.length = vs.length) (hn' : c.hn = true)
    (he : ∀ env, assignEach elts env = elts.map fun e => (false, assign e env)) : TA G c (assign (.Tuple elts k pos)) (.tup vs) m σ K X := by
  intro A env ρ hh tk z val Q E ok S hn r hQ hE
  obtain ⟨x, vals, n, rfl, hx, rr⟩ := tup_at r
  refine wpAny_assign_Tuple (items := vals.toArray) (ok.hn hn') ⟨_, hx, rfl, n, rfl⟩ (by rw [he, List.length_map, List.size_toArray, ← rr.1, hl]) ?_ fun h' ex => ?_
  · rw [he, List.findIdx?_eq_none_iff]
    intro p hp
    obtain ⟨e, _, rfl⟩ := List.mem_map.mp hp
    rfl
  · obtain ⟨S1, x1⟩ := S.grow (h' := h') fun b o e => ex b o (Nat.ne_of_lt (Heap.lt_size e)) e
    have e1 : (assignEach elts env).map (·.2) = (elts.map fun e => assign e).map fun t => t env := by rw [he]; simp
    rw [e1]
    exact tas_run h lf ok S1 hn (rr.ext x1) (fun ρ2 h2 tk2 m2 σ2 k2 S2 x2 => hQ ρ2 h2 tk2 m2 σ2 k2 S2 ((x1.mono hn).trans x2)) fun ρ2 h2 tk2 v m2 σ2 e k2 S2 x2 f2 => hE ρ2 h2 tk2 v m2 σ2 e k2 S2 ((x1.mono hn).trans x2) (f2.mono x1.old)
end
section
variable {G : Gd} {c : Cx} {m : Loc} {σ : AS} {K : Fl → Loc → AS → Prop} {X : V → Loc → AS → Prop}
theorem s_setc {x px value pos} (hx : c.scope.names.lookup x = some .cell) (hm : m.lookup x = none) (h : AE G c value m σ (fun v σ1 => K .next ((x, v) :: m) σ1) (fun v σ1 => X v m σ1))
    (hs : ∀ env, swapsWith value (some (.Name x px)) pos.line env = pure false := by intro _; rfl) : S1 G c (.Assign [.Name x px] value pos) m σ K X := by
  intro A env ρ hh tk z Q E ok S hn hQ hE
  refine wpAny_Assign_Name (h A env ρ hh tk z _ _ ok S (fun ρ1 h1 tk1 v a σ1 k1 S1 x1 r1 => ?_) fun ρ1 h1 tk1 v e σ1 k1 S1 x1 f1 => hE ρ1 h1 tk1 v m σ1 e k1 S1 (x1.mono hn) f1) (hs env)
  exact storeC ok S1 hx hm r1 fun h2 tk2 S2 x2 => hQ ρ1 h2 _ .next _ σ1 _ k1 S2 ((x1.mono hn).trans (x2.mono (Nat.le_trans hn x1.len))) .next
theorem s_tup {elts k tpos value pos} (h : AE G c value m σ (fun v σ1 => TA G c (assign (.Tuple elts k tpos)) v m σ1 (fun m' σ' => K .next m' σ') X) (fun v σ1 => X v m σ1))
    (hs : ∀ env, swapsWithSole [.Tuple elts k tpos] value pos.line env = pure false := by intro _; rfl) (hw : ∀ L a cd cl, swappedStores [.Tuple elts k tpos] value (envX c.qual c.scope L a cd cl) = pure none := by intro _ _ _ _; rfl) : S1 G c (.Assign [.Tuple elts k tpos] value pos) m σ K X := by
  intro A env ρ hh tk z Q E ok S hn hQ hE
  refine PyProof.Rows.Assign_Tuple ?_ (hs env) (by obtain ⟨L, a, cd, cl, rfl⟩ := ok.env; exact hw L a cd cl)
  refine h A env ρ hh tk z _ _ ok S (fun ρ1 h1 tk1 v a σ1 k1 S1 x1 r1 => ?_) fun ρ1 h1 tk1 v e σ1 k1 S1 x1 f1 => hE ρ1 h1 tk1 v m σ1 e k1 S1 (x1.mono hn) f1
  have x1' := x1.mono hn
  exact k1 A env ρ1 h1 tk1 z a _ _ ok S1 x1'.len r1 (fun ρ2 h2 tk2 m2 σ2 k2 S2 x2 => hQ ρ2 h2 tk2 .next m2 σ2 _ k2 S2 (x1'.trans x2) .next) fun ρ2 h2 tk2 v m2 σ2 e k2 S2 x2 f2 => hE ρ2 h2 tk2 v m2 σ2 e k2 S2 (x1'.trans x2) (f2.mono x1.old)
end
end Mine
end
section
open PySem PySem.W PyProof.Rows PySem.Calls PySem.Spec PySem.SeqAt
set_option maxRecDepth 10000
namespace Mine

noncomputable def FB (G : Gd) (c : Cx) (t : Env → Value → Sem Unit) (body : List Stmt) : List V → Loc → AS → (Fl → Loc → AS → Prop) → (V → Loc → AS → Prop) → Prop
  | [], m, σ, K, _ => K .next m σ
  | x :: r, m, σ, K, X => TA G c t x m σ (fun m' σ' => SS G c body m' σ' (fun fl m2 σ2 => match fl with
      | .next => FB G c t body r m2 σ2 K X
      | .cont => FB G c t body r m2 σ2 K X
      | .brk => K .next m2 σ2
      | .ret v => K (.ret v) m2 σ2) X) X

structure Itr (w : World) (A : Around) (is fp : List Addr) (it : Value) (target : Expr) (n : Nat) (P : Nat → Value → Prop) (J : Nat → Heap → Prop) : Prop where
  frame : ∀ i h h', J i h → (∀ b ∈ is ++ fp, ∀ o, h.get? b = some o → h'.get? b = some o) → J i h'
  item : ∀ i h tk z (Q : Option Value → Shared → Prop) (E : Value → Shared → Prop), i < n → J i h → (∀ v h' tk', P i v → J (i + 1) h' → (∀ b o, b ∉ is → h.get? b = some o → h'.get? b = some o) → Q (some v) (sh z h' tk')) → wpAny (model PG w) A (pyNext it) Q E (sh z h tk)
  go : ∀ i v h tk z (Q : Unit → Shared → Prop) (E : Value → Shared → Prop), P i v → J (i + 1) h → Q () (sh z h tk) → wpAny (model PG w) A (letOwnedTupleGo target it v) Q E (sh z h tk)
  done : ∀ h tk z (Q : Option Value → Shared → Prop) (E : Value → Shared → Prop), J n h → (∀ h' tk', (∀ b o, b ∉ is → h.get? b = some o → h'.get? b = some o) → Q none (sh z h' tk')) → wpAny (model PG w) A (pyNext it) Q E (sh z h tk)
  nc : ∀ i h, J i h → (∀ b ∈ is, ∀ c, ¬h.IsCell b c) ∧ ∀ b ∈ is, ∃ o, h.get? b = some o

section
variable {G : Gd} {c : Cx} {A : Around} {env : Env} {ρ ρ' : Rho} {m : Loc} {σ : AS} {h h0 h1 : Heap} {is : List Addr} {n : Nat}
theorem Tra0.fromA (x : Ext n (ρ.cA is) h (ρ'.cA is) h1) (k : ∀ b o, h0.get? b = some o → h.get? b = some o) (hf : ∀ b ∈ is, h0.get? b = none) : Tra0 ρ h0 (ρ'.cO is) h1 := by
  have nA : ∀ b o, h0.get? b = some o → ¬ρ.own b → ¬(ρ.cA is).own b := fun b o e q z => by
    rcases (cA_own b).mp z with z | z
    · rw [hf b z] at e; cases e
    · exact q z
  refine ⟨x.w, fun b q => ?_, fun b o e q nv => x.keep b o (k b o e) (.inl (nA b o e q)) (.inl nv), fun b o e q v => x.vol b o (k b o e) (nA b o e q) v⟩
  rcases x.own b ((cAO b).mpr q) with q | q
  · rcases (cA_own b).mp q with q | q
    · exact .inr (hf b q)
    · exact .inl q
  · exact .inr (get_none fun o e => by rw [k b o e] at q; cases q)
theorem eta_cO {ρ2 : Rho} {co : List Addr} (e : ρ2.co = is ++ co) : ρ2 = ({ ρ2 with co := co } : Rho).cO is := by
  obtain ⟨fr, cc, co', w, l⟩ := ρ2
  subst e
  rfl
theorem tra_OA : Tra (ρ.cO is) h ρ h := ⟨fun _ _ e => e, fun _ _ e => e, fun b q => .inl ((cO_own b).mpr (.inr q)), fun b o e _ _ => e, fun b o e _ v => ⟨o, e, rfl, rfl, v⟩⟩

theorem for_run {fp it target body P J} (I : Itr G.w A is fp it target n P J) (nd : is.Nodup) (ok : Ok G c A env) (S0 : St G A env ρ m σ h0) (hn : c.n ≤ ρ.l.length) (k : ∀ b o, h0.get? b = some o → h.get? b = some o)
    (hf : ∀ b ∈ is, h0.get? b = none ∧ ∃ o, h.get? b = some o) (J0 : J 0 h) (hfp : ∀ b ∈ fp, ∃ o, h0.get? b = some o ∧ ¬ρ.own b ∧ ¬Vol o) {xs : List V} (hx : xs.length = n) (hP : ∀ i x v, xs[i]? = some x → P i v → VR G.EC ρ h0 x v) (lf : ∀ x ∈ xs, LF x)
    {K : Fl → Loc → AS → Prop} {X : V → Loc → AS → Prop} (F : FB G c (assign target) body xs m σ K X) {tk z} {Q : Flow → Shared → Prop} {E : Value → Shared → Prop}
    (hQ : ∀ ρ' h' tk' fl m' σ' a, K fl m' σ' → St G A env ρ' m' σ' h' → Ext c.n ρ h0 ρ' h' → FR G ρ' h' fl a → Q a (sh z h' tk'))
    (hE : ∀ ρ' h' tk' v m' σ' e, X v m' σ' → St G A env ρ' m' σ' h' → Ext c.n ρ h0 ρ' h' → Fly G (fl0 env.locals) ρ' h0 h' e v → E (.ref e) (sh z h' tk')) :
    codeAny (model PG G.w) A (.forLoop target it body [] env) (fun r s' => match r with | .ok f => Q f s' | .error e => cameBackBy (model PG G.w) A env E e s') (sh z h tk) := by
  have hf' : ∀ b ∈ is, h0.get? b = none := fun b q => (hf b q).1
  have endO : ∀ (ρ2 : Rho) m2 σ2 h2, St G A env (ρ2.cO is) m2 σ2 h2 → (∀ b ∈ is, ∀ c, ¬h2.IsCell b c) → Ext c.n (ρ.cA is) h (ρ2.cA is) h2 → (∀ a ∈ ρ2.cc, a ∈ ρ.cc) → St G A env ρ2 m2 σ2 h2 ∧ Ext c.n ρ h0 ρ2 h2 := fun ρ2 m2 σ2 h2 S2 nc x2 hcc =>
    ⟨(S2.OtoA.dropA nc).1, x2.fromA k hf' hcc⟩
  have flyO : ∀ (ρ2 : Rho) m2 σ2 h2 tk2 v e, St G A env (ρ2.cO is) m2 σ2 h2 → (∀ b ∈ is, ∀ c, ¬h2.IsCell b c) → Ext c.n (ρ.cA is) h (ρ2.cA is) h2 → (∀ a ∈ ρ2.cc, a ∈ ρ.cc) → X v m2 σ2 → Fly G (fl0 env.locals) (ρ2.cO is) h h2 e v →
      notedBy (model PG G.w) A env (fun e s' => cameBackBy (model PG G.w) A env E e s') (.ref e) (sh z h2 tk2) := fun ρ2 m2 σ2 h2 tk2 v e S2 nc x2 hcc xv f2 => by
    have ho : ∀ b o, h.get? b = some o → ∃ o', h2.get? b = some o' := x2.old
    refine noteF S2 ho f2 (fun _ q => q) fun h3 S3 x3 f3 => ?_
    refine backF S3 f3 fun h4 S4 x4 f4 => ?_
    have x34 : Ext c.n (ρ2.cO is) h2 (ρ2.cO is) h4 := (x3.trans (x4.mono x3.len)).mono x2.len
    have x24 : Ext c.n (ρ.cA is) h (ρ2.cA is) h4 := x2.trans (x34.OtoA rfl)
    have nc4 : ∀ b ∈ is, ∀ c, ¬h4.IsCell b c := fun b q c ⟨o, e1, e2⟩ => by
      obtain ⟨o', e'⟩ := (S2.hown b ((cO_own b).mpr (.inl q))).2
      have q2 : b ∈ (ρ2.cO is).co := List.mem_append_left _ q
      have := x34.keep b o' e' (.inr q2) (.inr q2)
      rw [e1] at this; cases this
      exact nc b q c ⟨_, e', e2⟩
    obtain ⟨S5, x5⟩ := endO ρ2 m2 σ2 h4 S4 nc4 x24 hcc
    exact hE ρ2 h4 _ v m2 σ2 e xv S5 x5 ((f4.mono (fun b o e => ⟨o, k b o e⟩) fun _ q => fl0_at q).tra (fun b q => (cO_own b).mpr (.inr q)) tra_OA)
  have keepO : ∀ (ρ1 ρ2 : Rho) h1 h2, Ext c.n (ρ1.cO is) h1 (ρ2.cO is) h2 → ∀ i, J i h1 → (∀ b ∈ fp, ∃ o, h1.get? b = some o ∧ h2.get? b = some o) → (∀ b ∈ is, ∃ o, h1.get? b = some o) → J i h2 := fun ρ1 ρ2 h1 h2 x i j f hi => by
    refine I.frame i h1 h2 j fun b q o e => ?_
    rcases List.mem_append.mp q with q | q
    · exact x.keep b o e (.inr (List.mem_append_left _ q)) (.inr (List.mem_append_left _ q))
    · obtain ⟨o', e1, e2⟩ := f b q
      rw [e] at e1; cases e1
      exact e2
  have fpA : ∀ (ρ2 : Rho) h2, Ext c.n (ρ.cA is) h (ρ2.cA is) h2 → ∀ b ∈ fp, ∃ o, h0.get? b = some o ∧ h2.get? b = some o := fun ρ2 h2 x b q => by
    obtain ⟨o, e, no, nv⟩ := hfp b q
    refine ⟨o, e, x.keep b o (k b o e) (.inl fun z => ?_) (.inl nv)⟩
    rcases (cA_own b).mp z with z | z
    · rw [hf' b z] at e; cases e
    · exact no z
  have S0A : St G A env (ρ.cA is) m σ h := S0.takeA k hf nd
  refine codeAny_forLoop_any (fun kk s => ∃ (i : Nat) (ρ' : Rho) (h' : Heap) (tk' : Tok) (m' : Loc) (σ' : AS), s = sh z h' tk' ∧ kk = n + 1 - i ∧ i ≤ n ∧ J i h' ∧ St G A env (ρ'.cA is) m' σ' h' ∧ Ext c.n (ρ.cA is) h (ρ'.cA is) h' ∧ (∀ a ∈ ρ'.cc, a ∈ ρ.cc) ∧ FB G c (assign target) body (xs.drop i) m' σ' K X) ?_ (n + 1)
    (xi6 0 ρ h tk m σ ⟨rfl, rfl, Nat.zero_le _, J0, S0A, (Ext.refl (by exact hn)), fun _ q => q, F⟩)
  intro kk s hI
  refine ex6 hI fun i ρ1 h1 tk1 m1 σ1 hJ => ?_
  clear hI
  refine an8 hJ fun e1 e2 hi j1 S1 x1 cc1 F1 => ?_
  clear hJ
  subst e1 e2
  obtain ⟨nc1, ex1⟩ := I.nc i h1 j1
  by_cases lt : i < n
  · have hxi : i < xs.length := by rw [hx]; exact lt
    have F1' : FB G c (assign target) body (xs[i] :: xs.drop (i + 1)) m1 σ1 K X := by rw [← List.drop_eq_getElem_cons hxi]; exact F1
    refine I.item i h1 tk1 z _ _ lt j1 fun v h2 tk2 pv j2 k2 => ?_
    obtain ⟨nc2, ex2⟩ := I.nc _ h2 j2
    obtain ⟨S2, x2⟩ := S1.stepA k2 ex2 nc1
    have x12 := x1.trans (x2.mono x1.len)
    refine I.go i v h2 tk2 z _ _ pv j2 ?_
    have S2O := S2.AtoO nc2
    have rv : VR G.EC (ρ1.cO is) h2 xs[i] v := lf _ (List.getElem_mem hxi) _ _ _ _ _ _ (hP i _ v (List.getElem?_eq_getElem hxi) pv) (Tra0.fromA x12 k hf')
    refine F1' A env (ρ1.cO is) h2 tk2 z v _ _ ok S2O x12.len rv (fun ρ3 h3 tk3 m3 σ3 k3 S3 x3 => ?_) fun ρ3 h3 tk3 v m3 σ3 e xv S3 x3 f3 => ?_
    · have e3 : ρ3 = ({ ρ3 with co := ρ1.co } : Rho).cO is := eta_cO x3.co
      generalize hr3 : ({ ρ3 with co := ρ1.co } : Rho) = r3 at e3
      have co3 : r3.co = ρ1.co := by rw [← hr3]
      subst e3
      have x13 := x12.trans (x3.OtoA co3)
      refine k3 A env _ h3 tk3 z _ _ ok S3 x3.len (fun ρ4 h4 tk4 fl m4 σ4 a k4 S4 x4 r4 => ?_) fun ρ4 h4 tk4 v m4 σ4 e xv S4 x4 f4 => ?_
      · have e4 : ρ4 = ({ ρ4 with co := r3.co } : Rho).cO is := eta_cO x4.co
        generalize hr4 : ({ ρ4 with co := r3.co } : Rho) = r4' at e4
        have co4 : r4'.co = r3.co := by rw [← hr4]
        subst e4
        have x34 := x3.trans x4
        have x14 := x12.trans (x34.OtoA (co4.trans co3))
        have cc4 : ∀ a ∈ r4'.cc, a ∈ ρ.cc := fun a q => cc1 a (x34.cc a q)
        have j4 : J (i + 1) h4 := keepO _ _ _ _ x34 _ j2 (fun b q => by
          obtain ⟨o, e, e1⟩ := fpA ρ1 h2 x12 b q
          obtain ⟨o', e', e2⟩ := fpA r4' h4 x14 b q
          rw [e] at e'; cases e'
          exact ⟨o, e1, e2⟩) ex2
        obtain ⟨nc4, ex4⟩ := I.nc _ h4 j4
        have again : FB G c (assign target) body (xs.drop (i + 1)) m4 σ4 K X → ∃ m, m < n + 1 - i ∧ ∃ (i : Nat) (ρ' : Rho) (h' : Heap) (tk' : Tok) (m' : Loc) (σ' : AS), sh z h4 tk4 = sh z h' tk' ∧ m = n + 1 - i ∧ i ≤ n ∧ J i h' ∧ St G A env (ρ'.cA is) m' σ' h' ∧ Ext c.n (ρ.cA is) h (ρ'.cA is) h' ∧ (∀ a ∈ ρ'.cc, a ∈ ρ.cc) ∧ FB G c (assign target) body (xs.drop i) m' σ' K X := fun F4 =>
          ⟨n + 1 - (i + 1), by omega, xi6 (i + 1) r4' h4 tk4 m4 σ4 ⟨rfl, rfl, lt, j4, S4.OtoA, x14, cc4, F4⟩⟩
        cases r4 with
        | next => exact again k4
        | cont => exact again k4
        | brk =>
          obtain ⟨S5, x5⟩ := endO _ _ _ _ S4 nc4 x14 cc4
          exact hQ _ _ _ _ _ _ _ k4 S5 x5 .next
        | ret rv =>
          obtain ⟨S5, x5⟩ := endO _ _ _ _ S4 nc4 x14 cc4
          exact hQ _ _ _ _ _ _ _ k4 S5 x5 (.ret (rv.tra tra_OA))
      · have e4 : ρ4 = ({ ρ4 with co := r3.co } : Rho).cO is := eta_cO x4.co
        generalize hr4 : ({ ρ4 with co := r3.co } : Rho) = r4' at e4
        have co4 : r4'.co = r3.co := by rw [← hr4]
        subst e4
        have x34 := x3.trans x4
        have x14 := x12.trans (x34.OtoA (co4.trans co3))
        have j4 : J (i + 1) h4 := keepO _ _ _ _ x34 _ j2 (fun b q => by
          obtain ⟨o, e, e1⟩ := fpA ρ1 h2 x12 b q
          obtain ⟨o', e', e2⟩ := fpA r4' h4 x14 b q
          rw [e] at e'; cases e'
          exact ⟨o, e1, e2⟩) ex2
        exact flyO _ _ _ _ _ _ _ S4 (I.nc _ h4 j4).1 x14 (fun a q => cc1 a (x34.cc a q)) xv (f4.mono (x12.trans (x3.OtoA co3)).old)
    · have e3 : ρ3 = ({ ρ3 with co := ρ1.co } : Rho).cO is := eta_cO x3.co
      generalize hr3 : ({ ρ3 with co := ρ1.co } : Rho) = r3 at e3
      have co3 : r3.co = ρ1.co := by rw [← hr3]
      subst e3
      have x13 := x12.trans (x3.OtoA co3)
      have j3 : J (i + 1) h3 := keepO _ _ _ _ x3 _ j2 (fun b q => by
        obtain ⟨o, e, e1⟩ := fpA ρ1 h2 x12 b q
        obtain ⟨o', e', e2⟩ := fpA r3 h3 x13 b q
        rw [e] at e'; cases e'
        exact ⟨o, e1, e2⟩) ex2
      exact flyO _ _ _ _ _ _ _ S3 (I.nc _ h3 j3).1 x13 (fun a q => cc1 a (x3.cc a q)) xv (f3.mono x12.old)
  · obtain rfl : i = n := Nat.le_antisymm hi (Nat.not_lt.mp lt)
    have F1' : K .next m1 σ1 := by
      have : xs.drop i = [] := List.drop_of_length_le (by rw [hx]; exact Nat.le_refl _)
      rw [this] at F1; exact F1
    refine I.done h1 tk1 z _ _ j1 fun h2 tk2 k2 => ?_
    refine wpAny_execs_nil ?_
    exact hQ ρ1 h2 tk2 .next m1 σ1 _ F1' (S1.dropK k2 nc1).1 (x1.fromK k2 k hf' cc1) .next
end
end Mine
end
section
open PySem PySem.W PyProof.Rows PySem.Calls PySem.Spec PySem.SeqAt
set_option maxRecDepth 10000
namespace Mine

theorem itr_list {w : World} {A : Around} (hh : A.handled = none) {I ax : Addr} {items : Array Value} (ne : ax ≠ I) {target : Expr} (ht : (∃ x p, target = .Name x p) ∨ ∃ es k p, target = .Tuple es k p) :
    Itr w A [I] [ax] (.ref I) target items.size (fun i v => items[i]? = some v) (fun i h => h.IsListIter I ax i ∧ h.IsList ax items) := by
  have W := Walks.list (prog := PG) (w := w) hh I ax ne items
  have nc : ∀ (i : Nat) (h : Heap), (h.IsListIter I ax i ∧ h.IsList ax items) → (∀ b ∈ [I], ∀ c, ¬h.IsCell b c) ∧ ∀ b ∈ [I], ∃ o, h.get? b = some o := fun i h ⟨⟨o, e, _, d⟩, _⟩ => by
    refine ⟨fun b q c ⟨o', e', d'⟩ => ?_, fun b q => ?_⟩
    · obtain rfl := List.mem_singleton.mp q
      rw [e] at e'; cases e'
      rw [d] at d'; cases d'
    · obtain rfl := List.mem_singleton.mp q
      exact ⟨o, e⟩
  refine ⟨fun i h h' j k => W.frame i h h' j fun b hb o e => k b (by simpa using hb) o e, fun i h tk z Q E lt j q => W.item i (sh z h tk) Q E lt j fun v h' tk' p j' k => q v h' tk' p j' k, fun i v h tk z Q E p j q => ?_, fun h tk z Q E j q => ?_, nc⟩
  · rcases ht with ⟨x, p, rfl⟩ | ⟨es, k, p, rfl⟩
    · exact wpAny_pure q
    · cases v with
      | ref T => exact wpAny_letOwnedTupleGo_listiter j.1 q
      | _ => exact wpAny_pure q
  · exact W.done (sh z h tk) Q E j fun h' tk' k => q h' tk' k
theorem itr_range {w : World} {A : Around} (hh : A.handled = none) {I : Addr} {n : Nat} {x p} :
    Itr w A [I] [] (.ref I) (.Name x p) n (fun i v => ∃ t, v = .int (0 + i * 1) t) (fun i h => IsRangeIter h I (0 + (i : Nat) * 1) ((n : Int) - (i : Nat)) 1) := by
  have W := Walks.range (prog := PG) (w := w) hh I 0 1 n
  refine ⟨fun i h h' j k => W.frame i h h' j fun b hb o e => k b (by simpa using hb) o e, fun i h tk z Q E lt j q => W.item i (sh z h tk) Q E lt j fun v h' tk' p j' k => q v h' tk' p j' k, fun i v h tk z Q E p j q => wpAny_pure q, fun h tk z Q E j q => W.done (sh z h tk) Q E j fun h' tk' k => q h' tk' k, fun i h j => ⟨fun b q c ⟨o', e', d'⟩ => ?_, fun b q => ?_⟩⟩
  · obtain rfl := List.mem_singleton.mp q
    have j' : h.get? b = some _ := j
    rw [j'] at e'; cases e'; cases d'
  · obtain rfl := List.mem_singleton.mp q
    exact ⟨_, j⟩

section
variable {G : Gd} {c : Cx} {m : Loc} {σ : AS} {K : Fl → Loc → AS → Prop} {X : V → Loc → AS → Prop}
theorem s_forl {target iter body pos} (hh : c.hn = true) (ht : (∃ x p, target = .Name x p) ∨ ∃ es k p, target = .Tuple es k p)
    (h : AE G c iter m σ (fun v σ1 => ∃ xs, v = .lst xs ∧ (∀ x ∈ xs, LF x) ∧ FB G c (assign target) body xs m σ1 K X) (fun v σ1 => X v m σ1)) (hs : ∀ env x, foldedSetIterable iter env x = pure x := by intro _ _; rfl) : S1 G c (.For target iter body [] pos) m σ K X := by
  intro A env ρ hh' tk z Q E ok S hn hQ hE
  refine wpAny_For ?_ (hs env)
  refine h A env ρ hh' tk z _ _ ok S (fun ρ1 h1 tk1 v a σ1 k1 S1 x1 r1 => ?_) fun ρ1 h1 tk1 v e σ1 k1 S1 x1 f1 => hE ρ1 h1 tk1 v m σ1 e k1 S1 (x1.mono hn) f1
  obtain ⟨xs, rfl, lf, F⟩ := k1
  cases r1 with
  | @lst _ ax n vals e no hl hv =>
    have il : h1.IsList ax vals.toArray := isList_of e
    refine wpAny_pyIter_list il ?_
    have up : ∀ b o, h1.get? b = some o → (h1.push { cls := .type "list_iterator", data := .fields #[.ref ax, .int 0 0] }).get? b = some o := fun b o e => Heap.get?_push_of_some _ e
    have x1' := x1.mono hn
    refine for_run (itr_list (ok.hn hh) (Nat.ne_of_lt (Heap.lt_size e)) ht) (by simp) ok S1 x1'.len up (fun b q => ?_) ⟨⟨_, Heap.get?_push_size _ rfl, rfl, rfl⟩, il.push _⟩ (fun b q => ?_) (by simp [hl]) (fun i x v e1 e2 => hv i x v e1 (by simpa using e2)) lf F
      (fun ρ2 h2 tk2 fl m2 σ2 a k2 S2 x2 r2 => hQ ρ2 h2 tk2 fl m2 σ2 a k2 S2 (x1'.trans x2) r2) fun ρ2 h2 tk2 v m2 σ2 e k2 S2 x2 f2 => hE ρ2 h2 tk2 v m2 σ2 e k2 S2 (x1'.trans x2) (f2.mono x1.old)
    · obtain rfl := List.mem_singleton.mp q
      exact ⟨get_size, _, Heap.get?_push_size _ rfl⟩
    · obtain rfl := List.mem_singleton.mp q
      exact ⟨_, e, no, nv_seq rfl⟩
noncomputable def upto (n : Nat) : List V := (List.range n).map fun i => V.int (i : Nat)
theorem s_forr {x p rp e rpos body pos} (hh : c.hn = true) (hx : nsIn G.K mainGlobals "range" = some none) (hk : c.scope.names.lookup ("range" : Str) = some .globalImplicit)
    (h : AE G c e m σ (fun v σ1 => ∃ n : Nat, v = .int n ∧ n < 1000000 ∧ FB G c (assign (.Name x p)) body (upto n) m σ1 K X) (fun v σ1 => X v m σ1)) (hv : bootBuiltins "range" = some (.type "range"))
    (hs : ∀ env x, foldedSetIterable (.Call (.Name "range" rp) [e] [] rpos) env x = pure x := by intro _ _; rfl) (he : ∀ env, starEach (e :: []) env = (false, eval e env) :: starEach [] env := by intro _; rfl) : S1 G c (.For (.Name x p) (.Call (.Name "range" rp) [e] [] rpos) body [] pos) m σ K X := by
  intro A env ρ hh' tk z Q E ok S hn hQ hE
  refine wpAny_For ?_ (hs env)
  refine Call_ ?_
  refine e_blt (K := fun v σ1 => v = .cst (.type "range") ∧ σ1 = σ) (X := fun v σ1 => X v m σ1) hx hv hk ⟨rfl, rfl⟩ (by decide) (by decide) A env ρ hh' tk z _ _ ok S (fun ρ0 h0 tk0 v a σ0 k0 S0 x0 r0 => ?_) fun ρ1 h1 tk1 v e σ1 k1 S1 x1 f1 => hE ρ1 h1 tk1 v m σ1 e k1 S1 (x1.mono hn) f1
  obtain ⟨rfl, rfl⟩ := k0
  cases r0
  refine callWith_type1 (args_cons ?_ (he env)) (he env)
  refine h A env ρ0 h0 tk0 z _ _ ok S0 (fun ρ1 h1 tk1 v a σ1 k1 S1 x1 r1 => args_nil ?_) fun ρ1 h1 tk1 v e σ1 k1 S1 x1 f1 => hE ρ1 h1 tk1 v m σ1 e k1 S1 ((x0.trans (x1.mono x0.len)).mono hn) (f1.mono x0.old)
  obtain ⟨n, rfl, hz, F⟩ := k1
  cases r1
  rename_i tn
  have x01 := (x0.trans (x1.mono x0.len)).mono hn
  refine call_range_1 ?_
  refine wpAny_pyIter_range (IsRange.new ..) (small_one (by decide) (by decide) (by omega) (by omega)) ?_
  have hsz : Builtin.Range.rangeSize 0 (n : Int) 1 = (n : Int) := by rw [rangeSize_one]; split <;> omega
  obtain ⟨S2, x2⟩ := S1.grow (h' := h1.push { cls := .type "range", data := .fields #[.int 0 tk1, .int n tn, .int 1 (tk1 + 1)] }) fun b o e => Heap.get?_push_of_some _ e
  have x02 := x01.trans (x2.mono x01.len)
  refine for_run (itr_range (n := n) (ok.hn hh)) (by simp) ok S2 x02.len (fun b o e => Heap.get?_push_of_some _ e) (fun b q => ?_) ?_ (fun b q => by cases q) (xs := upto n) (by simp [upto]) (fun i x v e1 e2 => ?_) (fun x hx => ?_) F
      (fun ρ2 h2 tk2 fl m2 σ2 a k2 S2 x2 r2 => hQ ρ2 h2 tk2 fl m2 σ2 a k2 S2 (x02.trans x2) r2) fun ρ2 h2 tk2 v m2 σ2 e k2 S2 x2 f2 => hE ρ2 h2 tk2 v m2 σ2 e k2 S2 (x02.trans x2) (f2.mono x02.old)
  · obtain rfl := List.mem_singleton.mp q
    exact ⟨get_size, _, Heap.get?_push_size _ rfl⟩
  · have e1 : (0 + ((0 : Nat) : Int) * 1) = 0 := by simp
    have e2 : ((n : Int) - ((0 : Nat) : Int)) = Builtin.Range.rangeSize 0 n 1 := by rw [hsz]; simp
    rw [e1, e2]
    exact Heap.get?_push_size _ rfl
  · obtain ⟨t, rfl⟩ := e2
    have : x = V.int (0 + (i : Int) * 1) := by
      unfold upto at e1
      rw [List.getElem?_map] at e1
      have hi : i < n := by
        cases q : (List.range n)[i]? with
        | none => rw [q] at e1; cases e1
        | some j => have := (List.getElem?_eq_some_iff.mp q).1; simpa using this
      rw [List.getElem?_range hi] at e1
      have := Option.some.inj e1
      rw [← this]; simp
    rw [this]
    exact .int
  · obtain ⟨i, _, rfl⟩ := List.mem_map.mp hx
    exact .int
end
end Mine
end
section
open PySem PySem.W PyProof.Rows PySem.Calls PySem.Spec PySem.SeqAt
set_option maxRecDepth 10000
namespace Mine

noncomputable def WB (G : Gd) (c : Cx) (test : Expr) (body : List Stmt) : Nat → Loc → AS → (Fl → Loc → AS → Prop) → (V → Loc → AS → Prop) → Prop
  | 0, _, _, _, _ => False
  | n + 1, m, σ, K, X => AB G c test m σ (fun b σ1 => match b with
      | true => SS G c body m σ1 (fun fl m2 σ2 => match fl with
        | .next => WB G c test body n m2 σ2 K X
        | .cont => WB G c test body n m2 σ2 K X
        | .brk => K .next m2 σ2
        | .ret v => K (.ret v) m2 σ2) X
      | false => K .next m σ1) (fun v σ1 => X v m σ1)
section
variable {G : Gd} {c : Cx} {m : Loc} {σ : AS} {K : Fl → Loc → AS → Prop} {X : V → Loc → AS → Prop}
theorem s_while {test body pos} (n : Nat) (h : WB G c test body n m σ K X) : S1 G c (.While test body [] pos) m σ K X := by
  intro A env ρ hh tk z Q E ok S hn hQ hE
  refine wpAny_While ?_
  have flyW : ∀ (ρ2 : Rho) m2 σ2 h2 tk2 v e, St G A env ρ2 m2 σ2 h2 → Ext c.n ρ hh ρ2 h2 → X v m2 σ2 → Fly G (fl0 env.locals) ρ2 hh h2 e v →
      notedBy (model PG G.w) A env (fun e s' => cameBackBy (model PG G.w) A env E e s') (.ref e) (sh z h2 tk2) := fun ρ2 m2 σ2 h2 tk2 v e S2 x2 xv f2 => by
    refine noteF S2 x2.old f2 (fun _ q => q) fun h3 S3 x3 f3 => ?_
    refine backF S3 f3 fun h4 S4 x4 f4 => ?_
    exact hE ρ2 h4 _ v m2 σ2 e xv S4 (x2.trans ((x3.trans (x4.mono x3.len)).mono x2.len)) (f4.mono (fun b o e => ⟨o, e⟩) fun _ q => fl0_at q)
  refine codeAny_whileLoop (fun k s => ∃ (ρ' : Rho) (h' : Heap) (tk' : Tok) (m' : Loc) (σ' : AS), s = sh z h' tk' ∧ St G A env ρ' m' σ' h' ∧ Ext c.n ρ hh ρ' h' ∧ WB G c test body k m' σ' K X) ?_ n ⟨ρ, hh, tk, m, σ, rfl, S, .refl hn, h⟩
  rintro k s ⟨ρ1, h1, tk1, m1, σ1, rfl, S1, x1, F1⟩
  cases k with
  | zero => exact F1.elim
  | succ k =>
    refine F1 A env ρ1 h1 tk1 z _ _ ok S1 (fun ρ2 h2 tk2 b a σ2 k2 S2 x2 r2 => ?_) fun ρ2 h2 tk2 v e σ2 k2 S2 x2 f2 => ?_
    · subst r2
      have x12 := x1.trans (x2.mono x1.len)
      cases b with
      | false =>
        rw [if_neg (by decide)]
        exact wpAny_execs_nil (hQ ρ2 h2 tk2 .next m1 σ2 _ k2 S2 x12 .next)
      | true =>
        rw [if_pos rfl]
        refine k2 A env ρ2 h2 tk2 z _ _ ok S2 x12.len (fun ρ3 h3 tk3 fl m3 σ3 a k3 S3 x3 r3 => ?_) fun ρ3 h3 tk3 v m3 σ3 e k3 S3 x3 f3 => ?_
        · cases r3 with
          | next => exact ⟨k, Nat.lt_succ_self k, ρ3, h3, tk3, m3, σ3, rfl, S3, x12.trans x3, k3⟩
          | cont => exact ⟨k, Nat.lt_succ_self k, ρ3, h3, tk3, m3, σ3, rfl, S3, x12.trans x3, k3⟩
          | brk => exact hQ ρ3 h3 tk3 .next m3 σ3 _ k3 S3 (x12.trans x3) .next
          | ret r => exact hQ ρ3 h3 tk3 _ m3 σ3 _ k3 S3 (x12.trans x3) (.ret r)
        · exact flyW ρ3 m3 σ3 h3 tk3 v e S3 (x12.trans x3) k3 (f3.mono x12.old)
    · exact flyW ρ2 m1 σ2 h2 tk2 v e S2 (x1.trans (x2.mono x1.len)) k2 (f2.mono x1.old)
end

section
variable {G : Gd} {c : Cx} {m : Loc} {σ : AS} {K : V → AS → Prop} {X : V → AS → Prop}
theorem e_bitem {value slice pos} (h : AE G c value m σ (fun v σ1 => AE G c slice m σ1 (fun i σ2 => ∃ (k : Nat) (l : List UInt8), i = .int k ∧ v = .byt l.toArray ∧ k < l.length ∧ l.length ≤ 100000 ∧ K (.int (l.getD k 0).toNat) σ2) X) X)
    (hs : ∀ l t k u, subscripted slice false (.bytes l t) (.int k u) = operate [.bytes l t, .int k u] (getItem (.bytes l t) (.int k u)) := by intro _ _ _ _; with_unfolding_all rfl) : AE G c (.Subscript value slice pos) m σ K X := by
  intro A env ρ hh tk z Q E ok S hQ hX
  refine subs h ok S (fun ρ' h' tk' v i a b σ' k S' x r1 r2 => ?_) hX
  obtain ⟨k, l, rfl, rfl, h0, hl, kk⟩ := k
  cases r2
  cases r1
  refine tail_any (typeIs_bytes _ _ _) FB.slot_bytes_getitem.lookup (PySem.W.getItem_bytes (by omega) (by omega) (by omega) ?_) (hs _ _ _ _)
  exact hQ ρ' h' _ _ _ _ kk S' x .int
theorem e_bupto {value hi p pos} (h : AE G c value m σ (fun v σ1 => AE G c hi m σ1 (fun i σ2 => ∃ k b, i = .int k ∧ v = .byt b ∧ b.size ≤ 100000 ∧ K (.byt (KBy.picked b none (some k))) σ2) X) X) : AE G c (.Subscript value (.Slice none (some hi) none p) pos) m σ K X := by
  intro A env ρ hh tk z Q E ok S hQ hX
  refine Subscript_ (h A env ρ hh tk z _ _ ok S (fun ρ1 h1 tk1 v a σ1 k1 S1 x1 r1 => ?_) hX)
  refine wpAny_Slice (wpAny_pure ?_)
  refine k1 A env ρ1 h1 tk1 z _ _ ok S1 (fun ρ2 h2 tk2 i b σ2 k2 S2 x2 r2 => wpAny_pure ?_) fun ρ2 h2 tk2 v e σ2 k2 S2 x2 f2 => hX ρ2 h2 tk2 v e σ2 k2 S2 (x1.trans (x2.mono x1.len)) (f2.mono x1.old)
  obtain ⟨k, b, rfl, rfl, hz, kk⟩ := k2
  cases r2
  have x12 := x1.trans (x2.mono x1.len)
  exact bslice_run ok S2 (r1.ext x2) .none (part_int k _) hz (fun a b => by with_unfolding_all rfl) fun h3 t3 tk3 S3 x3 => hQ _ _ _ _ _ _ kk S3 (x12.trans (x3.mono x12.len)) .byt
theorem e_bcut {value lo hi p pos} (h : AE G c value m σ (fun v σ1 => AE G c lo m σ1 (fun j σ2 => AE G c hi m σ2 (fun i σ3 => ∃ k k' b, j = .int k' ∧ i = .int k ∧ v = .byt b ∧ b.size ≤ 100000 ∧ K (.byt (KBy.picked b (some k') (some k))) σ3) X) X) X) : AE G c (.Subscript value (.Slice (some lo) (some hi) none p) pos) m σ K X := by
  intro A env ρ hh tk z Q E ok S hQ hX
  refine Subscript_ (h A env ρ hh tk z _ _ ok S (fun ρ1 h1 tk1 v a σ1 k1 S1 x1 r1 => ?_) hX)
  refine wpAny_Slice ?_
  refine k1 A env ρ1 h1 tk1 z _ _ ok S1 (fun ρ2 h2 tk2 j b σ2 k2 S2 x2 r2 => ?_) fun ρ2 h2 tk2 v e σ2 k2 S2 x2 f2 => hX ρ2 h2 tk2 v e σ2 k2 S2 (x1.trans (x2.mono x1.len)) (f2.mono x1.old)
  have x12 := x1.trans (x2.mono x1.len)
  refine k2 A env ρ2 h2 tk2 z _ _ ok S2 (fun ρ3 h3 tk3 i d σ3 k3 S3 x3 r3 => wpAny_pure ?_) fun ρ3 h3 tk3 v e σ3 k3 S3 x3 f3 => hX ρ3 h3 tk3 v e σ3 k3 S3 (x12.trans (x3.mono x12.len)) (f3.mono x12.old)
  obtain ⟨k, k', b, rfl, rfl, rfl, hz, kk⟩ := k3
  cases r2
  cases r3
  have x13 := x12.trans (x3.mono x12.len)
  exact bslice_run ok S3 ((r1.ext x2).ext x3) (part_int k' _) (part_int k _) hz (fun a b => by with_unfolding_all rfl) fun h4 t4 tk4 S4 x4 => hQ _ _ _ _ _ _ kk S4 (x13.trans (x4.mono x13.len)) .byt
end
section
variable {G : Gd} {c : Cx} {m : Loc} {σ : AS} {X : V → AS → Prop}
theorem b_or {x rest pos} {K : Bool → AS → Prop} (h : AB G c x m σ (fun b σ1 => match b with | true => K true σ1 | false => AB G c (.BoolOp .Or rest pos) m σ1 K X) X) : AB G c (.BoolOp .Or (x :: rest) pos) m σ K X := by
  intro A env ρ hh tk z Q E ok S hQ hX
  refine isTrue_or (h A env ρ hh tk z _ _ ok S (fun ρ1 h1 tk1 b a σ1 k1 S1 x1 r1 => ?_) hX)
  subst r1
  cases b with
  | false =>
    rw [if_neg (by decide)]
    exact PySem.wpAny_mono (k1 A env ρ1 h1 tk1 z _ _ ok S1 (fun ρ2 h2 tk2 fl a σ2 k2 S2 x2 r2 => hQ ρ2 h2 tk2 fl a σ2 k2 S2 (x1.trans (x2.mono x1.len)) r2)
      fun ρ2 h2 tk2 v e σ2 k2 S2 x2 f2 => hX ρ2 h2 tk2 v e σ2 k2 S2 (x1.trans (x2.mono x1.len)) (f2.mono x1.old)) (fun _ _ q => q) fun _ _ q => q
  | true => rw [if_pos rfl]; exact hQ ρ1 h1 tk1 true _ σ1 k1 S1 x1 rfl
end
end Mine
end
section
open PySem PySem.W PyProof.Rows PySem.Calls PySem.Spec PySem.SeqAt
set_option maxRecDepth 10000
namespace Mine
section
variable {G : Gd} {A : Around} {env : Env} {ρ ρ' : Rho} {m : Loc} {σ : AS} {h h' h0 : Heap} {a : Addr} {n : Nat}
end

noncomputable abbrev PRel (G : Gd) {K : Type} [DecidableEq K] (knd : KeyKind PG G.w K) (ks : List K) : Rel (List (Value × Value)) (List V) := fun ρ h us ps => ∃ kvs : List (K × Value), Carries knd ps kvs ∧ kvs.map (·.1) = ks ∧ VRs G.EC ρ h us (kvs.map (·.2))
section
variable {G : Gd} {c : Cx} {m : Loc} {σ : AS} {X : V → AS → Prop}
theorem dp_nil {K : Type} [DecidableEq K] {knd : KeyKind PG G.w K} {pos} {R : List V → AS → Prop} (h : R [] σ) : TR G c (fun env => evalPairs (pairTrees [] [] env pos)) (PRel G knd []) m σ R X := fun A env ρ hh tk z Q E ok S hQ hX =>
  wpAny_pure (hQ ρ hh tk [] [] σ h S (.refl (Nat.le_refl _)) ⟨[], trivial, rfl, .nil⟩)
theorem dp_cons {K : Type} [DecidableEq K] {knd : KeyKind PG G.w K} {pos k ks e es kx ks'} {R : List V → AS → Prop} (hk : ∀ A env h tk z (Q : Value → Shared → Prop) (E : Value → Shared → Prop), (∀ v tk', knd.is kx v = true → Q v (sh z h tk')) → wpAny (model PG G.w) A (eval k env) Q E (sh z h tk))
    (h : AE G c e m σ (fun u σ1 => TR G c (fun env => evalPairs (pairTrees ks es env pos)) (PRel G knd ks') m σ1 (fun us σ2 => R (u :: us) σ2) X) X) : TR G c (fun env => evalPairs (pairTrees (some k :: ks) (e :: es) env pos)) (PRel G knd (kx :: ks')) m σ R X := by
  intro A env ρ hh tk z Q E ok S hQ hX
  show wpAny _ A (evalPairs ((eval k env, do let x ← eval e env; standAt pos; pure x) :: pairTrees ks es env pos)) Q E _
  unfold evalPairs
  refine wpAny_bind (hk A env hh tk z _ _ fun kv tk' hkv => ?_)
  refine wpAny_bind (wpAny_holding (wpAny_bind ?_))
  refine h A env ρ hh tk' z _ _ ok S (fun ρ1 h1 tk1 u a σ1 k1 S1 x1 r1 => wpAny_bind (wpAny_standAt (wpAny_pure ?_))) hX
  refine wpAny_bind (wpAny_holding ?_)
  refine k1 A env ρ1 h1 tk1 z _ _ ok S1 (fun ρ2 h2 tk2 us ps σ2 k2 S2 x2 r2 => wpAny_pure ?_) fun ρ2 h2 tk2 v e σ2 k2 S2 x2 f2 => hX ρ2 h2 tk2 v e σ2 k2 S2 (x1.trans (x2.mono x1.len)) (f2.mono x1.old)
  obtain ⟨kvs, c1, c2, c3⟩ := r2
  exact hQ ρ2 h2 tk2 _ _ σ2 k2 S2 (x1.trans (x2.mono x1.len)) ⟨(kx, a) :: kvs, ⟨hkv, rfl, c1⟩, by rw [List.map_cons, c2], .cons (r1.ext x2) c3⟩
theorem key_str {x kk kp} {A env h tk z} {Q : Value → Shared → Prop} {E : Value → Shared → Prop} (q : ∀ v tk', (strKind PG G.w).is x v = true → Q v (sh z h tk')) : wpAny (model PG G.w) A (eval (.Constant (.str x) kk kp) env) Q E (sh z h tk) :=
  wpAny_Constant_str (q _ _ (str_is x tk))
theorem key_int {x kk kp} {A env h tk z} {Q : Value → Shared → Prop} {E : Value → Shared → Prop} (q : ∀ v tk', (intKind PG G.w).is x v = true → Q v (sh z h tk')) : wpAny (model PG G.w) A (eval (.Constant (.int x) kk kp) env) Q E (sh z h tk) :=
  wpAny_Constant_int (q _ _ (show Value.isInt x (.int x tk) = true from by simp [Value.isInt]))

theorem dict_run {K : Type} [DecidableEq K] (knd : KeyKind PG G.w K) {keys values pos ks} (hall : keys.all (·.isSome) = true) (hl : keys.length = values.length) (h0 : keys ≠ []) (hlen : keys.length ≤ 15) {R : List V → AS → Prop}
    (h : TR G c (fun env => evalPairs (pairTrees keys values env pos)) (PRel G knd ks) m σ R X) (nd : ks.Nodup) {A env ρ hh tk z Q E} (ok : Ok G c A env) (S : St G A env ρ m σ hh)
    (hQ : ∀ (ρ' : Rho) h' tk' us σ' d kvs, R us σ' → St G A env (ρ'.cA [d]) m σ' h' → Ext ρ.l.length ρ hh ρ' h' → hh.get? d = none → h'.DictOf knd d kvs → kvs.map (·.1) = ks → VRs G.EC (ρ'.cA [d]) h' us (kvs.map (·.2)) → Q (.ref d) (sh z h' tk'))
    (hX : ∀ ρ' h' tk' v e σ', X v σ' → St G A env ρ' m σ' h' → Ext ρ.l.length ρ hh ρ' h' → Fly G (fl0 env.locals) ρ' hh h' e v → E (.ref e) (sh z h' tk')) :
    wpAny (model PG G.w) A (eval (.Dict keys values pos) env) Q E (sh z hh tk) := by
  have up : ∀ b o, hh.get? b = some o → (hh.push { cls := .type "dict", data := .dict #[] }).get? b = some o := fun b o e => Heap.get?_push_of_some _ e
  have hd0 : (hh.push { cls := .type "dict", data := .dict #[] }).get? hh.objs.size = some { cls := .type "dict", data := .dict #[] } := Heap.get?_push_size _ rfl
  have hf : ∀ b ∈ [hh.objs.size], hh.get? b = none ∧ ∃ o, (hh.push { cls := .type "dict", data := .dict #[] }).get? b = some o := fun b q => by
    obtain rfl := List.mem_singleton.mp q
    exact ⟨get_size, _, hd0⟩
  have hf' : ∀ b ∈ [hh.objs.size], hh.get? b = none := fun b q => (hf b q).1
  have nc0 : ∀ b ∈ [hh.objs.size], ∀ c, ¬(hh.push { cls := .type "dict", data := .dict #[] }).IsCell b c := fun b q c ⟨o, e, d⟩ => by
    obtain rfl := List.mem_singleton.mp q
    rw [hd0] at e; cases e; cases d
  refine wpAny_Dict_walk (knd := knd) hall hl h0 hlen ?_
  have SA := S.takeA up hf (by simp)
  refine h A env (ρ.cO [hh.objs.size]) _ tk z _ _ ok (SA.AtoO nc0) (fun ρ1 h1 tk1 us ps σ1 k1 S1 x1 r1 => ?_) fun ρ1 h1 tk1 v e σ1 k1 S1 x1 f1 => ?_
  · have e1 : ρ1 = ({ ρ1 with co := ρ.co } : Rho).cO [hh.objs.size] := eta_cO x1.co
    generalize hr1 : ({ ρ1 with co := ρ.co } : Rho) = r1' at e1
    have co1 : r1'.co = ρ.co := by rw [← hr1]
    subst e1
    have hd1 : h1.get? hh.objs.size = some { cls := .type "dict", data := .dict #[] } := x1.keep _ _ hd0 (.inr (.head _)) (.inr (.head _))
    obtain ⟨kvs, c1, c2, c3⟩ := r1
    refine ⟨kvs, c1, ?_, fun h' hD hs => ?_⟩
    · have := Heap.DictOf.new (knd := knd) hh
      obtain ⟨o, es, ep, e, r⟩ := this
      rw [hd0] at e; cases e
      exact ⟨_, es, ep, hd1, r⟩
    · have hmk : merged [] kvs = kvs := merged_nil_of_nodup kvs (c2 ▸ nd)
      rw [hmk] at hD
      have nc1 : ∀ b ∈ [hh.objs.size], ∀ c, ¬h1.IsCell b c := fun b q c ⟨o, e, d⟩ => by
        obtain rfl := List.mem_singleton.mp q
        rw [hd1] at e; cases e; cases d
      have kb : ∀ b o, b ∉ [hh.objs.size] → h1.get? b = some o → h'.get? b = some o := fun b o q e => hs.extBut b o (fun w => q (by simp [w])) e
      obtain ⟨S2, x2⟩ := S1.OtoA.stepA kb (fun b q => by
        obtain rfl := List.mem_singleton.mp q
        obtain ⟨o, _, _, e, _⟩ := hD
        exact ⟨o, e⟩) nc1
      have x12 : Ext ρ.l.length (ρ.cA [hh.objs.size]) _ (r1'.cA [hh.objs.size]) h1 := x1.OtoA co1
      have x13 := (x12.trans (x2.mono x12.len)).fromA up hf' x1.cc
      refine hQ r1' h' _ us σ1 _ kvs k1 S2 x13 get_size hD c2 ?_
      exact (c3.tra (⟨fun _ _ e => e, fun _ _ e => e, fun b q => .inl ((cAO b).mp q), fun b o e _ _ => e, fun b o e _ v => ⟨o, e, rfl, rfl, v⟩⟩ : Tra (r1'.cO [hh.objs.size]) h1 (r1'.cA [hh.objs.size]) h1)).ext x2
  · have e1 : ρ1 = ({ ρ1 with co := ρ.co } : Rho).cO [hh.objs.size] := eta_cO x1.co
    generalize hr1 : ({ ρ1 with co := ρ.co } : Rho) = r1' at e1
    have co1 : r1'.co = ρ.co := by rw [← hr1]
    subst e1
    have hd1 : h1.get? hh.objs.size = some { cls := .type "dict", data := .dict #[] } := x1.keep _ _ hd0 (.inr (.head _)) (.inr (.head _))
    have nc1 : ∀ b ∈ [hh.objs.size], ∀ c, ¬h1.IsCell b c := fun b q c ⟨o, e, d⟩ => by
      obtain rfl := List.mem_singleton.mp q
      rw [hd1] at e; cases e; cases d
    have x12 : Ext ρ.l.length (ρ.cA [hh.objs.size]) _ (r1'.cA [hh.objs.size]) h1 := x1.OtoA co1
    exact hX r1' h1 tk1 v e σ1 k1 (S1.OtoA.dropA nc1).1 (x12.fromA up hf' x1.cc) ((f1.mono fun b o e => ⟨o, up b o e⟩).tra (fun b q => (cO_own b).mpr (.inr q)) tra_OA)
end
end Mine
end
section
open PySem PySem.W PyProof.Rows PySem.Calls PySem.Spec PySem.SeqAt
set_option maxRecDepth 10000
namespace Mine
theorem zipR {EC ρ h} : ∀ {ks : List Str} {us : List V} {kvs : List (Str × Value)}, kvs.map (·.1) = ks → VRs EC ρ h us (kvs.map (·.2)) → MapR EC ρ h (ks.zip us) kvs := by
  intro ks
  induction ks with
  | nil =>
    intro us kvs e r
    have : kvs = [] := by simpa using e
    subst this
    exact ⟨rfl, fun i a b q => by simp at q⟩
  | cons k ks ih =>
    intro us kvs e r
    cases kvs with
    | nil => simp at e
    | cons p kvs =>
      rw [List.map_cons] at e r
      obtain ⟨e1, e2⟩ := List.cons.inj e
      cases us with
      | nil => have := r.1; simp at this
      | cons u us =>
        have i := ih e2 r.tail
        rw [List.zip_cons_cons]
        exact ⟨by simp [i.1], fun j a b q1 q2 => by
          cases j with
          | zero => cases q1; cases q2; exact ⟨e1, r.head⟩
          | succ j => exact i.2 j a b q1 q2⟩
section
variable {G : Gd} {c : Cx} {m : Loc} {σ : AS} {K : V → AS → Prop} {X : V → AS → Prop}
theorem valueAt_int {EC ρ h} : ∀ {ks : List Int} {us : List V} {kvs : List (Int × Value)} {k : Int} {u}, kvs.map (·.1) = ks → VRs EC ρ h us (kvs.map (·.2)) → (ks.zip us).lookup k = some u → ∃ a, valueAt kvs k = some a ∧ VR EC ρ h u a := by
  intro ks
  induction ks with
  | nil => intro us kvs k u _ _ e; cases e
  | cons k0 ks ih =>
    intro us kvs k u e r q
    cases kvs with
    | nil => simp at e
    | cons p kvs =>
      rw [List.map_cons] at e r
      obtain ⟨e1, e2⟩ := List.cons.inj e
      cases us with
      | nil => have := r.1; simp at this
      | cons v us =>
        rw [List.zip_cons_cons, List.lookup_cons] at q
        unfold valueAt
        rw [List.find?_cons]
        by_cases w : k = k0
        · rw [beq_iff_eq.mpr w] at q
          cases q
          rw [show decide (p.1 = k) = true from decide_eq_true (e1.trans w.symm)]
          exact ⟨_, rfl, r.head⟩
        · rw [beq_eq_false_iff_ne.mpr w] at q
          rw [show decide (p.1 = k) = false from decide_eq_false fun w' => w (w'.symm.trans e1)]
          exact ih e2 r.tail q
theorem e_idict {keys values dpos slice pos ks} (h : TR G c (fun env => evalPairs (pairTrees keys values env dpos)) (PRel G (intKind PG G.w) ks) m σ (fun us σ1 => (∀ u ∈ us, LF u) ∧ AE G c slice m σ1 (fun i σ2 => ∃ k u, i = .int k ∧ (ks.zip us).lookup k = some u ∧ K u σ2) X) X) (nd : ks.Nodup)
    (hall : keys.all (·.isSome) = true) (hl : keys.length = values.length) (h0 : keys ≠ []) (hlen : keys.length ≤ 15)
    (hs : ∀ a k t, subscripted slice false (.ref a) (.int k t) = operate [.ref a, .int k t] (getItem (.ref a) (.int k t)) := by intro _ _ _; with_unfolding_all rfl) : AE G c (.Subscript (.Dict keys values dpos) slice pos) m σ K X := by
  intro A env ρ hh tk z Q E ok S hQ hX
  refine Subscript_ (dict_run (intKind PG G.w) hall hl h0 hlen h nd ok S (fun ρ' h' tk' us σ' d kvs k S' x hd hD hk r => ?_) hX)
  obtain ⟨lf, k⟩ := k
  have nc : ∀ b ∈ [d], ∀ c, ¬h'.IsCell b c := fun b q c ⟨o, e, q'⟩ => by
    obtain rfl := List.mem_singleton.mp q
    obtain ⟨o', es, ep, e', _, q'', _⟩ := hD
    rw [e] at e'; cases e'
    rw [q'] at q''; cases q''
  obtain ⟨S1, t1⟩ := S'.dropA nc
  have hnown : ¬ρ'.own d := fun q => by
    have d' : (ρ'.fr ++ (([d] ++ ρ'.cc) ++ (ρ'.co ++ (ρ'.w ++ ρ'.l.filterMap id)))).Nodup := S'.nodup
    have p : (ρ'.fr ++ (([d] ++ ρ'.cc) ++ (ρ'.co ++ (ρ'.w ++ ρ'.l.filterMap id)))).Perm (d :: (ρ'.fr ++ (ρ'.cc ++ (ρ'.co ++ (ρ'.w ++ ρ'.l.filterMap id))))) := by
      rw [List.append_assoc [d]]
      exact List.perm_middle
    rw [p.nodup_iff, List.nodup_cons] at d'
    apply d'.1
    simp only [List.mem_append, List.mem_filterMap, id, exists_eq_right]
    exact q
  refine k A env ρ' h' tk' z _ _ ok S1 (fun ρ2 h2 tk2 i b σ2 k2 S2 x2 r2 => ?_) fun ρ2 h2 tk2 v e σ2 k2 S2 x2 f2 => hX ρ2 h2 tk2 v e σ2 k2 S2 (x.trans (x2.mono x.len)) (f2.mono x.old)
  obtain ⟨kk, u, rfl, hu, k2⟩ := k2
  cases r2
  rename_i tn
  have hD2 : h2.DictOf (intKind PG G.w) d kvs := by
    obtain ⟨o, es, ep, e, ed, eq, r⟩ := hD
    exact ⟨o, es, ep, x2.keep d o e (.inl hnown) (.inl (nv_dict eq)), ed, eq, r⟩
  obtain ⟨a, e1, e2⟩ := valueAt_int hk (r.tra t1) hu
  have lfu : LF u := lf u (by
    have : ∀ (ks : List Int) (us : List V), (ks.zip us).lookup kk = some u → u ∈ us := by
      intro ks
      induction ks with
      | nil => intro us q; cases q
      | cons k0 ks ih =>
        intro us q
        cases us with
        | nil => cases q
        | cons v us =>
          rw [List.zip_cons_cons, List.lookup_cons] at q
          split at q
          · cases q; exact .head _
          · exact .tail _ (ih us q)
    exact this ks us hu)
  refine tail_any (T := "dict") (Heap.DictOf.typeIs (knd := intKind PG G.w) (s := sh z h2 tk2) hD2) slot_dict_getitem.lookup (wpAny_getItem_of (knd := intKind PG G.w) (k := kk) (show Value.isInt kk (.int kk tn) = true from by simp [Value.isInt]) hD2.mapOf e1 ?_) (hs _ _ _)
  exact hQ ρ2 h2 _ u a σ2 k2 S2 (x.trans (x2.mono x.len)) (e2.ext x2)
end
end Mine
end
section
open PySem PySem.W PyProof.Rows PySem.Calls PySem.Spec PySem.SeqAt
set_option maxRecDepth 10000
namespace Mine
theorem tc_frames (A : Around) (C : Addr) (vals : List Value) : (A.under (.builtin "type.__call__" ⟨.ref C :: vals, []⟩)).frames = A.frames := by
  show pushEnvs [] A.frames = A.frames
  unfold pushEnvs
  cases A.frames <;> rfl
section
variable {G : Gd} {c : Cx} {A A' : Around} {env : Env} {ρ : Rho} {m : Loc} {σ : AS} {h : Heap}
theorem St.chA (S : St G A env ρ m σ h) (e : A'.frames = A.frames) : St G A' env ρ m σ h :=
  ⟨S.base, S.low, S.fl, let ⟨o, q, F⟩ := S.frs; ⟨o, e.trans q, F⟩, S.hown, S.nodup, S.loc, S.cel, S.cun, S.wl, S.ll, S.cw, S.cl⟩
theorem Ok.to {d} (ok : Ok G c A env) (hd : c.d = d + 1) (h1 : A'.depth ≤ A.depth + 1) (h2 : A'.units ≤ A.units + 10) (h3 : A'.handled = A.handled) : Ok G { c with d := d } A' env := by
  have r := ok.room
  have u := ok.units
  rw [hd] at r u
  exact ⟨ok.cd, ok.cinj, ok.env, ok.kind, by show A'.depth + 3 * d + 3 < _; omega, by show A'.units + 20 * d + 100 < _; omega, fun q => h3.trans (ok.hn q), ok.gd⟩
end
structure ClK (G : Gd) (C f : Addr) (fd : FD) (xs : List Str) : Prop where
  fn : FnK G f fd xs
  keep : keepIn G.K (.ref C) = true
  makes : makesIn G.K C = true
  init : findIn G.K (.ref C) "__init__" = some (some (.ref f))
  ty : typeIn G.K (.ref f) = some (.type "function")
section
variable {G : Gd} {c : Cx} {m : Loc} {σ : AS} {K : V → AS → Prop} {X : V → AS → Prop}
noncomputable abbrev MK (G : Gd) (C : Addr) (fd : FD) (xs : List Str) (vs : List V) (σ : AS) (d : Nat) (hn : Bool) (K : V → AS → Prop) (X : V → AS → Prop) : Prop :=
  FT G fd xs (.l (σ.l.length + 1) :: vs) { σ with l := σ.l ++ [.dict [], .inst C (.l σ.l.length)] } d hn (fun v σ2 => v = .none ∧ K (.l (σ.l.length + 1)) σ2) X
theorem make_run {C f fd xs vs vals d} (F : ClK G C f fd xs) (hd : c.d = d + 2) {A env ρ h tk z} (ok : Ok G c A env) (S : St G A env ρ m σ h) (hv : VRs G.EC ρ h vs vals) (hl : vs.length + 1 = xs.length) (body : MK G C fd xs vs σ d c.hn K X)
    {Q : Value → Shared → Prop} {E : Value → Shared → Prop} (hQ : ∀ ρ' h' tk' v a σ', K v σ' → St G A env ρ' m σ' h' → Ext ρ.l.length ρ h ρ' h' → VR G.EC ρ' h' v a → Q a (sh z h' tk'))
    (hE : ∀ ρ' h' tk' v e σ', X v σ' → St G A env ρ' m σ' h' → Ext ρ.l.length ρ h ρ' h' → Fly G (fl0 env.locals) ρ' h h' e v → E (.ref e) (sh z h' tk')) :
    wpAny (model PG G.w) A (call (.ref C) vals) Q E (sh z h tk) := by
  have X' := S.inK ok.gd.X
  have e0 : emptyDict = dictOf [] 0 := rfl
  obtain ⟨S1, x1, r1⟩ := S.newL (c := .dict []) (h' := h.push emptyDict) get_size (fun b o e => Heap.get?_push_of_some _ e) ⟨_, Heap.get?_push_size _ rfl⟩ fun x => ⟨[], 0, Heap.get?_push_size _ rfl, .nil⟩
  obtain ⟨ρ1, hρ1⟩ : ∃ ρ1, ρ1 = ({ ρ with l := ρ.l ++ [some h.objs.size] } : Rho) := ⟨_, rfl⟩
  rw [← hρ1] at S1 x1 r1
  obtain ⟨ρ2, S2, x2, r2⟩ : ∃ ρ2, St G A env ρ2 m { w := σ.w, l := σ.l ++ [Cell.dict []] ++ [Cell.inst C (.l σ.l.length)] } ((h.push emptyDict).push (instObj C h.objs.size)) ∧ Ext ρ1.l.length ρ1 (h.push emptyDict) ρ2 ((h.push emptyDict).push (instObj C h.objs.size)) ∧
      VR G.EC ρ2 ((h.push emptyDict).push (instObj C h.objs.size)) (.l (σ.l ++ [Cell.dict []]).length) (.ref (h.push emptyDict).objs.size) :=
    ⟨_, S1.newL (c := .inst C (.l σ.l.length)) (h' := (h.push emptyDict).push (instObj C h.objs.size)) get_size (fun b o e => Heap.get?_push_of_some _ e) ⟨_, Heap.get?_push_size _ rfl⟩ fun x => ⟨h.objs.size, r1.ext x, Heap.get?_push_size _ rfl⟩⟩
  have hs : (h.push emptyDict).objs.size = h.objs.size + 1 := Heap.size_push ..
  have x12 := x1.trans (x2.mono x1.len)
  have hll : (σ.l ++ [Cell.dict []]).length = σ.l.length + 1 := by simp
  have es : ({ w := σ.w, l := σ.l ++ [Cell.dict []] ++ [Cell.inst C (.l σ.l.length)] } : AS) = { σ with l := σ.l ++ [.dict [], .inst C (.l σ.l.length)] } := by simp
  rw [es] at S2
  have S2' := S2.chA (A' := A.under (.builtin "type.__call__" ⟨.ref C :: vals, []⟩)) (tc_frames A C vals)
  rw [hll, hs] at r2
  have ok1 : Ok G { c with d := d + 1 } (A.under (.builtin "type.__call__" ⟨.ref C :: vals, []⟩)) env := ok.to (by rw [hd]) (Nat.le_refl _) (by show A.units + 1 ≤ _; omega) rfl
  refine wpAny_call (make_core (makes_of X' F.makes) (looks_findIn X' F.init) (fun self => bind_fn X' self F.ty) (.inl rfl) ?_)
  obtain ⟨oc, od, dV, kV, doc, pm, an, cdv, ct, osl, e1, e2, e3⟩ := F.fn.look
  have X2 := S2'.inK ok.gd.X
  have hv2 : VRs G.EC _ ((h.push emptyDict).push (instObj C h.objs.size)) (.l (σ.l.length + 1) :: vs) (.ref (h.objs.size + 1) :: vals) := .cons r2 (hv.ext x12)
  refine callG (es := []) (c := { c with d := d + 1 }) ok1 S2' rfl (X2 _ _ e1) rfl (codeRec_of X2 e2) (e3 _ _ (by rw [List.length_cons, ← hv.1, hl])) hv2 F.fn.nd F.fn.loc (fun _ _ e => by cases e) F.fn.cell F.fn.co F.fn.gen F.fn.kind (K := fun v σ2 => v = .none ∧ K (.l (σ.l.length + 1)) σ2) (X := X) (by rw [List.append_nil]; exact body) (fun ρ' h' tk' v a σ' q S' x' r => ?_) fun ρ' h' tk' v e σ' q S' x' f => ?_
  · obtain ⟨rfl, q⟩ := q
    cases r
    exact ⟨rfl, hQ ρ' h' tk' _ _ σ' q (S'.chA (tc_frames A C vals).symm) (x12.trans (x'.mono x12.len)) (r2.ext x')⟩
  · exact hE ρ' h' tk' v e σ' q (S'.chA (tc_frames A C vals).symm) (x12.trans (x'.mono x12.len)) (f.mono x12.old fun _ q => fl0_no q)
theorem e_cls {x px args pos C f fd xs d} (F : ClK G C f fd xs) (hx : nsIn G.K mainGlobals x = some (some (.ref C))) (hk : c.scope.names.lookup x = some .globalImplicit) (hd : c.d = d + 2)
    (h : AS' G c args pos m σ (fun vs σ1 => vs.length + 1 = xs.length ∧ MK G C fd xs vs σ1 d c.hn K X) X) (ha : ∀ env, (backTo pos (starEach args env)).any (·.1) = false := by intro _; rfl) (hxd : (x == ("__debug__" : Str)) = false := by decide) : AE G c (.Call (.Name x px) args [] pos) m σ K X := by
  intro A env ρ hh tk z Q E ok S hQ hX
  refine Call_ ?_
  refine e_glob (K := fun v σ1 => v = .cst (.ref C) ∧ σ1 = σ) hx hk rfl ⟨rfl, rfl⟩ hxd A env ρ hh tk z _ _ ok S (fun ρ1 h1 tk1 v a σ1 k1 S1 x1 r1 => ?_) hX
  obtain ⟨rfl, rfl⟩ := k1
  cases r1
  refine callWith_fn F.keep (ha env) ?_
  refine h A env ρ1 h1 tk1 z _ _ ok S1 (fun ρ2 h2 tk2 vs vals σ2 k2 S2 x2 r2 => ⟨S2.inK ok.gd.X, ?_⟩) fun ρ2 h2 tk2 v e σ2 k2 S2 x2 f2 => hX ρ2 h2 tk2 v e σ2 k2 S2 (x1.trans (x2.mono x1.len)) (f2.mono x1.old)
  rw [List.nil_append]
  have x3 := x1.trans (x2.mono x1.len)
  exact make_run F hd ok S2 r2 k2.1 k2.2 (fun ρ3 h3 tk3 v a σ3 k3 S3 x4 r3 => hQ ρ3 h3 tk3 v a σ3 k3 S3 (x3.trans (x4.mono x3.len)) r3)
    fun ρ3 h3 tk3 v e σ3 k3 S3 x4 f4 => hX ρ3 h3 tk3 v e σ3 k3 S3 (x3.trans (x4.mono x3.len)) (f4.mono x3.old)
end
end Mine
end
section
open PySem PySem.W PyProof.Rows PySem.Calls PySem.Spec PySem.SeqAt PySem.Builtin PySem.Builtin.ObjectAttr
set_option maxRecDepth 10000
namespace Mine
theorem refuse_exc (self : Value) (C : Addr) : refuseLoop self "__setattr__" [.ref C, .type "Exception", .type "BaseException", .type "object"] = pure () := by
  rw [refuseLoop_ref]
  kernel_rfl
@[reducible] noncomputable def excObj (C : Addr) (d : Option Addr) (vs : Array Value) : Obj := { cls := .ref C, dict := d, data := .fields vs }
noncomputable def excOk (K : Frag) (C : Addr) : Bool := ((clsIn K C).any fun cd => cd.mro == [.ref C, .type "Exception", .type "BaseException", .type "object"] && cd.hasDict) && (findIn K (.ref C) "__setattr__" == some (some (.builtin "object.__setattr__"))) && (mroIn K C (.type "object") == some true)
section
variable {G : Gd} {c : Cx} {m : Loc} {σ : AS}
theorem typ_exc {w : World} {h : Heap} {x C : Addr} {d vs} (e : h.get? x = some (excObj C d vs)) : Looks (model PG w) h (typeOf (.ref x)) (.ref C) := (Looks.ld (part := none) e).andThen .now
theorem osx_open {K : Frag} {w : World} {A : Around} {h : Heap} {z : Shared} {tk t : Tok} {x C : Addr} {d vs nm v} {R : Result → Shared → Prop} (X : K.In h) (e : h.get? x = some (excObj C d vs)) (ok : excOk K C = true) (ht : takerIn K C nm = some none)
    (q : ∀ b, wpAny (model PG w) A.in1 (storeInOwnDict (.ref x) (.ref C) (.str nm t) nm v b) (fun fin s' => match fin with | .done f => R (.ok f) s' | .again c' => c'.quiet = true ∧ codeAny (model PG w) A c' R s') (fun e s' => R (.error e) s') (sh z h tk)) :
    codeAny (model PG w) A (.call (.builtin "object.__setattr__") ⟨[.ref x, .str nm t, v], []⟩) R (sh z h tk) := by
  simp only [excOk, Bool.and_eq_true, beq_iff_eq] at ok
  obtain ⟨⟨o1, o2⟩, o3⟩ := ok
  obtain ⟨cd, hc, o1⟩ := any_some o1
  simp only [Bool.and_eq_true, beq_iff_eq] at o1
  have T := typ_exc (w := w) e
  have SF := PySem.F.store_object
  have sub : Looks (model PG w) h (isInstance (.ref x) (.type "object")) true := T.andThen (looks_mroIn X o3)
  refine codeAny_call_builtin SF.slot.plain SF.entry (@check_slot (model PG w) _ _ (sh z h tk) "object.__setattr__" "object" "__setattr__" (.ref x) [.str nm t, v] [] _ SF.kind SF.split sub (SF.args (.ref x) (.str nm t) v) ?_)
  obtain ⟨attr, ha, hr⟩ := Option.bind_eq_some_iff.mp ht
  have hm : Looks (model PG w) h (mroOf (.ref C)) cd.mro := (looks_clsIn X hc).andThen .now
  have L3 : Looks (model PG w) h (storeTaker? attr) none := by
    cases attr with
    | none => exact .now
    | some a =>
      obtain ⟨b, hb, hb'⟩ := Option.map_eq_some_iff.mp hr
      refine (looks_takesIn X hb).andThen ?_
      cases b with
      | false => exact .now
      | true => cases hb'
  rw [osa_eq, refuse_eq]
  refine wpAny_bind (wpAny_bind (T.here (s := sh z h tk) (wpAny_bind (hm.here (s := sh z h tk) ?_))))
  rw [o1.1, refuse_exc]
  exact wpAny_pure (wpAny_bind (T.here (s := sh z h tk) (wpAny_bind ((looks_findIn X ha).here (s := sh z h tk) (wpAny_bind (L3.here (s := sh z h tk) (q _)))))))
theorem storeIn_run {w : World} {A : Around} {h : Heap} {z : Shared} {tk t : Tok} {dx : Addr} {des : List DictEntry} {n : Nat} {nm v} {Q : Fin → Shared → Prop} {E : Value → Shared → Prop} (e : h.get? dx = some (dictOf des n)) (hl : (getL nm des).isSome = true)
    (hz : (putL nm (PyData.keyHash w.params nm) (.str nm tk) v des).length ≤ 1000)
    (q : ∀ h' n', Heap.SameBut dx h h' → h'.get? dx = some (dictOf (putL nm (PyData.keyHash w.params nm) (.str nm tk) v des) n') → Q (.done (.ret .none)) (sh z h' (tk + 1))) : wpAny (model PG w) A (storeInDict dx (.str nm t) nm v) Q E (sh z h tk) := by
  unfold storeInDict
  refine wpAny_bind (wpAny_pure (wpAny_bind ?_))
  unfold nsSet
  refine wpAny_bind (wpAny_bind (wpAny_askSetting (wpAny_pure (wpAny_bind (wpAny_mkText (wpAny_bind (wpAny_loadPart (s := sh z h (tk + 1)) e ?_)))))))
  dsimp only
  have c : (!des.toArray.any (·.key.isStr nm) && des.toArray.any (·.refKey)) = false := by
    rw [← Array.any_toList, ← Array.any_toList]
    unfold getL at hl
    split at hl
    · rename_i en he
      rw [List.any_eq_true.mpr ⟨en, List.mem_of_find?_eq_some he, List.find?_some he⟩]; rfl
    · split at hl
      · cases hl
      · rename_i z; rw [Bool.not_eq_true] at z
        have : des.toArray.toList.any (·.refKey) = false := z
        rw [this, Bool.and_false]
  rw [aRefKeyMayBeTheName_at, c]
  refine wpAny_updatePart (s := sh z h (tk + 1)) e ?_
  have hp := putName_dict nm (PyData.keyHash w.params nm) (.str nm tk) v des n
  have D' : (h.update dx (Obj.putName nm (PyData.keyHash w.params nm) (.str nm tk) v)).get? dx = some (dictOf (putL nm (PyData.keyHash w.params nm) (.str nm tk) v des) (putN nm des n)) := by
    have := Heap.get?_update_self (Obj.putName nm (PyData.keyHash w.params nm) (.str nm tk) v) e (by rw [hp]; rfl)
    rw [hp] at this; exact this
  refine wpAny_bind (wpAny_lookBehind (s := sh z (h.update dx (Obj.putName nm (PyData.keyHash w.params nm) (.str nm tk) v)) (tk + 1)) D' (pastItsLine_dict (by rw [List.size_toArray, sizeLine_eq]; omega)) ?_)
  exact wpAny_pure (q _ _ (Heap.SameBut.update ..) D')
end
end Mine
end
section
open PySem PySem.W PyProof.Rows PySem.Calls PySem.Spec PySem.SeqAt PySem.Builtin PySem.Builtin.ObjectAttr
set_option maxRecDepth 10000
namespace Mine
section
variable {G : Gd} {c : Cx} {m : Loc} {σ : AS} {K : Fl → Loc → AS → Prop} {X : V → Loc → AS → Prop}
theorem has_dict {K : Frag} {C : Addr} (ok : excOk K C = true) : ∃ cd, clsIn K C = some cd ∧ cd.hasDict = true := by
  simp only [excOk, Bool.and_eq_true, beq_iff_eq] at ok
  obtain ⟨⟨o1, _⟩, _⟩ := ok
  obtain ⟨cd, hc, o1⟩ := any_some o1
  simp only [Bool.and_eq_true, beq_iff_eq] at o1
  exact ⟨cd, hc, o1.2⟩
theorem setattr_exc {w : World} {A : Around} {h : Heap} {z : Shared} {tk : Tok} {x C : Addr} {K : Frag} {d vs nm v} {Q : Unit → Shared → Prop} {E : Value → Shared → Prop} (X : K.In h) (e : h.get? x = some (excObj C d vs)) (ok : excOk K C = true) (ht : takerIn K C nm = some none)
    (q : ∀ b, wpAny (model PG w) A.in1 (storeInOwnDict (.ref x) (.ref C) (.str nm tk) nm v b) (fun fin s' => fin = .done (.ret .none) ∧ Q () s') (fun e s' => E e s') (sh z h (tk + 1))) :
    wpAny (model PG w) A (setAttr (.ref x) nm v) Q E (sh z h tk) := by
  have ok' := ok
  simp only [excOk, Bool.and_eq_true, beq_iff_eq] at ok'
  obtain ⟨⟨o1, o2⟩, o3⟩ := ok'
  have T := typ_exc (w := w) e
  refine wpAny_bind (wpAny_mkText (wpAny_bind (wpAny_bind (wpAny_bind (T _ _ _ _ (fun _ _ e => e) (looks_findIn X o2 _ _ _ _ (fun _ _ e => e) (wpAny_holding ?_)))))))
  rw [PySem.F.store_object.slot.bind]
  refine wpAny_bind (wpAny_pure (wpAny_bind (wpAny_call (osx_open X e ok ht fun b => ?_))))
  refine PySem.wpAny_mono (q b) (fun fin s' hq => ?_) fun _ _ x => x
  obtain ⟨rfl, hq⟩ := hq
  exact wpAny_pure (wpAny_pure hq)
theorem s_setexc0 {o nm pt value pos} (h : AE G c value m σ (fun u σ1 => AE G c o m σ1 (fun v σ2 => ∃ i vs, v = .l i ∧ σ2.l[i]? = some (.exc vs none) ∧ excOk G.K G.EC = true ∧ takerIn G.K G.EC nm = some none ∧ K .next m { σ2 with l := σ2.l.set i (.exc vs (some (.l σ2.l.length))) ++ [.dict [(nm, u)]] }) (fun v σ2 => X v m σ2)) (fun v σ1 => X v m σ1))
    (hs : ∀ env, swapsWith value (some (.Attribute o nm pt)) pos.line env = pure false := by intro _; rfl) : S1 G c (.Assign [.Attribute o nm pt] value pos) m σ K X := by
  intro A env ρ hh tk z Q E ok S hn hQ hE
  refine plainObj_wpAny_Assign_Attribute ?_ (hs env)
  refine two (t1 := fun env => eval value env) (t2 := fun env => eval o env) vext h ok S (fun ρ' h' tk' u v a b σ' k S' x r1 r2 => ?_) fun ρ' h' tk' v e σ' k S' x f => hE ρ' h' tk' v m σ' e k S' (x.mono hn) f
  obtain ⟨i, vs, rfl, hi, hx, ht, k⟩ := k
  cases r2 with
  | @l _ xa hxa =>
    have ce : h'.get? xa = some (excObj G.EC none vs) := S'.cl i _ xa hi hxa
    refine setattr_exc (S'.inK ok.gd.X) ce hx ht fun bb => ?_
    obtain ⟨cd, hc, hd⟩ := has_dict hx
    obtain ⟨S1, x1, r3⟩ := S'.newL (c := .dict []) (h' := h'.push emptyDict) get_size (fun b o e => Heap.get?_push_of_some _ e) ⟨_, Heap.get?_push_size _ rfl⟩ fun x => ⟨[], 0, Heap.get?_push_size _ rfl, .nil⟩
    obtain ⟨ρ1, hρ1⟩ : ∃ ρ1, ρ1 = ({ ρ' with l := ρ'.l ++ [some h'.objs.size] } : Rho) := ⟨_, rfl⟩
    rw [← hρ1] at S1 x1 r3
    have il : i < σ'.l.length := (List.getElem?_eq_some_iff.mp hi).1
    have ce1 : (h'.push emptyDict).get? xa = some (excObj G.EC none vs) := Heap.get?_push_of_some _ ce
    have cx1 : cellOf ({ σ' with l := σ'.l ++ [.dict []] } : AS) (.l i) = some (.exc vs none) := by
      show (σ'.l ++ [Cell.dict []])[i]? = _
      rw [List.getElem?_append_left il]; exact hi
    have rx1 : VR G.EC ρ1 (h'.push emptyDict) (.l i) (.ref xa) := (VR.l hxa).ext x1
    have hfr : ({ excObj G.EC none vs with dict := some h'.objs.size } : Obj).isFreed = false := rfl
    have ce2 : ((h'.push emptyDict).update xa fun o => { o with dict := some h'.objs.size }).get? xa = some (excObj G.EC (some h'.objs.size) vs) := Heap.get?_update_self _ ce1 hfr
    obtain ⟨S2, x2⟩ := S1.updS (h' := (h'.push emptyDict).update xa fun o => { o with dict := some h'.objs.size }) (c' := .exc vs (some (.l σ'.l.length))) cx1 rx1 (Heap.SameBut.update ..) (fun x => ⟨h'.objs.size, r3.ext x, ce2⟩) ⟨_, ce2⟩
    have x12 := x1.trans (x2.mono x1.len)
    have hne : xa ≠ h'.objs.size := Nat.ne_of_lt (Heap.lt_size ce)
    have de : ((h'.push emptyDict).update xa fun o => { o with dict := some h'.objs.size }).get? h'.objs.size = some (dictOf [] 0) := upd_get _ (Ne.symm hne) (Heap.get?_push_size _ rfl)
    have cx2 : cellOf (putCell ({ σ' with l := σ'.l ++ [.dict []] } : AS) (.l i) (.exc vs (some (.l σ'.l.length)))) (.l σ'.l.length) = some (.dict []) := by
      show ((σ'.l ++ [Cell.dict []]).set i _)[σ'.l.length]? = _
      rw [List.getElem?_set_ne (Nat.ne_of_lt il)]
      simp
    refine wpAny_bind (wpAny_pure (wpAny_bind (wpAny_bind (wpAny_loadPart (s := sh z h' (tk' + 1)) ce (wpAny_bind ((looks_clsIn (S'.inK ok.gd.X) hc).here (s := sh z h' (tk' + 1)) ?_))))))
    rw [hd]
    show wpAny _ _ (do
      let d ← alloc { cls := Value.type "dict", data := Data.dict #[] }
      update xa fun o => { cls := o.cls, dict := some d, data := o.data, slots := o.slots }
      dictMade (.ref G.EC) xa d) _ _ _
    refine wpAny_bind (wpAny_alloc (wpAny_bind (wpAny_update (s := sh z (h'.push emptyDict) (tk' + 1)) ce1 ?_)))
    refine wpAny_of_eq (a := some h'.objs.size) rfl ?_
    refine storeIn_run de rfl (Nat.le_trans (Nat.le_of_eq (rfl : _ = 1)) (by decide)) fun h3 n3 hs3 hd3 => ⟨rfl, ?_⟩
    obtain ⟨S3, x3⟩ := S2.updS (c' := .dict [(nm, u)]) cx2 (r3.ext x2) hs3 (fun x => ⟨_, _, hd3, DictR.put (((r1.ext x12).ext x)) .nil⟩) ⟨_, hd3⟩
    have es : putCell (putCell ({ σ' with l := σ'.l ++ [.dict []] } : AS) (.l i) (.exc vs (some (.l σ'.l.length)))) (.l σ'.l.length) (.dict [(nm, u)]) = { σ' with l := σ'.l.set i (.exc vs (some (.l σ'.l.length))) ++ [.dict [(nm, u)]] } := by
      show ({ σ' with l := (((σ'.l ++ [Cell.dict []]).set i _).set σ'.l.length _) } : AS) = _
      rw [List.set_append_left _ _ il]
      rw [List.set_append_right _ _ (by simp)]
      simp
    rw [es] at S3
    have x123 := x12.trans (x3.mono x12.len)
    exact hQ ρ1 h3 _ .next m _ _ k S3 ((x.mono hn).trans (x123.mono (Nat.le_trans hn x.len))) .next
theorem s_setexc {o nm pt value pos} (h : AE G c value m σ (fun u σ1 => AE G c o m σ1 (fun v σ2 => ∃ vs d es, cellOf σ2 v = some (.exc vs (some d)) ∧ cellOf σ2 d = some (.dict es) ∧ es.length < 1000 ∧ excOk G.K G.EC = true ∧ takerIn G.K G.EC nm = some none ∧ K .next m (putCell σ2 d (.dict (putA nm u es)))) (fun v σ2 => X v m σ2)) (fun v σ1 => X v m σ1))
    (hs : ∀ env, swapsWith value (some (.Attribute o nm pt)) pos.line env = pure false := by intro _; rfl) : S1 G c (.Assign [.Attribute o nm pt] value pos) m σ K X := by
  intro A env ρ hh tk z Q E ok S hn hQ hE
  refine plainObj_wpAny_Assign_Attribute ?_ (hs env)
  refine two (t1 := fun env => eval value env) (t2 := fun env => eval o env) vext h ok S (fun ρ' h' tk' u v a b σ' k S' x r1 r2 => ?_) fun ρ' h' tk' v e σ' k S' x f => hE ρ' h' tk' v m σ' e k S' (x.mono hn) f
  obtain ⟨vs, d, es, hi, hid, hz, hx, ht, k⟩ := k
  obtain ⟨xa, rfl⟩ := cell_ref S' hi r2
  obtain ⟨da, rd, ce⟩ := cell_at S' hi r2
  obtain ⟨des, n, hd, D⟩ := cell_at S' hid rd
  refine setattr_exc (d := some da) (S'.inK ok.gd.X) ce hx ht fun bb => ?_
  obtain ⟨cd, hc, hdd⟩ := has_dict hx
  refine wpAny_bind (wpAny_pure (wpAny_bind (wpAny_bind (wpAny_loadPart (s := sh z h' (tk' + 1)) ce (wpAny_bind ((looks_clsIn (S'.inK ok.gd.X) hc).here (s := sh z h' (tk' + 1)) ?_))))))
  rw [hdd]
  refine wpAny_pure (a := some da) ?_
  have hl : (getL nm des).isSome = true := by
    cases q : es.lookup nm with
    | none => rw [dict_none D q]; rfl
    | some u => obtain ⟨_, q', _⟩ := dict_get D q; rw [q']; rfl
  have D' := DictR.put (x := nm) (tk := tk' + 1) r1 D
  refine storeIn_run (tk := tk' + 1) hd hl (by rw [← D'.1]; exact Nat.le_trans (putA_len _ _ _) hz) fun h3 n3 hs3 hd3 => ⟨rfl, ?_⟩
  obtain ⟨S3, x3⟩ := S'.updS (c' := .dict (putA nm u es)) hid rd hs3 (fun x => ⟨_, _, hd3, D'.ext x⟩) ⟨_, hd3⟩
  exact hQ ρ' h3 _ .next m _ _ k S3 ((x.mono hn).trans (x3.mono (Nat.le_trans hn x.len))) .next
end
end Mine
end
section
open PySem PySem.W PyProof.Rows PySem.Calls PySem.Spec PySem.SeqAt
set_option maxRecDepth 10000
namespace Mine
noncomputable def LFn (n : Nat) (v : V) : Prop := ∀ EC ρ1 h1 ρ2 h2 b, VR EC ρ1 h1 v b → Tra0 ρ1 h1 ρ2 h2 → (∀ (i : Nat) a, i < n → ρ1.l[i]? = some (some a) → ρ2.l[i]? = some (some a)) → VR EC ρ2 h2 v b
theorem LF.n {n v} (l : LF v) : LFn n v := fun _ _ _ _ _ _ r t _ => l _ _ _ _ _ _ r t
theorem LFn.l {n i} (h : i < n) : LFn n (.l i) := fun _ _ _ _ _ _ r _ k => by cases r with | l e => exact .l (k i _ h e)
theorem VR.bel {EC ρ h v a} (r : VR EC ρ h v a) : LFn ρ.l.length v := by
  induction r with
  | any => exact LF.any.n
  | none => exact LF.none.n
  | bool => exact LF.bool.n
  | int => exact LF.int.n
  | byt => exact LF.byt.n
  | str => exact LF.str.n
  | cst => exact LF.cst.n
  | w e => exact LF.w.n
  | l e => exact LFn.l (List.getElem?_eq_some_iff.mp e).1
  | @tup xs a n vs _ _ hl _ ih =>
    intro EC ρ1 h1 ρ2 h2 b r x k
    cases r with
    | tup e q hl2 hv =>
        refine .tup (x.keep _ _ e q (nv_seq rfl)) (x.nown e q) hl2 fun i y v e1 e2 => ?_
        have li : i < vs.length := hl ▸ (List.getElem?_eq_some_iff.mp e1).1
        exact ih i y vs[i] e1 (List.getElem?_eq_getElem li) _ _ _ _ _ _ (hv i y v e1 e2) x k
  | @lst xs a n vs _ _ hl _ ih =>
    intro EC ρ1 h1 ρ2 h2 b r x k
    cases r with
    | lst e q hl2 hv =>
        refine .lst (x.keep _ _ e q (nv_seq rfl)) (x.nown e q) hl2 fun i y v e1 e2 => ?_
        have li : i < vs.length := hl ▸ (List.getElem?_eq_some_iff.mp e1).1
        exact ih i y vs[i] e1 (List.getElem?_eq_getElem li) _ _ _ _ _ _ (hv i y v e1 e2) x k
  | ins _ _ _ _ _ _ _ ih =>
    intro EC ρ1 h1 ρ2 h2 b r x k
    cases r with
    | ins e1 e2 q1 q2 g g' hv => exact .ins (x.keep _ _ e1 q1 (nv_plain rfl)) (x.keep _ _ e2 q2 (nv_dict rfl)) (x.nown e1 q1) (x.nown e2 q2) g g' fun y v e => ih y v e _ _ _ _ _ _ (hv y v e) x k
  | clo _ _ _ _ _ _ _ _ _ _ ih =>
    intro EC ρ1 h1 ρ2 h2 b r x k
    cases r with
    | clo e1 c1 d1 q1 e2 d2 s2 q2 g hv =>
      refine .clo (x.keep _ _ e1 q1 (nv_func d1)) c1 d1 (x.nown e1 q1) (x.keep _ _ e2 q2 (nv_rec d2 s2)) d2 s2 (x.nown e2 q2) (fun y v m => ?_) fun y v e => ih y v e _ _ _ _ _ _ (hv y v e) x k
      obtain ⟨ca, o, k1, k2, k3, k4⟩ := g y v m
      exact ⟨ca, o, k1, x.keep _ _ k2 k4 (nv_cell k3), k3, x.nown k2 k4⟩
  | err _ _ _ _ _ _ _ _ _ ih =>
    intro EC ρ1 h1 ρ2 h2 b r x k
    cases r with
    | err e1 c1 dd d1 e2 q1 q2 g hv =>
      obtain ⟨o', e', k1, k2, k3⟩ := x.vol _ _ e1 q1 d1
      exact .err e' (k1.trans c1) (k2.trans dd) k3 (x.keep _ _ e2 q2 (nv_dict rfl)) (x.nown e1 q1) (x.nown e2 q2) g (ih _ _ _ _ _ _ hv x k)
noncomputable def CFn (n : Nat) : Cell → Prop
  | .list xs => ∀ x ∈ xs, LFn n x
  | .dict es => ∀ e ∈ es, LFn n e.2
  | .map es => ∀ e ∈ es, LFn n e.2
  | .ns es => ∀ x v, es.lookup x = some v → LFn n v
  | .inst _ d => LFn n d
  | .exc _ d => ∀ v, d = some v → LFn n v
  | .tab _ _ _ _ => True
theorem CellOk.bel {EC w ρ h a c} (r : CellOk EC w ρ h a c) : CFn ρ.l.length c := by
  cases c with
  | list xs =>
    obtain ⟨vs, n, _, r⟩ := r
    intro x hx
    obtain ⟨i, e⟩ := List.getElem?_of_mem hx
    obtain ⟨v, _, q⟩ := r.get e
    exact q.bel
  | dict es =>
    obtain ⟨des, n, _, r⟩ := r
    intro x hx
    obtain ⟨i, e⟩ := List.getElem?_of_mem hx
    have li : i < des.length := r.1 ▸ (List.getElem?_eq_some_iff.mp e).1
    exact (r.2 i x des[i] e (List.getElem?_eq_getElem li)).2.2.bel
  | map es =>
    obtain ⟨kvs, _, r⟩ := r
    intro x hx
    obtain ⟨i, e⟩ := List.getElem?_of_mem hx
    have li : i < kvs.length := r.1 ▸ (List.getElem?_eq_some_iff.mp e).1
    exact (r.2 i x kvs[i] e (List.getElem?_eq_getElem li)).2.bel
  | tab P p q m => trivial
  | ns es => obtain ⟨mm, _, r⟩ := r; exact fun x v e => let ⟨b, _, q⟩ := r x v e; q.bel
  | inst C d => obtain ⟨da, r, _⟩ := r; exact r.bel
  | exc vs d =>
    cases d with
    | none => exact fun v e => by cases e
    | some d => obtain ⟨da, r, _⟩ := r; exact fun v e => by cases e; exact r.bel
theorem CellOk.cut {EC w ρ h a c n ρ2 h2} (r : CellOk EC w ρ h a c) (f : CFn n c) (x : Tra0 ρ h ρ2 h2) (k : ∀ (i : Nat) a, i < n → ρ.l[i]? = some (some a) → ρ2.l[i]? = some (some a)) (e : ∀ o, h.get? a = some o → h2.get? a = some o) : CellOk EC w ρ2 h2 a c := by
  cases c with
  | list xs => obtain ⟨vs, n, q, r⟩ := r; exact ⟨vs, n, e _ q, r.1, fun i y v e1 e2 => f y (List.mem_of_getElem? e1) _ _ _ _ _ _ (r.2 i y v e1 e2) x k⟩
  | dict es => obtain ⟨des, n, q, r⟩ := r; exact ⟨des, n, e _ q, r.1, fun i y v e1 e2 => let ⟨a, b, c⟩ := r.2 i y v e1 e2; ⟨a, b, f y (List.mem_of_getElem? e1) _ _ _ _ _ _ c x k⟩⟩
  | map es => obtain ⟨kvs, q, r⟩ := r; exact ⟨kvs, q.at e, r.1, fun i y v e1 e2 => let ⟨a, c⟩ := r.2 i y v e1 e2; ⟨a, f y (List.mem_of_getElem? e1) _ _ _ _ _ _ c x k⟩⟩
  | tab P p q m =>
    cases m with
    | false => exact ⟨r.1, e _ r.2⟩
    | true => obtain ⟨eP, c, co, vs, t, e0, e1, e2, e3, e4⟩ := r; exact ⟨eP, c, co, vs, t, e _ e0, x.keep _ _ e1 e4 (nv_rec e2 e3), e2, e3, x.nown e1 e4⟩
  | ns es => obtain ⟨mm, q, r⟩ := r; exact ⟨mm, q.at' e, fun y v z => let ⟨b, z1, z2⟩ := r y v z; ⟨b, z1, f y v z _ _ _ _ _ _ z2 x k⟩⟩
  | inst C d => obtain ⟨da, r, q⟩ := r; exact ⟨da, f _ _ _ _ _ _ r x k, e _ q⟩
  | exc vs d =>
    cases d with
    | none => exact e _ r
    | some d => obtain ⟨da, r, q⟩ := r; exact ⟨da, f d rfl _ _ _ _ _ _ r x k, e _ q⟩
@[reducible] noncomputable def Rho.cut (ρ : Rho) (n : Nat) : Rho := { ρ with l := ρ.l.take n }
section
variable {G : Gd} {A : Around} {env : Env} {ρ : Rho} {m : Loc} {σ : AS} {h : Heap} {n : Nat}
theorem cut_own {b} (q : (ρ.cut n).own b) : ρ.own b := by
  rcases q with q | q | q | q | q
  · exact .inl q
  · exact .inr (.inl q)
  · exact .inr (.inr (.inl q))
  · exact .inr (.inr (.inr (.inl q)))
  · exact .inr (.inr (.inr (.inr (List.mem_of_mem_take q))))
theorem tra_cut : Tra0 ρ h (ρ.cut n) h := ⟨fun _ _ e => e, fun b q => .inl (cut_own q), fun b o e _ _ => e, fun b o e _ v => ⟨o, e, rfl, rfl, v⟩⟩
theorem cut_l (i : Nat) (a : Addr) (hi : i < n) (e : ρ.l[i]? = some (some a)) : (ρ.cut n).l[i]? = some (some a) := by
  show (ρ.l.take n)[i]? = _
  rw [List.getElem?_take, if_pos hi]; exact e
theorem St.cut (S : St G A env ρ m σ h) (hm : ∀ x v, m.lookup x = some v → (env.scope.names.lookup x = some .local ∨ env.scope.names.lookup x = some .cell ∨ env.scope.names.lookup x = some .free) → LFn n v) (hw : ∀ c ∈ σ.w, CFn n c) (hl : ∀ (i : Nat) c a, i < n → σ.l[i]? = some c → ρ.l[i]? = some (some a) → CFn n c) : St G A env (ρ.cut n) m { σ with l := σ.l.take n } h := by
  refine ⟨S.base, S.low, S.fl, let ⟨o, q, F⟩ := S.frs; ⟨o, q, F.eq, F.kd, F.ok⟩, fun a q => S.hown a (cut_own q), ?_, ?_, fun y v e q => ?_, S.cun, S.wl, by show (σ.l.take n).length = (ρ.l.take n).length; rw [List.length_take, List.length_take, S.ll], fun i c a e1 e2 => (S.cw i c a e1 e2).cut (hw c (List.mem_of_getElem? e1)) tra_cut cut_l fun o e => e, fun i c a e1 e2 => ?_⟩
  · have d : (ρ.fr ++ (ρ.cc ++ (ρ.co ++ (ρ.w ++ ρ.l.filterMap id)))).Nodup := S.nodup
    refine d.sublist ?_
    show (ρ.fr ++ (ρ.cc ++ (ρ.co ++ (ρ.w ++ (ρ.l.take n).filterMap id)))).Sublist _
    exact (List.Sublist.refl _).append ((List.Sublist.refl _).append ((List.Sublist.refl _).append ((List.Sublist.refl _).append ((List.take_sublist n ρ.l).filterMap id))))
  · obtain ⟨mm, hn, hm'⟩ := S.loc
    exact ⟨mm, hn, fun y v e q => let ⟨a, q1, q2⟩ := hm' y v e q; ⟨a, q1, hm y v e (.inl q) _ _ _ _ _ _ q2 tra_cut cut_l⟩⟩
  · obtain ⟨ca, a, q1, q2, q3, q4⟩ := S.cel y v e q
    exact ⟨ca, a, q1, q2, hm y v e (.inr q) _ _ _ _ _ _ q3 tra_cut cut_l, q4.imp_right fun q4 z => q4 (cut_own z)⟩
  · have e1' : (σ.l.take n)[i]? = some c := e1
    have e2' : (ρ.l.take n)[i]? = some (some a) := e2
    rw [List.getElem?_take] at e1' e2'
    split at e1'
    · rename_i hi
      rw [if_pos hi] at e2'
      exact (S.cl i c a e1' e2').cut (hl i c a hi e1' e2') tra_cut cut_l fun o e => e
    · cases e1'
theorem Ext.cut {n0 ρ0 h0} (x : Ext n0 ρ0 h0 ρ h) (hn : n0 ≤ n) (hl : n ≤ ρ.l.length) : Ext n0 ρ0 h0 (ρ.cut n) h :=
  ⟨x.w, x.fr, x.co, x.cc, by show n0 ≤ (ρ.l.take n).length; rw [List.length_take]; omega, fun i hi => by show (ρ.l.take n)[i]? = _; rw [List.getElem?_take, if_pos (by omega)]; exact x.l i hi, fun b q => x.own b (cut_own q), x.keep, x.vol, x.old, x.frs⟩
theorem St.belM (S : St G A env ρ m σ h) : ∀ x v, m.lookup x = some v → (env.scope.names.lookup x = some .local ∨ env.scope.names.lookup x = some .cell ∨ env.scope.names.lookup x = some .free) → LFn ρ.l.length v := fun x v e q => by
  rcases q with q | q
  · obtain ⟨mm, _, hm⟩ := S.loc
    obtain ⟨a, _, r⟩ := hm x v e q
    exact r.bel
  · obtain ⟨ca, a, _, _, r, _⟩ := S.cel x v e q
    exact r.bel
theorem St.belW (S : St G A env ρ m σ h) : ∀ c ∈ σ.w, CFn ρ.l.length c := fun c hc => by
  obtain ⟨i, e⟩ := List.getElem?_of_mem hc
  have li : i < ρ.w.length := S.wl ▸ (List.getElem?_eq_some_iff.mp e).1
  exact (S.cw i c ρ.w[i] e (List.getElem?_eq_getElem li)).bel
end
end Mine
end
section
open PySem PySem.W PyProof.Rows PySem.Calls PySem.Spec PySem.SeqAt
set_option maxRecDepth 10000
namespace Mine
theorem ns_some {K : Frag} {h : Heap} {N : Addr} {mN : Str → Option Value} {n : Str} {v : Value} (X : K.In h) (G : h.Ns N mN) (e : nsIn K N n = some (some v)) : mN n = some v := by
  obtain ⟨o, es, ep, ho, hd, _, hf⟩ := G
  unfold nsIn at e
  split at e
  · rename_i c d es' n' sl q
    have := X _ _ q
    rw [ho] at this
    cases this
    cases hd
    split at e
    · rename_i en he
      rw [← hf]
      unfold nsFind findBy
      rw [← Array.find?_toList, he]
      cases e
      rfl
    · split at e <;> cases e
  · cases e
inductive ExC (G : Gd) (f : Addr) : Prop
  | mk : ∀ nm q N bs hdct sn sub ab col dd k0 k1 k2 k3 k5, G.K.lookup G.EC = some (excClassObj nm q G.EC N bs [.type "Exception", .type "BaseException", .type "object"] hdct sn sub ab col dd k0 k1 k2 k3 k5 "Exception.__new__") → nsOkIn G.K N = true → nsIn G.K N "__init__" = some (some (.ref f)) → ExC G f
structure ExK (G : Gd) (f : Addr) (fd : FD) (xs : List Str) : Prop where
  fn : FnK G f fd xs
  keep : keepIn G.K (.ref G.EC) = true
  ok : excOk G.K G.EC = true
  ty : typeIn G.K (.ref f) = some (.type "function")
  cls : ExC G f
section
variable {G : Gd} {c : Cx} {m : Loc} {σ : AS} {K : V → AS → Prop} {X : V → AS → Prop}
noncomputable abbrev XK (G : Gd) (fd : FD) (xs : List Str) (vs : List V) (σ : AS) (d : Nat) (hn : Bool) (K : V → AS → Prop) (X : V → AS → Prop) : Prop :=
  ∀ t, FT G fd xs (.l σ.l.length :: vs) { σ with l := σ.l ++ [.exc #[.ref t, .none, .none, .none, .bool false, .none] Option.none] } d hn (fun v σ2 => v = .none ∧ K (.l σ.l.length) σ2) X
theorem exc_run {f fd xs vs vals d} (F : ExK G f fd xs) (hd : c.d = d + 2) {A env ρ h tk z} (ok : Ok G c A env) (S : St G A env ρ m σ h) (hv : VRs G.EC ρ h vs vals) (hl : vs.length + 1 = xs.length) (hz : vs.length ≤ 1000) (body : XK G fd xs vs σ d c.hn K X)
    {Q : Value → Shared → Prop} {E : Value → Shared → Prop} (hQ : ∀ ρ' h' tk' v e σ', h.get? e = none → K v σ' → St G A env ρ' m σ' h' → Ext ρ.l.length ρ h ρ' h' → VR G.EC ρ' h' v (.ref e) → Q (.ref e) (sh z h' tk'))
    (hE : ∀ ρ' h' tk' v e σ', X v σ' → St G A env ρ' m σ' h' → Ext ρ.l.length ρ h ρ' h' → Fly G (fl0 env.locals) ρ' h h' e v → E (.ref e) (sh z h' tk')) :
    wpAny (model PG G.w) A (call (.ref G.EC) vals) Q E (sh z h tk) := by
  have X' := S.inK ok.gd.X
  obtain ⟨nm, q, N, bs, hdct, sn, sub, ab, col, dd, k0, k1, k2, k3, k5, hC, hN, hi⟩ := F.cls
  obtain ⟨oc, od, dV, kV, doc, pm, an, cdv, ct, osl, e1, e2, e3⟩ := F.fn.look
  have Ns : h.Ns N (h.nsMap N) := .of_isNs (isNs_of_in X' hN)
  have hoc : oc = .type "function" := by
    have : (G.K.lookup f).map (·.cls) = some (.type "function") := F.ty
    rw [e1] at this
    exact Option.some.inj this
  refine wpAny_call_exc_init PySem.F.excBase_Exception (X' _ _ hC) Ns (ns_some X' Ns hi) (X' _ _ e1) hoc (fun h' e me => ?_) (by rw [← hv.1, sizeLine_eq]; omega)
  obtain ⟨k, nw, t, he, _, _⟩ := me
  obtain ⟨S1, x1, r1⟩ := S.newL (c := .exc #[.ref t, .none, .none, .none, .bool false, .none] none) nw k ⟨_, he⟩ fun x => he
  obtain ⟨ρ1, hρ1⟩ : ∃ ρ1, ρ1 = ({ ρ with l := ρ.l ++ [some e] } : Rho) := ⟨_, rfl⟩
  rw [← hρ1] at S1 x1 r1
  have S2 := S1.chA (A' := A.under (.builtin "type.__call__" ⟨.ref G.EC :: vals, []⟩)) (tc_frames A G.EC vals)
  have ok1 : Ok G { c with d := d + 1 } (A.under (.builtin "type.__call__" ⟨.ref G.EC :: vals, []⟩)) env := ok.to (by rw [hd]) (Nat.le_refl _) (by show A.units + 1 ≤ _; omega) rfl
  have X2 := S2.inK ok.gd.X
  have hv2 : VRs G.EC ρ1 h' (.l σ.l.length :: vs) (.ref e :: vals) := .cons r1 (hv.ext x1)
  refine wpAny_call (callG (es := []) (c := { c with d := d + 1 }) ok1 S2 rfl (X2 _ _ e1) rfl (codeRec_of X2 e2) (e3 _ _ (by rw [List.length_cons, ← hv.1, hl])) hv2 F.fn.nd F.fn.loc (fun _ _ e => by cases e) F.fn.cell F.fn.co F.fn.gen F.fn.kind (K := fun v σ2 => v = .none ∧ K (.l σ.l.length) σ2) (X := X) (by rw [List.append_nil]; exact body t) (fun ρ' h' tk' v a σ' q S' x' r => ?_) fun ρ' h' tk' v e σ' q S' x' f => ?_)
  · obtain ⟨rfl, q⟩ := q
    cases r
    exact ⟨rfl, hQ ρ' h' tk' _ _ σ' nw q (S'.chA (tc_frames A G.EC vals).symm) (x1.trans (x'.mono x1.len)) (r1.ext x')⟩
  · exact hE ρ' h' tk' v e σ' q (S'.chA (tc_frames A G.EC vals).symm) (x1.trans (x'.mono x1.len)) (f.mono x1.old fun _ q => fl0_no q)
end
end Mine
end
section
open PySem PySem.W PyProof.Rows PySem.Calls PySem.Spec PySem.SeqAt
set_option maxRecDepth 10000
namespace Mine
@[reducible] noncomputable def excFs (t : Addr) : Array Value := #[.ref t, .none, .none, .none, .bool false, .none]
section
variable {M : Model} {A : Around} {E : Value → Shared → Prop} {env : Env}
variable {nm q : Str} {C N : Addr} {bs bm : List Value} {hdct : Bool} {sn : List Str} {sub : List Value} {ab : Bool} {col : Option Bool} {dd : Option Addr} {k0 k1 k2 k3 k5 : Option Value} {newId : String}
theorem raiseStmt_exc {s : Shared} {x : Sem Value} {Q : Flow → Shared → Prop} (hbase : bm.contains (.type "BaseException") = true) (hh : A.handled = none)
    (h : wpAny M A x (fun v s₁ => ∃ e d t, v = .ref e ∧ s₁.heap.get? C = some (excClassObj nm q C N bs bm hdct sn sub ab col dd k0 k1 k2 k3 k5 newId) ∧ s₁.heap.get? e = some (excObj C d (excFs t)) ∧ E (.ref e) s₁) E s) :
    wpAny M A (raiseStmt env (some x) none) Q E s := by
  have hcB : (Value.ref C :: bm).contains (.type "BaseException") = true := by rw [List.contains_cons, hbase, Bool.or_true]
  unfold raiseStmt
  refine wpAny_bind (PySem.wpAny_mono h (fun v s₁ h₁ => ?_) fun _ _ x => x)
  obtain ⟨e, d', t, rfl, hC, he, hE⟩ := h₁
  obtain ⟨hp, g, d, tk, os⟩ := s₁
  repeat (first | with_reducible refine wpAny_loadPart_at he ?_ | with_reducible refine wpAny_loadPart_at hC ?_ | (with_reducible refine wpAny_isSubtype_exc hC ?_; rw [hcB]) | wp_step)
  exact wpAny_raiseNew_none hh hE
end
section
variable {G : Gd} {c : Cx} {m : Loc} {σ : AS} {K : Fl → Loc → AS → Prop} {X : V → Loc → AS → Prop}
theorem cut_free {A : Around} {env : Env} {ρ : Rho} {h : Heap} {n i a} (S : St G A env ρ m σ h) (e : ρ.l[i]? = some (some a)) (hi : n ≤ i) : ¬(ρ.cut n).own a := fun q => by
  obtain ⟨a1, a2, a3, a4⟩ := S.apart_l (mem_l e)
  rcases q with q | q | q | q | q
  · exact a1 q
  · exact a2 q
  · exact a3 q
  · exact a4 q
  · obtain ⟨j, q⟩ := List.getElem?_of_mem (show some a ∈ ρ.l.take n from q)
    rw [List.getElem?_take] at q
    split at q
    · have := S.l_inj e q
      omega
    · cases q
theorem s_raise {x px args cpos pos f fd xs d} (F : ExK G f fd xs) (hx : nsIn G.K mainGlobals x = some (some (.ref G.EC))) (hk : c.scope.names.lookup x = some .globalImplicit) (hd : c.d = d + 2) (hh : c.hn = true)
    (h : AS' G c args cpos m σ (fun us σ1 => us.length + 1 = xs.length ∧ us.length ≤ 1000 ∧ XK G fd xs us σ1 d c.hn (fun v σ2 => ∃ j es w t, v = .l σ1.l.length ∧ σ2.w = σ1.w ∧ σ2.l.take σ1.l.length = σ1.l ∧ σ2.l[σ1.l.length]? = some (.exc (excFs t) (some (.l j))) ∧ σ1.l.length ≤ j ∧ σ2.l[j]? = some (.dict es) ∧
      es.lookup ("value" : Str) = some w ∧ LF w ∧ X w m σ1) (fun v σ2 => X v m σ2)) (fun v σ1 => X v m σ1)) (ha : ∀ env, (backTo cpos (starEach args env)).any (·.1) = false := by intro _; rfl) (hxd : (x == ("__debug__" : Str)) = false := by decide) :
    S1 G c (.Raise (some (.Call (.Name x px) args [] cpos)) none pos) m σ K X := by
  intro A env ρ hp tk z Q E ok S hn hQ hE
  obtain ⟨nm, q, N, bs, hdct, sn, sub, ab, col, dd, k0, k1, k2, k3, k5, hC, hN, hi⟩ := F.cls
  show wpAny _ A (exec (.Raise (some (.Call (.Name x px) args [] cpos)) none pos) env) Q E _
  rw [arm_exec_Raise]
  show wpAny _ A (do standAt pos; raiseStmt env (some (do let v ← eval (.Call (.Name x px) args [] cpos) env; standAt pos; pure v)) none) Q E _
  refine wpAny_bind (wpAny_standAt (raiseStmt_exc (C := G.EC) (nm := nm) (q := q) (N := N) (bs := bs) (bm := [.type "Exception", .type "BaseException", .type "object"]) (hdct := hdct) (sn := sn) (sub := sub) (ab := ab) (col := col) (dd := dd) (k0 := k0) (k1 := k1) (k2 := k2) (k3 := k3) (k5 := k5) (newId := "Exception.__new__") (by decide) (ok.hn hh) (wpAny_bind ?_)))
  refine Call_ ?_
  refine e_glob (K := fun v σ1 => v = .cst (.ref G.EC) ∧ σ1 = σ) (X := fun v σ1 => X v m σ1) hx hk rfl ⟨rfl, rfl⟩ hxd A env ρ hp tk z _ _ ok S (fun ρ1 h1 tk1 v a σ1 k1 S1 x1 r1 => ?_) fun ρ1 h1 tk1 v e σ1 k1 S1 x1 f1 => hE ρ1 h1 tk1 v m σ1 e k1 S1 (x1.mono hn) f1
  obtain ⟨rfl, rfl⟩ := k1
  cases r1
  refine callWith_fn F.keep (ha env) ?_
  refine h A env ρ1 h1 tk1 z _ _ ok S1 (fun ρ2 h2 tk2 us vals σ2 k2 S2 x2 r2 => ⟨S2.inK ok.gd.X, ?_⟩) fun ρ2 h2 tk2 v e σ2 k2 S2 x2 f2 => hE ρ2 h2 tk2 v m σ2 e k2 S2 ((x1.trans (x2.mono x1.len)).mono hn) (f2.mono x1.old)
  rw [List.nil_append]
  have x12 := (x1.trans (x2.mono x1.len)).mono hn
  refine exc_run (X := fun v σ2 => X v m σ2) F hd ok S2 r2 k2.1 k2.2.1 k2.2.2 (fun ρ3 h3 tk3 v ea σ3 nw k3 S3 x3 r3 => wpAny_bind (wpAny_standAt (wpAny_pure ?_))) fun ρ3 h3 tk3 v e σ3 k3 S3 x3 f3 => hE ρ3 h3 tk3 v m σ3 e k3 S3 (x12.trans (x3.mono x12.len)) (f3.mono x12.old)
  obtain ⟨j, es, w, t, rfl, ew, el, e1, hj, e2, e3, lf, xv⟩ := k3
  cases r3 with
  | l le =>
    obtain ⟨da, rd, ho⟩ : ∃ da, VR G.EC ρ3 h3 (.l j) (.ref da) ∧ h3.get? ea = some { cls := .ref G.EC, dict := some da, data := .fields (excFs t) } := S3.cl _ _ ea e1 le
    cases rd with
    | l le2 =>
      obtain ⟨des, n, hdd, D⟩ := S3.cl _ _ da e2 le2
      obtain ⟨v', g1, g2⟩ := dict_get D e3
      have hlen : σ2.l.length ≤ ρ3.l.length := by rw [S2.ll]; exact x3.len
      have S4 := S3.cut (n := σ2.l.length) (by rw [S2.ll]; exact S2.belM) (by rw [ew, S2.ll]; exact S2.belW) (fun i c a hi c1 c2 => by
        have c1' : σ2.l[i]? = some c := by rw [← el, List.getElem?_take, if_pos hi]; exact c1
        have c2' : ρ2.l[i]? = some (some a) := by rw [← x3.l i (S2.ll ▸ hi)]; exact c2
        have := (S2.cl i c a c1' c2').bel
        rw [← S2.ll] at this
        exact this)
      have es : ({ σ3 with l := σ3.l.take σ2.l.length } : AS) = σ2 := by
        rw [el, ew]
      rw [es] at S4
      have x13 := x12.trans (x3.mono x12.len)
      have x14 := x13.cut (n := σ2.l.length) (by rw [S2.ll]; exact x12.len) hlen
      refine ⟨ea, some da, t, rfl, S3.inK ok.gd.X _ _ hC, ho, hE _ h3 tk3 w m σ2 ea xv S4 x14 ⟨(S3.hown ea (own_l le)).1, get_none fun o e => ?_, cut_free S3 le (Nat.le_refl _), _, _, _, da, des, n, v', ho, rfl, rfl, rfl, rfl, .inl ⟨rfl, .inl rfl⟩, hdd, cut_free S3 le2 hj, g1, lf _ _ _ _ _ _ g2 tra_cut⟩⟩
      obtain ⟨o', e'⟩ := x12.old ea o e
      rw [nw] at e'; cases e'
end
end Mine
end
section
open PySem PySem.W PyProof.Rows PySem.Calls PySem.Spec PySem.SeqAt
set_option maxRecDepth 10000
namespace Mine
theorem look' {α : Type} {x : Str} (r : List (Str × α)) (y : Str) (ny : y ≠ x) : (r.filter fun p => p.1 != x).lookup y = r.lookup y := by
  induction r with
  | nil => rfl
  | cons p r ih =>
    obtain ⟨p1, p2⟩ := p
    rw [List.filter_cons]
    split
    · rw [List.lookup_cons, List.lookup_cons, ih]
    · rename_i w
      rw [List.lookup_cons]
      have e : p1 = x := by simpa using w
      rw [beq_eq_false_iff_ne.mpr (e ▸ ny)]
      exact ih
theorem look_gone {α : Type} {x : Str} (r : List (Str × α)) : (r.filter fun p => p.1 != x).lookup x = none := by
  rw [List.lookup_eq_none_iff]
  intro p hp
  have := (List.mem_filter.mp hp).2
  simp at this
  simp [Ne.symm this]
section
variable {G : Gd} {c : Cx} {A : Around} {env : Env} {ρ : Rho} {m m' : Loc} {σ : AS} {h h' : Heap}
theorem St.setNs (S : St G A env ρ m σ h) {mm : Str → Option Value} (hn : h'.Ns env.locals mm) (hs : Heap.SameBut env.locals h h') (hm : ∀ y u, m'.lookup y = some u → env.scope.names.lookup y = some .local → ∃ a, mm y = some a ∧ VR G.EC ρ h u a)
    (hc : ∀ y, env.scope.names.lookup y ≠ some .local → m'.lookup y = m.lookup y) : St G A env ρ m' σ h' ∧ Ext ρ.l.length ρ h ρ h' := by
  obtain ⟨outer, q, F⟩ := S.frs
  have nL : ∀ b, ¬ρ.own b → b ≠ env.locals := fun b q z => q (z ▸ .inl S.hL)
  have x' : Ext ρ.l.length ρ h ρ h' := by
    refine ⟨fun _ _ z => z, rfl, rfl, fun _ z => z, Nat.le_refl _, fun _ _ => rfl, fun _ z => .inl z, fun b o e q _ => hs.extBut b o (fun z => ?_) e, fun b o e q v => ⟨o, hs.extBut b o (nL b q) e, rfl, rfl, v⟩, fun b o e => ?_, fun b o e q => ⟨o.slots, hs.extBut b o (fun z => S.tailL (z ▸ q)) e⟩⟩
    · rcases q with q | q
      · exact nL b q z
      · exact S.coL S.hL (z ▸ q)
    · by_cases q : b = env.locals
      · obtain ⟨o', _, _, e', _⟩ := hn
        exact ⟨o', q ▸ e'⟩
      · exact ⟨o, hs.extBut b o q e⟩
  have nw : ∀ b, ρ.own b → b ∉ ρ.fr → ∀ o, h.get? b = some o → h'.get? b = some o := fun b q q' o e => hs.extBut b o (fun z => q' (z ▸ S.hL)) e
  refine ⟨⟨fun b o e => hs.extBut b o (fun z => by rw [z, (S.hown _ (.inl S.hL)).1] at e; cases e) (S.base b o e), S.low, S.fl, ⟨outer, q, F.eq, F.kd, fun a ha => ?_⟩, fun a q => ?_, S.nodup, ⟨_, hn, fun y u e q => let ⟨a, q1, q2⟩ := hm y u e q; ⟨a, q1, q2.ext x'⟩⟩, fun y u e q => ?_, fun y q e => ?_, S.wl, S.ll,
    fun i c a e1 e2 => (S.cw i c a e1 e2).ext x' (nw a (own_w e2) (S.apart_w (List.mem_of_getElem? e2)).1), fun i c a e1 e2 => (S.cl i c a e1 e2).ext x' (nw a (own_l e2) (S.apart_l (mem_l e2)).1)⟩, x'⟩
  · by_cases q : a = env.locals
    · obtain ⟨o, es, ep, e, d, _⟩ := hn
      exact ⟨o, es, ep, q ▸ e, d⟩
    · obtain ⟨o, es, n, e, d⟩ := F.ok a ha
      exact ⟨o, es, n, hs.extBut a o q e, d⟩
  · obtain ⟨q1, o, q2⟩ := S.hown a q
    exact ⟨q1, x'.old a o q2⟩
  · rw [hc y (by rcases q with q | q <;> rw [q] <;> decide)] at e
    obtain ⟨ca, a, q1, ⟨o, q2, q2'⟩, q3, q4⟩ := S.cel y u e q
    refine ⟨ca, a, q1, ⟨o, hs.extBut ca o (fun w => ?_) q2, q2'⟩, q3.ext x', q4⟩
    subst w
    rcases q4 with q4 | q4
    · exact S.ccL S.hL q4
    · exact q4 (.inl S.hL)
  · rw [hc y (by rw [q]; decide)] at e
    obtain ⟨ca, q1, ⟨o, q2, q2'⟩, q3⟩ := S.cun y q e
    exact ⟨ca, q1, ⟨o, hs.extBut ca o (fun w => S.ccL S.hL (w ▸ q3)) q2, q2'⟩, q3⟩
theorem nameGoes (ok : Ok G c A env) (S : St G A env ρ m σ h) {x pos tk z} (hx : c.scope.names.lookup x = some .local) {Q : Unit → Shared → Prop} {E : Value → Shared → Prop}
    (k : ∀ h' tk', St G A env ρ (m.filter fun p => p.1 != x) σ h' → Ext ρ.l.length ρ h ρ h' → Q () (sh z h' tk')) : wpAny (model PG G.w) A (do bindName env x .none; unbindBehindTheSuite env x pos) Q E (sh z h tk) := by
  have hp : (env.scope.kind == .class || (env.scope.kind == .module && env.locals != env.globals)) = false := by
    obtain ⟨L, a, cd, cl, rfl⟩ := ok.env
    show (c.scope.kind == .class || (c.scope.kind == .module && _)) = false
    rw [ok.kind]; rfl
  have hk : env.scope.names.lookup x = some .local := by
    obtain ⟨L, a, cd, cl, rfl⟩ := ok.env
    exact hx
  obtain ⟨mm, hn, hm⟩ := S.loc
  refine wpAny_bind (wpAny_bindName (wpAny_storeName_local hk hn (fun h1 hn1 hs1 => ?_) hp))
  unfold unbindBehindTheSuite
  refine wpAny_onRaise (wpAny_unbindName_local hk hn1 (v := .none) (by simp) hp fun h2 u hn2 hs2 => ?_)
  obtain ⟨S', x'⟩ := S.setNs (m' := m.filter fun p => p.1 != x) (h' := h2) (mm := fun y => if y = x then u else mm y) (by
      have e : (fun y => if y = x then u else (fun y => if y = x then some Value.none else mm y) y) = fun y => if y = x then u else mm y := by
        funext y
        by_cases w : y = x <;> simp [w]
      rw [← e]; exact hn2) (hs1.trans hs2) (fun y v e q => by
      by_cases w : y = x
      · rw [w, look_gone] at e; cases e
      · rw [look' m y w] at e
        obtain ⟨a, q1, q2⟩ := hm y v e q
        exact ⟨a, by simp only [w, if_false]; exact q1, q2⟩) fun y q => look' m y fun w => q (w ▸ hk)
  exact k h2 _ S' x'
end
end Mine
end
section
open PySem PySem.W PyProof.Rows PySem.Calls PySem.Spec PySem.SeqAt
set_option maxRecDepth 10000
namespace Mine
section
variable {G : Gd} {c : Cx} {m : Loc} {σ : AS} {K : Fl → Loc → AS → Prop} {X : V → Loc → AS → Prop}
theorem fly_err {P : Option Value → Prop} {ρ h0 h e v} (f : Fly G P ρ h0 h e v) : VR G.EC ρ h (.err v) (.ref e) := by
  obtain ⟨f0, f1, f2, oe, vs, a0, d, des, n, v', g1, g2, g3, g4, g5, g6, g7, g8, g9, g10⟩ := f
  refine .err g1 g2 g3 ⟨vs, g4, fun y t q => ?_⟩ g7 f2 g8 g9 g10
  rcases g6 with ⟨q', _⟩ | ⟨T, oT, ts, tr, x, k1, _⟩
  · rw [q'] at q; cases q
  · rw [k1] at q; cases q
theorem FR.ext' {ρ ρ' h h' fl a} (r : FR G ρ h fl a) (x : Ext ρ.l.length ρ h ρ' h') : FR G ρ' h' fl a := by
  cases r with
  | next => exact .next
  | ret r => exact .ret (r.ext x)
  | brk => exact .brk
  | cont => exact .cont
theorem glob_raw {A env ρ h tk z x px v} (ok : Ok G c A env) (S : St G A env ρ m σ h) (hx : nsIn G.K mainGlobals x = some (some v)) (hk : c.scope.names.lookup x = some .globalImplicit) (hd : (x == ("__debug__" : Str)) = false) {Q : Value → Shared → Prop} {E : Value → Shared → Prop} (q : Q v (sh z h tk)) :
    wpAny (model PG G.w) A (eval (.Name x px) env) Q E (sh z h tk) := by
  obtain ⟨L, a, cd, cl, rfl⟩ := ok.env
  obtain ⟨mm, hn, hm⟩ := S.loc
  obtain ⟨p, loose, mg, mb, T⟩ := ok.gd.T
  exact nameX_K (S.fr_ hn) ok.gd.X T hx q ok.kind hk hd
theorem s_try {f fd xs body x px n s0 suite hpos pos} (F : ExK G f fd xs) (hx : nsIn G.K mainGlobals x = some (some (.ref G.EC))) (hk : c.scope.names.lookup x = some .globalImplicit) (hnm : c.scope.names.lookup n = some .local)
    (h : SS G c body m σ K (fun v m1 σ1 => SS G { c with hn := false } (s0 :: suite) ((n, .err v) :: m1) σ1 (fun fl m2 σ2 => K fl (m2.filter fun p => p.1 != n) σ2) (fun _ _ _ => False))) (hxd : (x == ("__debug__" : Str)) = false := by decide) :
    S1 G c (.Try body [.ExceptHandler (some (.Name x px)) (some n) (s0 :: suite) hpos] [] [] pos) m σ K X := by
  intro A env ρ hp tk z Q E ok S hn hQ hE
  obtain ⟨nm, q, N, bs, hdct, sn, sub, ab, col, dd, k0, k1, k2, k3, k5, hC, hN, hi⟩ := F.cls
  refine wpAny_Try_except ?_
  refine h A env ρ hp tk z _ _ ok S hn (fun ρ1 h1 tk1 fl m1 σ1 a k1 S1 x1 r1 => ?_) fun ρ1 h1 tk1 v m1 σ1 e k1 S1 x1 f1 => ?_
  · cases r1 with
    | next => exact wpAny_execs_nil (hQ ρ1 h1 tk1 .next m1 σ1 _ k1 S1 x1 .next)
    | ret r => exact hQ ρ1 h1 tk1 _ m1 σ1 _ k1 S1 x1 (.ret r)
    | brk => exact hQ ρ1 h1 tk1 _ m1 σ1 _ k1 S1 x1 .brk
    | cont => exact hQ ρ1 h1 tk1 _ m1 σ1 _ k1 S1 x1 .cont
  · refine noteF S1 x1.old f1 (fun _ q => q) fun h2 S2 x2 f2 => ?_
    refine flightF S2 f2 none (.inl rfl) (fun q => by cases q) fun h3 S3 x3 f3 => ?_
    have x13 := x1.trans ((x2.trans (x3.mono x2.len)).mono x1.len)
    have okM : Ok G { c with hn := false } (A.mark (some (.ref e))) env := ⟨ok.cd, ok.cinj, ok.env, ok.kind, ok.room, ok.units, fun q => (by cases q), ok.gd⟩
    have S3M := S3.chA (A' := A.mark (some (.ref e))) rfl
    refine wpAny_handleBy_cons (codeAny_handlers_test ?_) (by intro q; cases q)
    refine glob_raw okM S3M hx hk hxd ?_
    obtain ⟨oe, he, hcl⟩ : ∃ oe, h3.get? e = some oe ∧ oe.cls = .ref G.EC := by
      obtain ⟨_, _, _, oe, vs, a0, d, des, n, v', g1, g2, _⟩ := f3
      exact ⟨oe, g1, g2⟩
    refine wpAny_excMatches_sub_self (S3.inK ok.gd.X _ _ hC) he hcl (by decide) ?_
    refine codeAny_handlers_suite_as ?_
    refine flightF S3M f3 none (.inl rfl) (fun q => by cases q) fun h4 S4 x4 f4 => ?_
    have x14 := x13.trans (x4.mono x13.len)
    refine storeL okM S4 hnm (fly_err f4) fun h5 S5 x5 => ?_
    have x15 := x14.trans (x5.mono x14.len)
    refine k1 (A.mark (some (.ref e))) env ρ1 h5 _ z _ _ okM S5 x15.len (fun ρ6 h6 tk6 fl m6 σ6 a6 k6 S6 x6 r6 => ?_) fun _ _ _ _ _ _ _ q => q.elim
    have S6' := S6.chA (A' := A) rfl
    exact nameGoes ok S6' hnm fun h7 tk7 S7 x7 => hQ ρ6 h7 tk7 fl _ σ6 a6 k6 S7 ((x15.trans x6).trans (x7.mono x6.len)) (r6.ext' x7)
end
end Mine
end
section
open PySem PySem.W PyProof.Rows PySem.Calls PySem.Spec PySem.SeqAt
set_option maxRecDepth 10000
namespace Mine
inductive Fz (σ : AS) (n : Nat) : V → V → Prop
  | keep {v} : LFn n v → Fz σ n v v
  | any {v} : Fz σ n v .any
  | lst {i} {xs ys : List V} : σ.l[i]? = some (.list xs) → n ≤ i → xs.length = ys.length → (∀ (j : Nat) x y, xs[j]? = some x → ys[j]? = some y → Fz σ n x y) → Fz σ n (.l i) (.lst ys)
  | ins {i j C es fs} : σ.l[i]? = some (.inst C (.l j)) → σ.l[j]? = some (.dict es) → n ≤ i → n ≤ j → (∀ y v, fs.lookup y = some v → ∃ u, es.lookup y = some u) → (∀ y u v, es.lookup y = some u → fs.lookup y = some v → Fz σ n u v) → (∀ y, fs.lookup y = none → es.lookup y = none) → Fz σ n (.l i) (.ins C fs)
  | tup {xs ys : List V} : xs.length = ys.length → (∀ (j : Nat) x y, xs[j]? = some x → ys[j]? = some y → Fz σ n x y) → Fz σ n (.tup xs) (.tup ys)
  | lsts {xs ys : List V} : xs.length = ys.length → (∀ (j : Nat) x y, xs[j]? = some x → ys[j]? = some y → Fz σ n x y) → Fz σ n (.lst xs) (.lst ys)
section
variable {G : Gd} {A : Around} {env : Env} {ρ : Rho} {m m' : Loc} {σ : AS} {h : Heap} {n : Nat}
theorem Fz.ok (S : St G A env ρ m σ h) {v v'} (f : Fz σ n v v') : ∀ {a}, VR G.EC ρ h v a → VR G.EC (ρ.cut n) h v' a := by
  induction f with
  | keep l => intro a r; exact l _ _ _ _ _ _ r tra_cut cut_l
  | any => intro a r; exact .any
  | lst e hi hl _ ih =>
    intro a r
    cases r with
    | l le =>
      obtain ⟨vs, k, q, rr⟩ := S.cl _ _ _ e le
      refine .lst q (cut_free S le hi) (hl ▸ rr.1) fun j y w e1 e2 => ?_
      have li : j < _ := (List.getElem?_eq_some_iff.mp e1).1
      rw [← hl] at li
      exact ih j _ y (List.getElem?_eq_getElem li) e1 (rr.2 j _ w (List.getElem?_eq_getElem li) e2)
  | @ins i j C es fs e1 e2 hi hj hk _ hn ih =>
    intro a r
    cases r with
    | l le =>
      obtain ⟨da, rd, q⟩ := S.cl _ _ _ e1 le
      cases rd with
      | l le2 =>
        obtain ⟨des, k, q2, D⟩ := S.cl _ _ _ e2 le2
        have ex : ∀ y v, fs.lookup y = some v → ∃ b, getL y des = some (some b) ∧ VR G.EC (ρ.cut n) h v b := fun y v e => by
          obtain ⟨u, eu⟩ := hk y v e
          obtain ⟨b, g1, g2⟩ := dict_get D eu
          exact ⟨b, g1, ih y u v eu e g2⟩
        refine .ins (f := fun y => ((getL y des).bind id).getD .none) q q2 (cut_free S le hi) (cut_free S le2 hj) (fun y v e => ?_) (fun y e => dict_none D (hn y e)) fun y v e => ?_
        · obtain ⟨b, g1, g2⟩ := ex y v e
          rw [g1]; rfl
        · obtain ⟨b, g1, g2⟩ := ex y v e
          rw [g1]; exact g2
  | tup hl _ ih =>
    intro a r
    cases r with
    | tup e q hl2 hv =>
        refine .tup e (fun z => q (cut_own z)) (hl ▸ hl2) fun j y w e1 e2 => ?_
        have li : j < _ := (List.getElem?_eq_some_iff.mp e1).1
        rw [← hl] at li
        exact ih j _ y (List.getElem?_eq_getElem li) e1 (hv j _ w (List.getElem?_eq_getElem li) e2)
  | lsts hl _ ih =>
    intro a r
    cases r with
    | lst e q hl2 hv =>
        refine .lst e (fun z => q (cut_own z)) (hl ▸ hl2) fun j y w e1 e2 => ?_
        have li : j < _ := (List.getElem?_eq_some_iff.mp e1).1
        rw [← hl] at li
        exact ih j _ y (List.getElem?_eq_getElem li) e1 (hv j _ w (List.getElem?_eq_getElem li) e2)
noncomputable def CFz (σ : AS) (n : Nat) : Cell → Cell → Prop
  | .list xs, .list ys => xs.length = ys.length ∧ ∀ (j : Nat) x y, xs[j]? = some x → ys[j]? = some y → Fz σ n x y
  | .dict es, .dict fs => es.length = fs.length ∧ ∀ (j : Nat) e f, es[j]? = some e → fs[j]? = some f → e.1 = f.1 ∧ Fz σ n e.2 f.2
  | .map es, .map fs => es.length = fs.length ∧ ∀ (j : Nat) e f, es[j]? = some e → fs[j]? = some f → e.1 = f.1 ∧ Fz σ n e.2 f.2
  | c, c' => c = c' ∧ CFn n c
theorem CFz.keep {c} (f : CFn n c) : CFz σ n c c := by
  cases c with
  | list xs => exact ⟨rfl, fun j x y e1 e2 => by rw [e1] at e2; cases e2; exact .keep (f x (List.mem_of_getElem? e1))⟩
  | dict xs => exact ⟨rfl, fun j x y e1 e2 => by rw [e1] at e2; cases e2; exact ⟨rfl, .keep (f x (List.mem_of_getElem? e1))⟩⟩
  | map xs => exact ⟨rfl, fun j x y e1 e2 => by rw [e1] at e2; cases e2; exact ⟨rfl, .keep (f x (List.mem_of_getElem? e1))⟩⟩
  | _ => exact ⟨rfl, f⟩
theorem CFz.ok (S : St G A env ρ m σ h) {c c' a} (f : CFz σ n c c') (r : CellOk G.EC G.w ρ h a c) : CellOk G.EC G.w (ρ.cut n) h a c' := by
  unfold CFz at f
  split at f
  · rename_i xs ys
    obtain ⟨vs, k, q, rr⟩ := r
    refine ⟨vs, k, q, f.1 ▸ rr.1, fun j y w e1 e2 => ?_⟩
    have li : j < ys.length := (List.getElem?_eq_some_iff.mp e1).1
    rw [← f.1] at li
    exact (f.2 j _ y (List.getElem?_eq_getElem li) e1).ok S (rr.2 j _ w (List.getElem?_eq_getElem li) e2)
  · rename_i es fs
    obtain ⟨des, k, q, rr⟩ := r
    refine ⟨des, k, q, f.1 ▸ rr.1, fun j y w e1 e2 => ?_⟩
    have li : j < fs.length := (List.getElem?_eq_some_iff.mp e1).1
    rw [← f.1] at li
    obtain ⟨f1, f2⟩ := f.2 j _ y (List.getElem?_eq_getElem li) e1
    obtain ⟨q1, q2, q3⟩ := rr.2 j _ w (List.getElem?_eq_getElem li) e2
    exact ⟨f1 ▸ q1, f1 ▸ q2, f2.ok S q3⟩
  · rename_i es fs
    obtain ⟨kvs, q, rr⟩ := r
    refine ⟨kvs, q, f.1 ▸ rr.1, fun j y w e1 e2 => ?_⟩
    have li : j < fs.length := (List.getElem?_eq_some_iff.mp e1).1
    rw [← f.1] at li
    obtain ⟨f1, f2⟩ := f.2 j _ y (List.getElem?_eq_getElem li) e1
    obtain ⟨q1, q3⟩ := rr.2 j _ w (List.getElem?_eq_getElem li) e2
    exact ⟨q1.trans f1, f2.ok S q3⟩
  · obtain ⟨rfl, f⟩ := f
    exact r.cut f tra_cut cut_l fun o e => e
theorem St.freeze (S : St G A env ρ m σ h) {w' l' : List Cell} (hm : ∀ x v', m'.lookup x = some v' → ∃ v, m.lookup x = some v ∧ Fz σ n v v') (hu : ∀ x, m'.lookup x = none → env.scope.names.lookup x = some .cell → m.lookup x = none)
    (hw : w'.length = σ.w.length) (hw' : ∀ (i : Nat) c c', σ.w[i]? = some c → w'[i]? = some c' → CFz σ n c c') (hl : l'.length = (σ.l.take n).length) (hl' : ∀ (i : Nat) c c', i < n → σ.l[i]? = some c → l'[i]? = some c' → CFz σ n c c') :
    St G A env (ρ.cut n) m' { w := w', l := l' } h := by
  refine ⟨S.base, S.low, S.fl, let ⟨o, q, F⟩ := S.frs; ⟨o, q, F.eq, F.kd, F.ok⟩, fun a q => S.hown a (cut_own q), ?_, ?_, fun y v e q => ?_, fun y q e => S.cun y q (hu y e q), hw.trans S.wl, hl.trans (by show (σ.l.take n).length = (ρ.l.take n).length; rw [List.length_take, List.length_take, S.ll]), fun i c a e1 e2 => ?_, fun i c a e1 e2 => ?_⟩
  · have d : (ρ.fr ++ (ρ.cc ++ (ρ.co ++ (ρ.w ++ ρ.l.filterMap id)))).Nodup := S.nodup
    refine d.sublist ?_
    show (ρ.fr ++ (ρ.cc ++ (ρ.co ++ (ρ.w ++ (ρ.l.take n).filterMap id)))).Sublist _
    exact (List.Sublist.refl _).append ((List.Sublist.refl _).append ((List.Sublist.refl _).append ((List.Sublist.refl _).append ((List.take_sublist n ρ.l).filterMap id))))
  · obtain ⟨mm, hn, hm'⟩ := S.loc
    refine ⟨mm, hn, fun y v e q => ?_⟩
    obtain ⟨u, e1, f⟩ := hm y v e
    obtain ⟨a, q1, q2⟩ := hm' y u e1 q
    exact ⟨a, q1, f.ok S q2⟩
  · obtain ⟨u, e1, f⟩ := hm y v e
    obtain ⟨ca, a, q1, q2, q3, q4⟩ := S.cel y u e1 q
    exact ⟨ca, a, q1, q2, f.ok S q3, q4.imp_right fun q4 z => q4 (cut_own z)⟩
  · have li : i < σ.w.length := hw ▸ (List.getElem?_eq_some_iff.mp e1).1
    exact (hw' i _ c (List.getElem?_eq_getElem li) e1).ok S (S.cw i _ a (List.getElem?_eq_getElem li) e2)
  · have e2' : (ρ.l.take n)[i]? = some (some a) := e2
    rw [List.getElem?_take] at e2'
    split at e2'
    · rename_i hi
      have li : i < σ.l.length := by rw [S.ll]; exact (List.getElem?_eq_some_iff.mp e2').1
      exact (hl' i _ c hi (List.getElem?_eq_getElem li) e1).ok S (S.cl i _ a (List.getElem?_eq_getElem li) e2')
    · cases e2'
end
end Mine
end
section
open PySem PySem.W PyProof.Rows PySem.Calls PySem.Spec PySem.SeqAt
set_option maxRecDepth 10000
namespace Mine
structure FzS (c : Cx) (n : Nat) (m : Loc) (σ : AS) (m' : Loc) (σ' : AS) : Prop where
  fm : ∀ x v', m'.lookup x = some v' → ∃ v, m.lookup x = some v ∧ Fz σ n v v'
  fu : ∀ x, m'.lookup x = none → c.scope.names.lookup x = some .cell → m.lookup x = none
  wl : σ'.w.length = σ.w.length
  fw : ∀ (i : Nat) c c', σ.w[i]? = some c → σ'.w[i]? = some c' → CFz σ n c c'
  ll : σ'.l.length = (σ.l.take n).length
  fl : ∀ (i : Nat) c c', i < n → σ.l[i]? = some c → σ'.l[i]? = some c' → CFz σ n c c'
section
variable {G : Gd} {c : Cx} {m : Loc} {σ : AS} {K : Fl → Loc → AS → Prop} {X : V → Loc → AS → Prop}
theorem sx_frz {t : Env → Sem Flow} {n m' σ'} (f : FzS c n m σ m' σ') (hn' : c.n ≤ n) (hl : n ≤ σ.l.length) (h : SX G c t m' σ' K X) : SX G c t m σ K X := by
  intro A env ρ hh tk z Q E ok S hn hQ hE
  have hsc : env.scope = c.scope := by obtain ⟨L, a, cd, cl, rfl⟩ := ok.env; rfl
  have S' := S.freeze f.fm (fun x e q => f.fu x e (hsc ▸ q)) f.wl f.fw f.ll f.fl
  have x0 : Ext c.n ρ hh (ρ.cut n) hh := (Ext.refl (by exact hn)).cut hn' (by rw [← S.ll]; exact hl)
  exact h A env (ρ.cut n) hh tk z Q E ok S' x0.len (fun ρ1 h1 tk1 fl m1 σ1 a k1 S1 x1 r1 => hQ ρ1 h1 tk1 fl m1 σ1 a k1 S1 (x0.trans x1) r1) fun ρ1 h1 tk1 v m1 σ1 e k1 S1 x1 f1 => hE ρ1 h1 tk1 v m1 σ1 e k1 S1 (x0.trans x1) f1
theorem ft_frz {fd xs vs d hn} {K : V → AS → Prop} {X : V → AS → Prop} (h : FT G fd xs vs σ d hn (fun v σ1 => σ.l.length ≤ σ1.l.length ∧ ∃ v' σ', Fz σ1 σ.l.length v v' ∧ (v = .none → v' = .none) ∧ σ'.w.length = σ1.w.length ∧ (∀ (i : Nat) c c', σ1.w[i]? = some c → σ'.w[i]? = some c' → CFz σ1 σ.l.length c c') ∧
      σ'.l.length = (σ1.l.take σ.l.length).length ∧ (∀ (i : Nat) c c', i < σ.l.length → σ1.l[i]? = some c → σ'.l[i]? = some c' → CFz σ1 σ.l.length c c') ∧ K v' σ') X)
    (hcell : ∀ x, fd.scope.names.lookup x ≠ some .cell) : FT G fd xs vs σ d hn K X := by
  intro A env ρ hh tk z Q E ok S hn0 hQ hE
  have hsc : env.scope = fd.scope := by obtain ⟨L, a, cd, cl, rfl⟩ := ok.env; rfl
  refine h A env ρ hh tk z Q E ok S hn0 (fun ρ1 h1 tk1 fl m1 σ1 a k1 S1 x1 r1 => ?_) hE
  obtain ⟨hl, v', σ', f, fn, f1, f2, f3, f4, k⟩ := k1
  have S' := S1.freeze (m' := []) (w' := σ'.w) (l' := σ'.l) (n := σ.l.length) (fun x v' e => by cases e) (fun x e q => (hcell x (hsc ▸ q)).elim) f1 f2 f3 f4
  have x2 := x1.cut (n := σ.l.length) (Nat.le_refl _) (by rw [← S1.ll]; exact hl)
  cases r1 with
  | ret r => exact hQ _ h1 tk1 (.ret v') _ σ' _ k S' x2 (.ret (f.ok S1 r))
  | next => exact hQ _ h1 tk1 .next _ σ' _ (show K V.none σ' from (fn rfl) ▸ k) S' x2 .next
  | brk => exact hQ _ h1 tk1 .brk _ σ' _ (show K V.none σ' from (fn rfl) ▸ k) S' x2 .brk
  | cont => exact hQ _ h1 tk1 .cont _ σ' _ (show K V.none σ' from (fn rfl) ▸ k) S' x2 .cont
end
end Mine
end
section
open PySem PySem.W PyProof.Rows PySem.Calls PySem.Spec PySem.SeqAt
set_option maxRecDepth 10000
namespace Mine
section
variable {G : Gd} {c : Cx} {m : Loc} {σ : AS} {K : V → AS → Prop} {X : V → AS → Prop}
theorem call_t {x px e pos T} {R2 : V → AS → Prop} (hx : nsIn G.K mainGlobals x = some none) (hv : bootBuiltins x = some (.type T)) (hk : c.scope.names.lookup x = some .globalImplicit) (hn : x ≠ "__name__") (hd : (x == ("__debug__" : Str)) = false)
    (h : AE G c e m σ R2 X) (he : ∀ env, starEach (e :: []) env = (false, eval e env) :: starEach [] env)
    {A env ρ hh tk z Q E} (ok : Ok G c A env) (S : St G A env ρ m σ hh)
    (hQ : ∀ ρ' h' tk' u b σ', R2 u σ' → St G A env ρ' m σ' h' → Ext ρ.l.length ρ hh ρ' h' → VR G.EC ρ' h' u b → wpAny (model PG G.w) A (call (.type T) [b]) Q E (sh z h' tk'))
    (hX : ∀ ρ' h' tk' v e σ', X v σ' → St G A env ρ' m σ' h' → Ext ρ.l.length ρ hh ρ' h' → Fly G (fl0 env.locals) ρ' hh h' e v → E (.ref e) (sh z h' tk')) :
    wpAny (model PG G.w) A (eval (.Call (.Name x px) [e] [] pos) env) Q E (sh z hh tk) := by
  refine Call_ ?_
  refine e_blt (K := fun v σ1 => v = .cst (.type T) ∧ σ1 = σ) hx hv hk ⟨rfl, rfl⟩ hn hd A env ρ hh tk z _ _ ok S (fun ρ1 h1 tk1 v a σ1 k1 S1 x1 r1 => ?_) hX
  obtain ⟨rfl, rfl⟩ := k1
  cases r1
  refine callWith_type1 (args_cons ?_ (he env)) (he env)
  exact h A env ρ1 h1 tk1 z _ _ ok S1 (fun ρ2 h2 tk2 u b σ2 k2 S2 x2 r2 => args_nil (hQ ρ2 h2 tk2 u b σ2 k2 S2 (x1.trans (x2.mono x1.len)) r2)) fun ρ2 h2 tk2 v e σ2 q S2 x2 f2 => hX ρ2 h2 tk2 v e σ2 q S2 (x1.trans (x2.mono x1.len)) (f2.mono x1.old)
theorem e_intb {px e pos} (hx : nsIn G.K mainGlobals "int" = some none) (hk : c.scope.names.lookup ("int" : Str) = some .globalImplicit) (h : AE G c e m σ (fun v σ1 => ∃ b, v = .bool b ∧ K (.int (if b then 1 else 0)) σ1) X) (hv : bootBuiltins "int" = some (.type "int"))
    (he : ∀ env, starEach (e :: []) env = (false, eval e env) :: starEach [] env := by intro _; rfl) : AE G c (.Call (.Name "int" px) [e] [] pos) m σ K X := fun A env ρ hh tk z Q E ok S hQ hX =>
  call_t hx hv hk (by decide) (by decide) h he ok S (fun ρ' h' tk' u b σ' k S' x r => by
    obtain ⟨b, rfl, k⟩ := k
    cases r
    exact call_int_bool (hQ ρ' h' _ _ _ σ' k S' x .int)) hX
theorem e_abs {px e pos} (hx : nsIn G.K mainGlobals "abs" = some none) (hk : c.scope.names.lookup ("abs" : Str) = some .globalImplicit) (h : AE G c e m σ (fun v σ1 => ∃ i, v = .int i ∧ K (.int (if i < 0 then -i else i)) σ1) X) (hv : bootBuiltins "abs" = some (.builtin "abs"))
    (ha : ∀ env, (backTo pos (starEach [e] env)).any (·.1) = false := by intro _; rfl) (he : ∀ env, starEach (e :: []) env = (false, eval e env) :: starEach [] env := by intro _; rfl) : AE G c (.Call (.Name "abs" px) [e] [] pos) m σ K X := by
  intro A env ρ hh tk z Q E ok S hQ hX
  refine call_b (R2 := fun us σ1 => ∃ i, us = [.int i] ∧ K (.int (if i < 0 then -i else i)) σ1) hx hv hk (by decide) (by decide) (as_cons (TR.mono h (fun v σ1 ⟨i, q, k⟩ => as_nil ⟨i, by rw [q], k⟩) fun _ _ q => q) he) ha ok S (fun ρ' h' tk' us bs σ' k S' x r => ?_) hX
  obtain ⟨i, rfl, k⟩ := k
  obtain ⟨b, bs', rfl, rb, rr⟩ := r.inv_cons
  rw [rr.inv_nil]
  cases rb
  exact call_abs_int fun u t => hQ ρ' h' _ _ _ _ k S' x .int
end
end Mine
end
section
open PySem PySem.W PyProof.Rows PySem.Calls PySem.Spec PySem.SeqAt
set_option maxRecDepth 10000
namespace Mine
theorem VRs.rev {EC ρ h} : ∀ {xs : List V} {vs : List Value}, VRs EC ρ h xs vs → VRs EC ρ h xs.reverse vs.reverse
  | [], vs, r => by rw [r.inv_nil]; exact .nil
  | x :: xs, vs, r => by
    obtain ⟨v, ws, rfl, rv, rr⟩ := r.inv_cons
    rw [List.reverse_cons, List.reverse_cons]
    exact rr.rev.append (.one rv)
section
variable {G : Gd} {c : Cx} {m : Loc} {σ : AS} {K : V → AS → Prop} {X : V → AS → Prop}
theorem e_reverse {o apos pos} {pl : Env → Sem Bool} (h : AE G c o m σ (fun v σ1 => ∃ xs, cellOf σ1 v = some (.list xs) ∧ xs.length ≤ 100000 ∧ K .none (putCell σ1 v (.list xs.reverse))) X)
    (he : ∀ env, eval (.Call (.Attribute o "reverse" apos) [] [] pos) env = (do
      let ov ← eval o env
      standAt apos.atName
      let (f, first) ← holding [ov] (getMethod ov "reverse" (pl env))
      callWith pos f first (backTo pos (starEach [] env)) []) := by intro _; rfl) : AE G c (.Call (.Attribute o "reverse" apos) [] [] pos) m σ K X := by
  intro A env ρ hh tk z Q E ok S hQ hX
  refine meth_b (id := "list.reverse") (P1 := fun v σ1 => ∃ xs, cellOf σ1 v = some (.list xs)) (R2 := fun v us σ2 => us = [] ∧ ∃ xs, cellOf σ2 v = some (.list xs) ∧ xs.length ≤ 100000 ∧ K .none (putCell σ2 v (.list xs.reverse)))
    (TR.mono h (fun v σ1 ⟨xs, k⟩ => ⟨⟨_, k.1⟩, as_nil ⟨rfl, xs, k⟩⟩) fun _ _ q => q) ok S rfl (he env) (fun ρ1 h1 tk1 v a σ1 Q' p S1 r1 q => ?_) (fun ρ' h' tk' v us a bs σ' k S' x r1 r2 => ?_) hX
  · obtain ⟨xs, p⟩ := p
    exact list_method S1 p r1 PySem.F.slot_list_reverse PySem.F.type_list_reverse Q' q
  · obtain ⟨rfl, xs, hc, hl, k⟩ := k
    rw [r2.inv_nil]
    obtain ⟨xa, vals, n, rfl, hx, rx⟩ := cell_list_at S' hc r1
    have hz : vals.toArray.size ≤ sizeLine := by rw [List.size_toArray, sizeLine_eq, ← rx.1]; omega
    refine call_meets PySem.F.slot_list_reverse ⟨_, hx, rfl⟩ PySem.F.entry_list_reverse (PySem.F.args_list_reverse_1 _) (PySem.AutoSeq1.list_reverse_list_0 xa _ n hz) ⟨hx, ?_⟩
    have hu := PySem.IsL.update hx fun x => x.reverse
    have hr : vals.toArray.reverse = vals.reverse.toArray := by simp
    rw [hr] at hu
    obtain ⟨S2, x2⟩ := S'.updS (c' := .list xs.reverse) hc r1 (Heap.SameBut.update ..) (fun x => ⟨vals.reverse, _, hu, (rx.ext x).rev⟩) ⟨_, hu⟩
    exact hQ ρ' _ tk' .none _ _ k S2 (x.trans (x2.mono x.len)) .none
theorem ints_are {EC ρ h} : ∀ {ns : List Int} {vs : List Value}, VRs EC ρ h (ns.map .int) vs → IntsAre vs ns
  | [], vs, r => by rw [r.inv_nil]; exact .nil
  | x :: xs, vs, r => by
    obtain ⟨v, ws, rfl, rv, rr⟩ := r.inv_cons
    cases rv
    exact .cons _ _ (ints_are rr)
theorem e_bytes {px e pos} (hx : nsIn G.K mainGlobals "bytes" = some none) (hk : c.scope.names.lookup ("bytes" : Str) = some .globalImplicit) (hn : c.hn = true)
    (h : AE G c e m σ (fun v σ1 => ∃ ns : List Int, lstOf σ1 v = some (ns.map .int) ∧ (∀ n ∈ ns, 0 ≤ n ∧ n < 256) ∧ ns.length ≤ 100000 ∧ K (.byt (byteArr ns)) σ1) X) (hv : bootBuiltins "bytes" = some (.type "bytes"))
    (he : ∀ env, starEach (e :: []) env = (false, eval e env) :: starEach [] env := by intro _; rfl) : AE G c (.Call (.Name "bytes" px) [e] [] pos) m σ K X := fun A env ρ hh tk z Q E ok S hQ hX =>
  call_t hx hv hk (by decide) (by decide) h he ok S (fun ρ' h' tk' u b σ' k S' x r => by
    obtain ⟨ns, hc, hr, hz, k⟩ := k
    obtain ⟨xa, vals, n, rfl, hx, rx⟩ := lst_at S' hc r
    refine call_bytes_ints (vs := vals) (isList_of hx) (ints_are rx) hr (by rw [sizeLine_eq, ← rx.1, List.length_map]; omega) (ok.hn hn) fun h2 t k2 ex => ?_
    obtain ⟨S1, x1⟩ := S'.grow ex
    exact hQ ρ' h2 _ _ _ σ' k S1 (x.trans (x1.mono x.len)) .byt) hX
end
section
variable {G : Gd} {c : Cx} {m : Loc} {σ : AS} {K : Fl → Loc → AS → Prop} {X : V → Loc → AS → Prop}
theorem s_swap {x y elts k tpos value pos} (hx : c.scope.names.lookup x = some .local) (hy : c.scope.names.lookup y = some .local) (hn' : c.hn = true)
    (h : AE G c value m σ (fun v σ1 => ∃ v1 v2, v = .tup [v1, v2] ∧ K .next ((x, v1) :: (y, v2) :: m) σ1) (fun v σ1 => X v m σ1))
    (hs : ∀ env, swapsWithSole [.Tuple elts k tpos] value pos.line env = pure false := by intro _; rfl) (hw : ∀ L a cd cl, swappedStores [.Tuple elts k tpos] value (envX c.qual c.scope L a cd cl) = pure (some [x, y]) := by intro _ _ _ _; rfl) : S1 G c (.Assign [.Tuple elts k tpos] value pos) m σ K X := by
  intro A env ρ hh tk z Q E ok S hn hQ hE
  refine PyProof.Rows.Assign_Tuple_swapped (names := [x, y]) ?_ (hs env) (by obtain ⟨L, a, cd, cl, rfl⟩ := ok.env; exact hw L a cd cl)
  refine h A env ρ hh tk z _ _ ok S (fun ρ1 h1 tk1 v a σ1 k1 S1 x1 r1 => ?_) fun ρ1 h1 tk1 v e σ1 k1 S1 x1 f1 => hE ρ1 h1 tk1 v m σ1 e k1 S1 (x1.mono hn) f1
  obtain ⟨v1, v2, rfl, k1⟩ := k1
  obtain ⟨xa, vals, n, rfl, hxa, rr⟩ := tup_at r1
  obtain ⟨a1, l1, rfl, q1, rr⟩ := rr.inv_cons
  obtain ⟨a2, l2, rfl, q2, rr⟩ := rr.inv_cons
  rw [rr.inv_nil] at hxa
  refine wpAny_unpackItems_tuple (items := [a1, a2].toArray) (ok.hn hn') ⟨_, hxa, rfl, n, rfl⟩ fun h2 ex => ?_
  obtain ⟨S2, x2⟩ := S1.grow (h' := h2) fun b o e => ex b o (Nat.ne_of_lt (Heap.lt_size e)) e
  show wpAny _ _ (assignInOrder [bindName env y, bindName env x] [a2, a1]) _ _ _
  unfold assignInOrder
  refine wpAny_bind (wpAny_holding (bindName_ (storeL ok S2 hy (q2.ext x2) fun h3 S3 x3 => ?_)))
  unfold assignInOrder
  refine wpAny_bind (wpAny_holding (bindName_ (storeL ok S3 hx ((q1.ext x2).ext x3) fun h4 S4 x4 => ?_)))
  refine wpAny_pure ?_
  exact hQ ρ1 h4 _ .next _ σ1 _ k1 S4 ((x1.mono hn).trans (((x2.trans x3).trans x4).mono (Nat.le_trans hn x1.len))) .next
end
end Mine
end
section
open PySem PySem.W PyProof.Rows PySem.Calls PySem.Spec PySem.SeqAt
set_option maxRecDepth 10000
namespace Mine
theorem relab {env : Env} {k : NameKind} (hk : (k == .free) = false) : ∀ {names : List (Str × NameKind)} {x : Str}, names.lookup x = some k →
    (names.map fun (n, k) => if (k == NameKind.free && env.scope.kind == .function && env.kindOf n == some .cell) then (n, NameKind.cell) else (n, k)).lookup x = some k
  | [], _, h => by cases h
  | (n, k') :: r, x, h => by
    have ih := @relab env k hk r x
    show List.lookup x ((if (k' == NameKind.free && env.scope.kind == .function && env.kindOf n == some .cell) = true then (n, NameKind.cell) else (n, k')) :: _) = _
    by_cases hx : x = n
    · subst hx
      rw [List.lookup_cons, beq_self_eq_true] at h
      cases h
      rw [hk, Bool.false_and, Bool.false_and, if_neg (by decide), List.lookup_cons, beq_self_eq_true]
    · rw [List.lookup_cons, beq_eq_false_iff_ne.mpr hx] at h
      split
      · rw [List.lookup_cons, beq_eq_false_iff_ne.mpr hx]; exact ih h
      · rw [List.lookup_cons, beq_eq_false_iff_ne.mpr hx]; exact ih h
theorem Ext.tail {n} {ρ : Rho} {h0} {ρ' : Rho} {h2 h3 h4 js} (x : Ext n ρ h0 ρ' h2) (x3 : Ext n (Rho.cA ρ' js) h2 (Rho.cA ρ' js) h3) (hj : ∀ b ∈ js, h0.get? b = none) (k4 : ∀ b o, b ∉ js → h3.get? b = some o → h4.get? b = some o) : Ext n ρ h0 ρ' h4 := by
  have nj : ∀ b o, h0.get? b = some o → b ∉ js := fun b o e q => by rw [hj b q] at e; cases e
  have nA : ∀ b o, h0.get? b = some o → ¬ρ.own b → ¬(Rho.cA ρ' js).own b := fun b o e q z => by
    rcases (cA_own b).mp z with z | z
    · exact nj b o e z
    · exact x.nown e q z
  refine ⟨x.w, x.fr, x.co, x.cc, x.len, x.l, x.own, fun b o e q nv => ?_, fun b o e q v => ?_, fun b o e => ?_, fun b o e q => ?_⟩
  · refine k4 b o (nj b o e) (x3.keep b o (x.keep b o e q nv) (q.imp (nA b o e) fun q => ?_) (nv.imp_right fun q => ?_)) <;> exact (show b ∈ ρ'.co from x.co ▸ q)
  · obtain ⟨o1, e1, c1, d1, v1⟩ := x.vol b o e q v
    obtain ⟨o2, e2, c2, d2, v2⟩ := x3.vol b o1 e1 (nA b o e q) v1
    exact ⟨o2, k4 b o2 (nj b o e) e2, c2.trans c1, d2.trans d1, v2⟩
  · obtain ⟨o1, e1⟩ := x.old b o e
    obtain ⟨o2, e2⟩ := x3.old b o1 e1
    exact ⟨o2, k4 b o2 (nj b o e) e2⟩
  · obtain ⟨sl, e1⟩ := x.frs b o e q
    obtain ⟨sl2, e2⟩ := x3.frs b _ e1 (by show b ∈ ρ'.fr.tail; rw [x.fr]; exact q)
    exact ⟨sl2, k4 b _ (nj b o e) e2⟩
theorem tra_AO {ρ : Rho} {is h} : Tra (ρ.cA is) h (ρ.cO is) h := ⟨fun _ _ e => e, fun _ _ e => e, fun b q => .inl ((cAO b).mpr q), fun b o e _ _ => e, fun b o e _ v => ⟨o, e, rfl, rfl, v⟩⟩
theorem tra_OA' {ρ : Rho} {is h} : Tra (ρ.cO is) h (ρ.cA is) h := ⟨fun _ _ e => e, fun _ _ e => e, fun b q => .inl ((cAO b).mp q), fun b o e _ _ => e, fun b o e _ v => ⟨o, e, rfl, rfl, v⟩⟩
theorem cA_free {G A env} {ρ : Rho} {m σ h is} (S : St G A env (ρ.cA is) m σ h) : ∀ b ∈ is, ¬ρ.own b := fun b hb q => by
  have d : (ρ.fr ++ ((is ++ ρ.cc) ++ (ρ.co ++ (ρ.w ++ ρ.l.filterMap id)))).Nodup := S.nodup
  have p : (ρ.fr ++ ((is ++ ρ.cc) ++ (ρ.co ++ (ρ.w ++ ρ.l.filterMap id)))).Perm (is ++ (ρ.fr ++ (ρ.cc ++ (ρ.co ++ (ρ.w ++ ρ.l.filterMap id))))) := by
    rw [List.append_assoc is, ← List.append_assoc ρ.fr, ← List.append_assoc is]
    exact (List.perm_append_comm).append_right _
  rw [p.nodup_iff, List.nodup_append] at d
  refine d.2.2 b hb b ?_ rfl
  simp only [List.mem_append, List.mem_filterMap, id, exists_eq_right]
  exact q

noncomputable def CE (G : Gd) (fd : FD) (ps : List Str) (d : Nat) (hn : Bool) (ar : V → List V) : List V → List V → AS → (List V → AS → Prop) → Prop
  | [], acc, σ, K => K acc σ
  | x :: r, acc, σ, K => FT G fd ps (ar x) σ d hn (fun v σ1 => LF v ∧ CE G fd ps d hn ar r (acc ++ [v]) σ1 K) (fun _ _ => False)
section
variable {G : Gd} {c : Cx} {A : Around} {env : Env} {ρ : Rho} {m : Loc} {σ : AS} {h h0 : Heap} {n : Nat}
theorem comp_run {I : Addr} {fp x px elt iter scope pos cl P J f fd ps d ar} (W : Itr G.w A [I] fp (.ref I) (.Name x px) n P J) (ok : Ok G c A env) (S0 : St G A env ρ m σ h0) (F : FnK G f fd ps) (hd : c.d = d + 1)
    (k : ∀ b o, h0.get? b = some o → h.get? b = some o) (hI0 : h0.get? I = none) (hIh : ∃ o, h.get? I = some o) (J0 : J 0 h) (hfp : ∀ b ∈ fp, ∃ o, h0.get? b = some o ∧ ¬ρ.own b ∧ ¬Vol o)
    {xs : List V} (hx : xs.length = n) (hsz : n ≤ 100000) (hP : ∀ i x v, xs[i]? = some x → P i v → VR G.EC ρ h0 x v) (lf : ∀ x ∈ xs, LF x) (hl : ∀ x, (ar x).length = ps.length)
    {K : List V → AS → Prop} (CB : CE G fd ps d c.hn ar xs [] σ K) {tk z} {E : Value → Shared → Prop} {RR : Value → Addr → Result → Shared → Prop}
    (hself : ∀ h tk (Q : Value → Shared → Prop) (E : Value → Shared → Prop), J 0 h → Q (.ref I) (sh z h tk) → wpAny (model PG G.w) A (pyIter (.ref I)) Q E (sh z h tk))
    (hcell : ∀ y ∈ scope.names, y.2 ≠ .cell) (hkind : scope.kind = .function) (hxl : scope.names.lookup x = some .local)
    (el : ∀ (C : Addr) (ρ : Rho) (σ : AS) (h : Heap) (tk : Tok) (mm : Str → Option Value) (v : V) (a : Value) (Q : Value → Shared → Prop) (E : Value → Shared → Prop), St G A env ρ m σ h → h.Ns C mm → mm x = some a → VR G.EC ρ h v a →
      (∀ vals, VRs G.EC ρ h (ar v) vals → wpAny (model PG G.w) A (call (.ref f) vals) Q E (sh z h tk)) → wpAny (model PG G.w) A (eval elt (compEnvC scope cl C env)) Q E (sh z h tk))
    (hRR : ∀ ρ' D C h' tk' vs σ' mC, K vs σ' → St G A env (ρ'.cA [C]) m σ' h' → VR G.EC (ρ'.cA [C]) h' (.lst vs) (.ref D) → h'.Ns C mC → ρ.l.length ≤ ρ'.l.length → h0.get? C = none →
      (∀ h3 h4, Ext ρ.l.length (ρ'.cA [C]) h' (ρ'.cA [C]) h3 → Heap.SameBut C h3 h4 → Ext ρ.l.length ρ h0 ρ' h4) → RR (.ref D) C (.ok .next) (sh z h' tk')) :
    wpAny (model PG G.w) A (newList []) (fun acc s₃ => wpAny (model PG G.w) A (newFunctionEnv scope env.globals cl [] env.qual none .none (some env)) (fun cenv s₄ =>
      codeAny (model PG G.w) A (.compStart (.ListComp elt [⟨.Name x px, iter, [], 0⟩] scope pos) 0 (.ref I) acc { cenv with scope := relabel scope env }) (RR acc cenv.locals) s₄) E s₃) E (sh z h tk) := by
  refine wpAny_newObj_type (wpAny_newFunctionEnv hcell (by intro y hy; simp at hy) (fun h₁ hns₁ hsb₁ => ?_) hkind)
  dsimp only at hns₁ hsb₁ ⊢
  generalize hH2 : h.push { cls := .type "list", dict := none, data := .seq ([] : List Value).toArray } = H2 at hns₁ hsb₁ ⊢
  have hC : H2.objs.size = h.objs.size + 1 := by rw [← hH2, Heap.size_push]
  generalize hCC : H2.objs.size = C at *
  generalize hDD : h.objs.size = D at *
  have hDC : D ≠ C := by rw [hC]; exact Nat.ne_of_lt (Nat.lt_succ_self _)
  have hIlt : I < D := by obtain ⟨o, e⟩ := hIh; rw [← hDD]; exact Heap.lt_size e
  have hID : I ≠ D := Nat.ne_of_lt hIlt
  have hIC : I ≠ C := by rw [hC]; exact Nat.ne_of_lt (Nat.lt_succ_of_lt hIlt)
  have hlt0 : ∀ b o, h.get? b = some o → b < D := fun b o e => hDD ▸ Heap.lt_size e
  have old : ∀ b o, h.get? b = some o → h₁.get? b = some o := fun b o e => hsb₁.extBut b o (by rw [hC]; exact Nat.ne_of_lt (Nat.lt_succ_of_lt (hlt0 b o e))) (Heap.get?_push_of_some _ (hH2 ▸ Heap.get?_push_of_some _ e))
  have hacc : h₁.get? D = some (listOf (List.toArray []) 0) := hsb₁.extBut _ _ hDC (Heap.get?_push_of_some _ (by rw [← hH2, ← hDD]; exact Heap.get?_push_size _ rfl))
  have k1 : ∀ b o, h0.get? b = some o → h₁.get? b = some o := fun b o e => old b o (k b o e)
  have n0 : ∀ b, D ≤ b → h0.get? b = none := fun b hb => get_none fun o e => Nat.lt_irrefl _ (Nat.lt_of_lt_of_le (hlt0 b o (k b o e)) hb)
  have hf : ∀ b ∈ [I, D, C], h0.get? b = none := fun b q => by
    simp only [List.mem_cons, List.not_mem_nil, or_false] at q
    rcases q with rfl | rfl | rfl
    · exact hI0
    · exact n0 _ (Nat.le_refl _)
    · exact n0 _ (by rw [hC]; exact Nat.le_succ _)
  have nd : [I, D, C].Nodup := by simp [hID, hIC, hDC]
  have hi1 : ∀ b ∈ [I, D, C], ∃ o, h₁.get? b = some o := fun b q => by
    simp only [List.mem_cons, List.not_mem_nil, or_false] at q
    rcases q with rfl | rfl | rfl
    · obtain ⟨o, e⟩ := hIh; exact ⟨o, old _ o e⟩
    · exact ⟨_, hacc⟩
    · obtain ⟨o, _, _, e, _⟩ := hns₁; exact ⟨o, e⟩
  have S1 := S0.takeA (is := [I, D, C]) k1 (fun b q => ⟨hf b q, hi1 b q⟩) nd
  have ncs : ∀ i h mC vals kk, J i h → h.Ns C mC → h.get? D = some (listOf (List.toArray vals) kk) → ∀ b ∈ [I, D, C], ∀ c, ¬h.IsCell b c := fun i h mC vals kk j nC hD b q c ⟨o, e, q'⟩ => by
    simp only [List.mem_cons, List.not_mem_nil, or_false] at q
    rcases q with rfl | rfl | rfl
    · exact (W.nc i h j).1 b (.head _) c ⟨o, e, q'⟩
    · rw [hD] at e; cases e; cases q'
    · obtain ⟨o', es, ep, e', hd', _⟩ := nC
      rw [e] at e'; cases e'
      rw [q'] at hd'; cases hd'
  have exs : ∀ i h mC vals kk, J i h → h.Ns C mC → h.get? D = some (listOf (List.toArray vals) kk) → ∀ b ∈ [I, D, C], ∃ o, h.get? b = some o := fun i h mC vals kk j nC hD b q => by
    simp only [List.mem_cons, List.not_mem_nil, or_false] at q
    rcases q with rfl | rfl | rfl
    · exact (W.nc i h j).2 b (.head _)
    · exact ⟨_, hD⟩
    · obtain ⟨o', es, ep, e', hd', _⟩ := nC
      exact ⟨o', e'⟩
  have fpA : ∀ (ρ2 : Rho) h2, Ext ρ.l.length (ρ.cA [I, D, C]) h₁ (ρ2.cA [I, D, C]) h2 → ∀ b ∈ fp, ∃ o, h0.get? b = some o ∧ h2.get? b = some o := fun ρ2 h2 x b q => by
    obtain ⟨o, e, no, nv⟩ := hfp b q
    refine ⟨o, e, x.keep b o (k1 b o e) (.inl fun z => ?_) (.inl nv)⟩
    rcases (cA_own b).mp z with z | z
    · rw [hf b z] at e; cases e
    · exact no z
  have J1 : J 0 h₁ := W.frame _ _ _ J0 fun b _ o e => old b o e
  have loop : ∀ s₃ : Shared, s₃ = sh z h₁ (tk + ([] : List (Str × Value)).length) →
      codeAny (model PG G.w) A (.compLoop (.ListComp elt [⟨.Name x px, iter, [], 0⟩] scope pos) 0 (.ref I) (.ref D) (compEnvC scope cl C env)) (RR (.ref D) C) s₃ := by
    rintro s₃ rfl
    refine codeAny_compLoop_tests
      (fun kk s' => ∃ (i : Nat) (ρ' : Rho) (h' : Heap) (tk' : Tok) (σ' : AS) (vs : List V) (vals : List Value) (mC : Str → Option Value) (kn : Nat), s' = sh z h' tk' ∧ i ≤ n ∧ kk = n + 1 - i ∧ vs.length = i ∧ J i h' ∧ h'.Ns C mC ∧ h'.get? D = some (listOf (List.toArray vals) kn) ∧
        VRs G.EC (ρ'.cA [I, D, C]) h' vs vals ∧ (∀ v ∈ vs, LF v) ∧ St G A env (ρ'.cA [I, D, C]) m σ' h' ∧ Ext ρ.l.length (ρ.cA [I, D, C]) h₁ (ρ'.cA [I, D, C]) h' ∧ (∀ a ∈ ρ'.cc, a ∈ ρ.cc) ∧ CE G fd ps d c.hn ar (xs.drop i) vs σ' K) ?_ (n + 1)
      (xi9 0 ρ h₁ _ σ [] [] _ _ ⟨rfl, Nat.zero_le _, rfl, rfl, J1, hns₁, hacc, .nil, fun _ q => (by cases q), S1, .refl (Nat.le_refl _), fun _ q => q, CB⟩)
    intro kk s' hI
    refine ex9 hI fun i ρ' h' tk' σ' vs vals mC kn hJ => ?_
    clear hI
    refine an13 hJ fun e1 hi e2 hvl j1 nC hD rv lfv S' x' cc' R' => ?_
    clear hJ
    subst e1 e2
    have nc1 := ncs i h' mC vals kn j1 nC hD
    by_cases hlt : i < n
    · have hxi : i < xs.length := by rw [hx]; exact hlt
      have R1 : FT G fd ps (ar xs[i]) σ' d c.hn (fun v σ1 => LF v ∧ CE G fd ps d c.hn ar (xs.drop (i + 1)) (vs ++ [v]) σ1 K) (fun _ _ => False) := by
        have : CE G fd ps d c.hn ar (xs[i] :: xs.drop (i + 1)) vs σ' K := by rw [← List.drop_eq_getElem_cons hxi]; exact R'
        exact this
      refine W.item i h' tk' z _ _ hlt j1 fun v h2 tk2 pv j2 kp2 => ?_
      have nC2 : h2.Ns C mC := nC.at' fun o e => kp2 C o (by simpa using hIC.symm) e
      have hD2 := kp2 D _ (by simpa using hID.symm) hD
      obtain ⟨S2, x2⟩ := S'.stepA (h' := h2) (fun b o q e => kp2 b o (fun w => q (by simp [List.mem_singleton.mp w])) e) (exs _ h2 mC vals kn j2 nC2 hD2) nc1
      refine wpAny_assign_Name (wpAny_storeName_local (lookup_relabel_local hxl) nC2 (fun h3 nC3 hs3 => ?_) (by simp [compEnvC, relabel, hkind]))
      refine wpAny_tests_nil ?_
      simp only [if_true]
      have hs3' : Heap.SameBut C h2 h3 := hs3
      have j3 : J (i + 1) h3 := W.frame _ _ _ j2 fun b q o e => hs3'.extBut b o (fun w => by
        subst w
        rcases List.mem_append.mp q with q | q
        · exact hIC.symm (List.mem_singleton.mp q)
        · obtain ⟨o', e', _⟩ := hfp b q
          rw [hf b (by simp)] at e'; cases e') e
      have hD3 := hs3'.extBut D _ hDC hD2
      obtain ⟨S3, x3⟩ := S2.stepA (h' := h3) (fun b o q e => hs3'.extBut b o (fun w => q (by simp [w])) e) (exs _ h3 _ vals kn j3 nC3 hD3) (ncs _ h2 mC vals kn j2 nC2 hD2)
      have x13 := x'.trans ((x2.trans (x3.mono x2.len)).mono x'.len)
      have S3O := S3.AtoO (ncs _ h3 _ vals kn j3 nC3 hD3)
      have rx : VR G.EC (ρ'.cO [I, D, C]) h3 xs[i] v := lf _ (List.getElem_mem hxi) _ _ _ _ _ _ (hP i _ v (List.getElem?_eq_getElem hxi) pv) (Tra0.fromA x13 k1 hf)
      refine el C (ρ'.cO [I, D, C]) σ' h3 _ _ xs[i] v _ _ S3O nC3 (by simp) rx fun avals ra => ?_
      refine callK ok S3O hd F ra (hl _) R1 (fun ρ4 h4 tk4 w a σ4 k4 S4 x4 r4 => ?_) fun _ _ _ _ _ _ q => False.elim q
      obtain ⟨lfw, k4⟩ := k4
      have e4 : ρ4 = ({ ρ4 with co := ρ'.co } : Rho).cO [I, D, C] := eta_cO x4.co
      generalize hr4 : ({ ρ4 with co := ρ'.co } : Rho) = r4' at e4
      have co4 : r4'.co = ρ'.co := by rw [← hr4]
      subst e4
      have keepO : ∀ b o, b ∈ [I, D, C] → h3.get? b = some o → h4.get? b = some o := fun b o q e => x4.keep b o e (.inr (List.mem_append_left _ q)) (.inr (List.mem_append_left _ q))
      have x4A : Ext ρ.l.length (ρ'.cA [I, D, C]) h3 (r4'.cA [I, D, C]) h4 := (x4.OtoA co4).mono x13.len
      have x14 := x13.trans x4A
      have j4 : J (i + 1) h4 := W.frame _ _ _ j3 fun b q o e => by
        rcases List.mem_append.mp q with q | q
        · exact keepO b o (by simp [List.mem_singleton.mp q]) e
        · obtain ⟨o1, e0, e1⟩ := fpA ρ' h3 x13 b q
          obtain ⟨o2, e0', e2⟩ := fpA r4' h4 x14 b q
          rw [e0] at e0'; cases e0'
          rw [e] at e1; cases e1
          exact e2
      have hD4 := keepO D _ (by simp) hD3
      have nC4 : h4.Ns C _ := nC3.at' fun o e => keepO C o (by simp) e
      refine append_at hD4 (fun h5 hs5 hD5 => ?_) (by rw [List.size_toArray, ← rv.1, hvl, sizeLine_eq]; omega)
      have hs5' : Heap.SameBut D h4 h5 := hs5
      have j5 : J (i + 1) h5 := W.frame _ _ _ j4 fun b q o e => hs5'.extBut b o (fun w => by
        subst w
        rcases List.mem_append.mp q with q | q
        · exact hID.symm (List.mem_singleton.mp q)
        · obtain ⟨o', e', _⟩ := hfp b q
          rw [hf b (by simp)] at e'; cases e') e
      have nC5 := nC4.at' fun o e => hs5'.extBut C o hDC.symm e
      have hD5' : h5.get? D = some (listOf (List.toArray (vals ++ [a])) (kn + 1)) := by rw [hD5]; simp [PySem.W.listOf]
      obtain ⟨S5, x5⟩ := S4.OtoA.stepA (h' := h5) (fun b o q e => hs5'.extBut b o (fun w => q (by simp [w])) e) (exs _ h5 _ _ _ j5 nC5 hD5') (ncs _ h4 _ vals kn j4 nC4 hD4)
      have x35 : Ext ρ.l.length (ρ'.cA [I, D, C]) h' (r4'.cA [I, D, C]) h5 := (((x2.trans (x3.mono x2.len)).mono x'.len).trans x4A).trans (x5.mono x4A.len)
      refine ⟨n + 1 - (i + 1), by omega, xi9 (i + 1) r4' h5 tk4 σ4 (vs ++ [w]) (vals ++ [a]) _ (kn + 1) ⟨rfl, hlt, rfl, by rw [List.length_append, List.length_singleton, hvl], j5, nC5, hD5', (lf_ext lfv rv x35).append (.one ((r4.tra tra_OA').ext x5)), fun v q => ?_, S5, x'.trans x35, fun a q => cc' a (x4.cc a q), k4⟩⟩
      rcases List.mem_append.mp q with q | q
      · exact lfv v q
      · rw [List.mem_singleton.mp q]; exact lfw
    · obtain rfl : i = n := Nat.le_antisymm hi (Nat.not_lt.mp hlt)
      have R1 : K vs σ' := by
        rw [List.drop_of_length_le (by rw [hx]; exact Nat.le_refl _)] at R'; exact R'
      refine W.done h' tk' z _ _ j1 fun h2 tk2 kp2 => ?_
      have nC2 : h2.Ns C mC := nC.at' fun o e => kp2 C o (by simpa using hIC.symm) e
      have hD2 := kp2 D _ (by simpa using hID.symm) hD
      have S'' : St G A env ((ρ'.cA [C]).cA [I, D]) m σ' h' := S'
      have nc2 : ∀ b ∈ [I, D], ∀ c, ¬h'.IsCell b c := fun b q => nc1 b ((List.mem_cons.mp q).elim (fun w => by simp [w]) fun w => by simp [List.mem_singleton.mp w])
      obtain ⟨S2, t2⟩ := S''.dropK (h' := h2) (fun b o q e => kp2 b o (fun w => q (by simp [List.mem_singleton.mp w])) e) nc2
      have nD : ¬(ρ'.cA [C]).own D := cA_free S'' D (by simp)
      refine hRR ρ' D C h2 tk2 vs σ' mC R1 S2 (.lst hD2 nD rv.1 (fun i x v e1 e2 => (rv.2 i x v e1 e2).tra t2)) nC2 x'.len (hf C (by simp)) fun h3 h4 x3 hs4 => ?_
      exact (x'.fromK (fun b o q e => kp2 b o (fun w => q (by simp [List.mem_singleton.mp w])) e) k1 hf cc').tail x3 (fun b q => hf b (by simp [List.mem_singleton.mp q])) fun b o q e => hs4.extBut b o (fun w => q (by simp [w])) e
  exact codeAny_compStart_list (loop _ rfl) (hself h₁ _ _ _ J1 (loop _ rfl))
end
end Mine
end
section
open PySem PySem.W PyProof.Rows PySem.Calls PySem.Spec PySem.SeqAt
set_option maxRecDepth 10000
namespace Mine
section
variable {G : Gd} {c : Cx} {A : Around} {env : Env} {ρ : Rho} {m : Loc} {σ : AS} {h : Heap} {tk : Tok} {z : Shared} {scope : Scope} {cl : List (Str × Addr)} {C : Addr}
theorem cn_glob (ok : Ok G c A env) (S : St G A env ρ m σ h) {x px v} (hkind : scope.kind = .function) (hx : nsIn G.K mainGlobals x = some (some v)) (hk : scope.names.lookup x = some .globalImplicit) (hd : (x == ("__debug__" : Str)) = false) {Q : Value → Shared → Prop} {E : Value → Shared → Prop} (q : Q v (sh z h tk)) :
    wpAny (model PG G.w) A (eval (.Name x px) (compEnvC scope cl C env)) Q E (sh z h tk) := by
  obtain ⟨L, a, cd, cl', rfl⟩ := ok.env
  obtain ⟨p, loose, mg, mb, T⟩ := ok.gd.T
  refine Name_function_global hkind (relab (by decide) hk) (loadGlobal_global (s := sh z h tk) (T.g.keeps fun b o e => S.base b o e) (mg_of ok.gd.X T.g hx) q) hd
theorem cn_loc {x px v mm} (hkind : scope.kind = .function) (hk : scope.names.lookup x = some .local) (hn : h.Ns C mm) (e : mm x = some v) (hd : (x == ("__debug__" : Str)) = false) {Q : Value → Shared → Prop} {E : Value → Shared → Prop} (q : Q v (sh z h tk)) :
    wpAny (model PG G.w) A (eval (.Name x px) (compEnvC scope cl C env)) Q E (sh z h tk) := wpAny_Name (wpAny_loadName_local hkind (relab (by decide) hk) hn e q) hd
theorem relab_free {env : Env} (hk : env.scope.kind = .function) : ∀ {names : List (Str × NameKind)} {x : Str}, names.lookup x = some .free → env.kindOf x = some .cell →
    (names.map fun (n, k) => if (k == NameKind.free && env.scope.kind == .function && env.kindOf n == some .cell) then (n, NameKind.cell) else (n, k)).lookup x = some .cell
  | [], _, h, _ => by cases h
  | (n, k') :: r, x, h, e => by
    have ih := @relab_free env hk r x
    show List.lookup x ((if (k' == NameKind.free && env.scope.kind == .function && env.kindOf n == some .cell) = true then (n, NameKind.cell) else (n, k')) :: _) = _
    by_cases hx : x = n
    · subst hx
      rw [List.lookup_cons, beq_self_eq_true] at h
      cases h
      rw [if_pos (by rw [hk, e]; decide), List.lookup_cons, beq_self_eq_true]
    · rw [List.lookup_cons, beq_eq_false_iff_ne.mpr hx] at h
      split <;> rw [List.lookup_cons, beq_eq_false_iff_ne.mpr hx] <;> exact ih h e
theorem cn_cell {x px v ca} (hkind : scope.kind = .function) (hke : env.scope.kind = .function) (hk : scope.names.lookup x = some .free) (he : env.kindOf x = some .cell) (hc : cl.lookup x = some ca) (hi : h.IsCell ca (some v)) (hd : (x == ("__debug__" : Str)) = false) {Q : Value → Shared → Prop} {E : Value → Shared → Prop} (q : Q v (sh z h tk)) :
    wpAny (model PG G.w) A (eval (.Name x px) (compEnvC scope cl C env)) Q E (sh z h tk) := wpAny_Name (wpAny_loadName_cell hkind (relab_free hke hk he) hc hi q) hd

noncomputable abbrev EL (G : Gd) (A : Around) (env : Env) (m : Loc) (scope : Scope) (cl : List (Str × Addr)) (elt : Expr) (x : Str) (f : Addr) (ar : V → List V) (z : Shared) : Prop :=
  ∀ (C : Addr) (ρ : Rho) (σ : AS) (h : Heap) (tk : Tok) (mm : Str → Option Value) (v : V) (a : Value) (Q : Value → Shared → Prop) (E : Value → Shared → Prop), St G A env ρ m σ h → h.Ns C mm → mm x = some a → VR G.EC ρ h v a →
      (∀ vals, VRs G.EC ρ h (ar v) vals → wpAny (model PG G.w) A (call (.ref f) vals) Q E (sh z h tk)) → wpAny (model PG G.w) A (eval elt (compEnvC scope cl C env)) Q E (sh z h tk)
theorem el_one {f fd ps fn fp x xp pos} (ok : Ok G c A env) (F : FnK G f fd ps) (hkind : scope.kind = .function) (hf : nsIn G.K mainGlobals fn = some (some (.ref f))) (hfk : scope.names.lookup fn = some .globalImplicit) (hxk : scope.names.lookup x = some .local)
    (hd1 : (fn == ("__debug__" : Str)) = false) (hd2 : (x == ("__debug__" : Str)) = false) : EL G A env m scope cl (.Call (.Name fn fp) [.Name x xp] [] pos) x f (fun v => [v]) z := fun C ρ σ h tk mm v a Q E S hn e r k => by
  refine Call_ (cn_glob ok S hkind hf hfk hd1 (callWith_fn (KF := G.K) F.keep rfl (args_cons (cn_loc hkind hxk hn e hd2 (args_nil ⟨S.inK ok.gd.X, ?_⟩)))))
  exact k [a] (.one r)
theorem el_two {f fd ps fn fp x xp y yp pos vy} (ok : Ok G c A env) (F : FnK G f fd ps) (hkind : scope.kind = .function) (hf : nsIn G.K mainGlobals fn = some (some (.ref f))) (hfk : scope.names.lookup fn = some .globalImplicit) (hxk : scope.names.lookup x = some .local)
    (hyk : scope.names.lookup y = some .free) (hye : c.scope.names.lookup y = some .cell) (hm : m.lookup y = some vy) (hcl : cl.lookup y = env.cells.lookup y)
    (hd1 : (fn == ("__debug__" : Str)) = false) (hd2 : (x == ("__debug__" : Str)) = false) (hd3 : (y == ("__debug__" : Str)) = false) : EL G A env m scope cl (.Call (.Name fn fp) [.Name y yp, .Name x xp] [] pos) x f (fun v => [vy, v]) z := fun C ρ σ h tk mm v a Q E S hn e r k => by
  have hke : env.scope.names.lookup y = some .cell := by obtain ⟨L, a, cd, cl', rfl⟩ := ok.env; exact hye
  have hkk : env.scope.kind = .function := by obtain ⟨L, a, cd, cl', rfl⟩ := ok.env; exact ok.kind
  obtain ⟨ca, b, e1, e2, r2, _⟩ := S.cel y vy hm (.inl hke)
  refine Call_ (cn_glob ok S hkind hf hfk hd1 (callWith_fn (KF := G.K) F.keep rfl (args_cons (cn_cell hkind hkk hyk hke (hcl.trans e1) e2 hd3 (args_cons (cn_loc hkind hxk hn e hd2 (args_nil ⟨S.inK ok.gd.X, ?_⟩)))))))
  exact k [b, a] (.cons r2 (.one r))
theorem self_list (hh : A.handled = none) {I ax : Addr} (ne : ax ≠ I) {items : Array Value} : ∀ h tk (Q : Value → Shared → Prop) (E : Value → Shared → Prop), (h.IsListIter I ax 0 ∧ h.IsList ax items) → Q (.ref I) (sh z h tk) → wpAny (model PG G.w) A (pyIter (.ref I)) Q E (sh z h tk) :=
  fun h tk Q E j q => (Walks.list (prog := PG) (w := G.w) hh I ax ne items).self 0 (sh z h tk) Q E j q
theorem self_range (hh : A.handled = none) {I : Addr} {n : Nat} : ∀ h tk (Q : Value → Shared → Prop) (E : Value → Shared → Prop), IsRangeIter h I (0 + ((0 : Nat) : Int) * 1) ((n : Int) - ((0 : Nat) : Int)) 1 → Q (.ref I) (sh z h tk) → wpAny (model PG G.w) A (pyIter (.ref I)) Q E (sh z h tk) :=
  fun h tk Q E j q => (Walks.range (prog := PG) (w := G.w) hh I 0 1 n).self 0 (sh z h tk) Q E j q
end

section
variable {G : Gd} {c : Cx} {m : Loc} {σ : AS} {K : V → AS → Prop} {X : V → AS → Prop}
theorem e_comp {elt x px iter scope pos f fd ps d fn fp xp cpos} (he : elt = .Call (.Name fn fp) [.Name x xp] [] cpos) (hh : c.hn = true) (F : FnK G f fd ps) (hl : ps.length = 1) (hd : c.d = d + 1) (hkind : scope.kind = .function) (hf : nsIn G.K mainGlobals fn = some (some (.ref f))) (hfk : scope.names.lookup fn = some .globalImplicit) (hxk : scope.names.lookup x = some .local)
    (hfree : ∀ y ∈ scope.names, y.2 ≠ .free) (hcell : ∀ y ∈ scope.names, y.2 ≠ .cell) (hnames : ∀ y ∈ scope.names, y.2 = .local → scope.names.lookup y.1 = some .local)
    (h : AE G c iter m σ (fun v σ1 => ∃ xs, v = .lst xs ∧ (∀ x ∈ xs, LF x) ∧ xs.length ≤ 100000 ∧ CE G fd ps d c.hn (fun v => [v]) xs [] σ1 (fun vs σ2 => K (.lst vs) σ2)) X)
    (hs : ∀ env x, foldedSetIterable iter env x = pure x := by intro _ _; rfl) (hd1 : (fn == ("__debug__" : Str)) = false := by decide) (hd2 : (x == ("__debug__" : Str)) = false := by decide) : AE G c (.ListComp elt [⟨.Name x px, iter, [], 0⟩] scope pos) m σ K X := by
  intro A env ρ hp tk z Q E ok S hQ hX
  subst he
  show wpAny _ A (eval (.ListComp (.Call (.Name fn fp) [.Name x xp] [] cpos) [⟨.Name x px, iter, [], 0⟩] scope pos) env) Q E _
  rw [eval_ListComp]
  refine wpAny_comprehension_free (use := none) rfl (hs env) (closureFor_none hfree) hkind hnames ?_
  refine h A env ρ hp tk z _ _ ok S (fun ρ1 h1 tk1 v a σ1 k1 S1 x1 r1 => ?_) hX
  obtain ⟨xs, rfl, lf, hsz, CB⟩ := k1
  cases r1 with
  | @lst _ ax n vals e no hl' hv =>
    have il : h1.IsList ax vals.toArray := isList_of e
    refine wpAny_pyIter_list il ?_
    have ne : ax ≠ h1.objs.size := Nat.ne_of_lt (Heap.lt_size e)
    refine comp_run (itr_list (ok.hn hh) ne (.inl ⟨x, px, rfl⟩)) ok S1 F hd (fun b o e => Heap.get?_push_of_some _ e) get_size ⟨_, Heap.get?_push_size _ rfl⟩ ⟨⟨_, Heap.get?_push_size _ rfl, rfl, rfl⟩, il.push _⟩ (fun b q => ?_) (xs := xs) (by simp [hl']) (by rw [List.size_toArray, ← hl']; exact hsz) (fun i x v e1 e2 => hv i x v e1 (by simpa using e2)) lf (ar := fun v => [v]) (fun _ => hl.symm) CB (self_list (ok.hn hh) ne) hcell hkind hxk
      (el_one ok F hkind hf hfk hxk hd1 hd2) fun ρ' D C h' tk' vs σ' mC k S' r nC hlen hC xf => ⟨mC, nC, fun h'' hs'' => ?_⟩
    · obtain rfl := List.mem_singleton.mp q
      exact ⟨_, e, no, nv_seq rfl⟩
    · obtain ⟨o, es, ep, eC, dC, _⟩ := nC
      obtain ⟨S2, t2⟩ := S'.dropK (h' := h'') (fun b o q e => hs''.extBut b o (fun w => q (by simp [w])) e) (fun b q c ⟨o', e', q'⟩ => by
        obtain rfl := List.mem_singleton.mp q
        rw [eC] at e'; cases e'
        rw [dC] at q'; cases q')
      exact hQ ρ' h'' tk' _ _ σ' k S2 (x1.trans ((xf h' h'' (.refl hlen) hs'').mono (Nat.le_refl _) |>.mono x1.len)) (r.tra t2)
end
section
variable {G : Gd} {c : Cx} {m : Loc} {σ : AS} {K : Fl → Loc → AS → Prop} {X : V → Loc → AS → Prop}
theorem closure_of {scope : Scope} {env : Env} (g : Str → Addr) (h : ∀ x ∈ scope.names, x.2 = .free → env.cells.lookup x.1 = some (g x.1)) : closureFor scope env = pure ((scope.names.filter (·.2 == .free)).reverse.map fun x => (x.1, g x.1)) := by
  have key : ∀ (l : List (Str × NameKind)) (acc : List (Str × Addr)), (∀ x ∈ l, x.2 = NameKind.free → env.cells.lookup x.1 = some (g x.1)) →
      (forIn l acc fun (x : Str × NameKind) (r : List (Str × Addr)) => if (x.2 == NameKind.free) = true then (do let a ← PySem.cellOf env x.1; pure (ForInStep.yield ((x.1, a) :: r)) : Sem _) else pure (ForInStep.yield r)) = pure (((l.filter (·.2 == .free)).reverse.map fun x => (x.1, g x.1)) ++ acc) := by
    intro l
    induction l with
    | nil => intro acc _; rfl
    | cons p r ih =>
      intro acc hl
      obtain ⟨n, k⟩ := p
      rw [List.forIn_cons]
      by_cases q : k = .free
      · subst q
        have e := hl (n, .free) (.head _) rfl
        have e' : env.cells.lookup n = some (g n) := e
        simp only [PySem.cellOf, e']
        have := ih ((n, g n) :: acc) fun x hx => hl x (.tail _ hx)
        rw [List.filter_cons_of_pos (by rfl), List.reverse_cons, List.map_append, List.append_assoc]
        exact this
      · have q' : (k == NameKind.free) = false := by simpa using q
        simp only [q', Bool.false_eq_true, if_false]
        rw [List.filter_cons_of_neg (by simpa using q)]
        exact ih acc fun x hx => hl x (.tail _ hx)
  have := key scope.names [] h
  rw [List.append_nil] at this
  simp only [closureFor]
  rw [this]
  rfl
theorem s_comp {elt x px scope pos f fd ps d fn fp xp cpos y yp u pu rp nk np rpos apos vy} {n : Nat} (he : elt = .Call (.Name fn fp) [.Name y yp, .Name x xp] [] cpos) (hh : c.hn = true) (F : FnK G f fd ps) (hl : ps.length = 2) (hd : c.d = d + 1) (hkind : scope.kind = .function) (hf : nsIn G.K mainGlobals fn = some (some (.ref f))) (hfk : scope.names.lookup fn = some .globalImplicit) (hxk : scope.names.lookup x = some .local)
    (hyk : scope.names.lookup y = some .free) (hye : c.scope.names.lookup y = some .cell) (hm : m.lookup y = some vy) (hu : c.scope.names.lookup u = some .local) (hr : nsIn G.K mainGlobals "range" = some none) (hrk : c.scope.names.lookup ("range" : Str) = some .globalImplicit)
    (hfree : scope.names.filter (·.2 == .free) = [(y, .free)]) (hcell : ∀ y ∈ scope.names, y.2 ≠ .cell) (hnames : ∀ y ∈ scope.names, y.2 = .local → scope.names.lookup y.1 = some .local) (hn' : n ≤ 100000)
    (h : CE G fd ps d c.hn (fun v => [vy, v]) (upto n) [] σ (fun vs σ2 => K .next ((u, .lst vs) :: m) σ2)) (hv : bootBuiltins "range" = some (.type "range"))
    (hsw : ∀ L a cd cl, swapsWith (.ListComp elt [⟨.Name x px, .Call (.Name "range" rp) [.Constant (.int n) nk np] [] rpos, [], 0⟩] scope pos) (some (.Name u pu)) apos.line (envX c.qual c.scope L a cd cl) = pure true := by intro _ _ _ _; rfl)
    (hs : ∀ env x, foldedSetIterable (.Call (.Name "range" rp) [.Constant (.int n) nk np] [] rpos) env x = pure x := by intro _ _; rfl) (hd1 : (fn == ("__debug__" : Str)) = false := by decide) (hd2 : (x == ("__debug__" : Str)) = false := by decide) (hd3 : (y == ("__debug__" : Str)) = false := by decide) :
    S1 G c (.Assign [.Name u pu] (.ListComp elt [⟨.Name x px, .Call (.Name "range" rp) [.Constant (.int n) nk np] [] rpos, [], 0⟩] scope pos) apos) m σ K X := by
  intro A env ρ hp tk z Q E ok S hn hQ hE
  subst he
  have hke : env.scope.names.lookup y = some .cell := by obtain ⟨L, a, cd, cl', rfl⟩ := ok.env; exact hye
  obtain ⟨ca, b, e1, e2, r2, _⟩ := S.cel y vy hm (.inl hke)
  have hclos : closureFor scope env = pure [(y, ca)] := by
    have := closure_of (scope := scope) (env := env) (fun _ => ca) (fun x hx hfx => by
      have : x ∈ scope.names.filter (·.2 == .free) := List.mem_filter.mpr ⟨hx, by simp [hfx]⟩
      rw [hfree] at this
      rw [List.mem_singleton.mp this]; exact e1)
    rw [hfree] at this
    exact this
  show wpAny _ A (exec (.Assign [.Name u pu] (.ListComp (.Call (.Name fn fp) [.Name y yp, .Name x xp] [] cpos) [⟨.Name x px, .Call (.Name "range" rp) [.Constant (.int n) nk np] [] rpos, [], 0⟩] scope pos) apos) env) Q E _
  rw [exec_Assign_Name_used _ _ _ _ (by obtain ⟨L, a, cd, cl, rfl⟩ := ok.env; exact hsw L a cd cl)]
  refine wpAny_bind (wpAny_standAt (wpAny_bind ?_))
  show wpAny _ A (do let _ ← comprehension (.ListComp (.Call (.Name fn fp) [.Name y yp, .Name x xp] [] cpos) [⟨.Name x px, .Call (.Name "range" rp) [.Constant (.int n) nk np] [] rpos, [], 0⟩] scope pos) scope env _ (newList []) false (eval (.Call (.Name "range" rp) [.Constant (.int n) nk np] [] rpos) env) (some (assign (.Name u pu) env))) _ _ _
  refine wpAny_bind (PySem.wpAny_mono (wpAny_comprehension_free (use := some (assign (.Name u pu) env)) (Q := fun _ s' => Q .next s') rfl (hs env) hclos hkind hnames ?_) (fun _ s' hq => wpAny_pure (wpAny_pure hq)) fun _ _ e => e)
  refine Call_ ?_
  refine e_blt (K := fun v σ1 => v = .cst (.type "range") ∧ σ1 = σ) (X := fun v σ1 => False) hr hv hrk ⟨rfl, rfl⟩ (by decide) (by decide) A env ρ hp tk z _ _ ok S (fun ρ0 h0 tk0 v a σ0 k0 S0 x0 r0 => ?_) fun _ _ _ _ _ _ q => False.elim q
  obtain ⟨rfl, rfl⟩ := k0
  cases r0
  refine callWith_type1 (args_cons ?_ rfl) rfl
  refine wpAny_Constant_int (args_nil ?_)
  refine call_range_1 ?_
  dsimp only
  refine wpAny_pyIter_range (IsRange.new ..) (small_one (by decide) (by decide) (by omega) (by omega)) ?_
  have hsz : Builtin.Range.rangeSize 0 (n : Int) 1 = (n : Int) := by rw [rangeSize_one]; split <;> omega
  obtain ⟨S2, x2⟩ := S0.grow (h' := h0.push { cls := .type "range", data := .fields #[.int 0 (tk0 + 1), .int n tk0, .int 1 (tk0 + 1 + 1)] }) fun b o e => Heap.get?_push_of_some _ e
  have x02 := (x0.trans (x2.mono x0.len)).mono hn
  refine comp_run (itr_range (n := n) (ok.hn hh)) ok S2 F hd (fun b o e => Heap.get?_push_of_some _ e) get_size ⟨_, Heap.get?_push_size _ rfl⟩ ?_ (fun b q => by cases q) (xs := upto n) (by simp [upto]) hn' (fun i x v e1 e2 => ?_) (fun x hx => ?_) (ar := fun v => [vy, v]) (fun _ => hl.symm) h (self_range (ok.hn hh)) hcell hkind hxk
      (el_two ok F hkind hf hfk hxk hyk hye hm (by rw [e1]; simp) hd1 hd2 hd3) fun ρ' D C h' tk' vs σ' mC k S' r nC hlen hC xf => ?_
  · have e1 : (0 + ((0 : Nat) : Int) * 1) = 0 := by simp
    have e2 : ((n : Int) - ((0 : Nat) : Int)) = Builtin.Range.rangeSize 0 n 1 := by rw [hsz]; simp
    rw [e1, e2]
    exact Heap.get?_push_size _ rfl
  · obtain ⟨t, rfl⟩ := e2
    have : x = V.int (0 + (i : Int) * 1) := by
      unfold upto at e1
      rw [List.getElem?_map] at e1
      have hi : i < n := by
        cases q : (List.range n)[i]? with
        | none => rw [q] at e1; cases e1
        | some j => have := (List.getElem?_eq_some_iff.mp q).1; simpa using this
      rw [List.getElem?_range hi] at e1
      have := Option.some.inj e1
      rw [← this]; simp
    rw [this]
    exact .int
  · obtain ⟨i, _, rfl⟩ := List.mem_map.mp hx
    exact .int
  · obtain ⟨o, es, ep, eC, dC, nsC⟩ := nC
    have nc : ∀ b ∈ [C], ∀ c, ¬h'.IsCell b c := fun b q c ⟨o', e', q'⟩ => by
      obtain rfl := List.mem_singleton.mp q
      rw [eC] at e'; cases e'
      rw [dC] at q'; cases q'
    have SO := S'.AtoO nc
    refine PyProof.Rows.assign_Name (storeL ok SO hu (r.tra tra_AO) fun h3 S3 x3 => ?_)
    have eC3 : h3.get? C = some o := x3.keep C o eC (.inr (.head _)) (.inr (.head _))
    refine ⟨mC, ⟨o, es, ep, eC3, dC, nsC⟩, fun h'' hs'' => ?_⟩
    obtain ⟨S4, t4⟩ := S3.OtoA.dropK (h' := h'') (fun b o q e => hs''.extBut b o (fun w => q (by simp [w])) e) (fun b q c ⟨o', e', q'⟩ => by
        obtain rfl := List.mem_singleton.mp q
        rw [eC3] at e'; cases e'
        rw [dC] at q'; cases q')
    exact hQ ρ' h'' _ .next _ σ' _ k S4 (x02.trans ((xf h3 h'' ((x3.mono hlen).OtoA rfl) hs'').mono x02.len)) .next
end
end Mine
end
section
open PySem PySem.W PyProof.Rows PySem.Calls PySem.Spec PySem.SeqAt
set_option maxRecDepth 10000
namespace Mine
section
variable {G : Gd} {c : Cx} {A : Around} {env : Env} {ρ : Rho} {m : Loc} {σ : AS} {h : Heap}
@[reducible] noncomputable def Rho.nocc (ρ : Rho) : Rho := { ρ with cc := [] }
theorem nocc_own {b} (q : ρ.nocc.own b) : ρ.own b := by
  rcases q with q | q | q
  · exact .inl q
  · cases q
  · exact .inr (.inr q)
theorem tra_nocc : Tra ρ h ρ.nocc h := ⟨fun _ _ e => e, fun _ _ e => e, fun b q => .inl (nocc_own q), fun b o e _ _ => e, fun b o e _ v => ⟨o, e, rfl, rfl, v⟩⟩
theorem St.cc_free (S : St G A env ρ m σ h) {b} (hb : b ∈ ρ.cc) : ¬ρ.nocc.own b := fun q => by
  have d := S.nodup
  rw [List.nodup_append] at d
  obtain ⟨_, d2, f1⟩ := d
  rw [List.nodup_append] at d2
  obtain ⟨_, _, f2⟩ := d2
  rcases q with q | q | q | q | q
  · exact f1 b q b (List.mem_append_left _ hb) rfl
  · cases q
  · exact f2 b hb b (List.mem_append_left _ q) rfl
  · exact f2 b hb b (List.mem_append_right _ (List.mem_append_left _ q)) rfl
  · exact f2 b hb b (List.mem_append_right _ (List.mem_append_right _ (mem_l' q))) rfl
theorem St.relCC (S : St G A env ρ m σ h) (full : ∀ x, env.scope.names.lookup x = some .cell → m.lookup x ≠ none) : St G A env ρ.nocc m σ h := by
  refine ⟨S.base, S.low, S.fl, let ⟨o, q, F⟩ := S.frs; ⟨o, q, F.eq, F.kd, F.ok⟩, fun a q => S.hown a (nocc_own q), ?_, ?_, fun y v e q => ?_, fun y q e => (full y q e).elim, S.wl, S.ll, fun i c a e1 e2 => (S.cw i c a e1 e2).tra tra_nocc fun o e => e, fun i c a e1 e2 => (S.cl i c a e1 e2).tra tra_nocc fun o e => e⟩
  · have d : (ρ.fr ++ (ρ.cc ++ (ρ.co ++ (ρ.w ++ ρ.l.filterMap id)))).Nodup := S.nodup
    exact d.sublist ((List.Sublist.refl _).append (List.sublist_append_right _ _))
  · obtain ⟨mm, hn, hm⟩ := S.loc
    exact ⟨mm, hn, fun y v e q => let ⟨a, q1, q2⟩ := hm y v e q; ⟨a, q1, q2.tra tra_nocc⟩⟩
  · obtain ⟨ca, a, q1, q2, q3, q4⟩ := S.cel y v e q
    exact ⟨ca, a, q1, q2, q3.tra tra_nocc, .inr (q4.elim S.cc_free fun q4 z => q4 (nocc_own z))⟩
theorem ext_nocc {n} (hn : n ≤ ρ.l.length) : Ext n ρ h ρ.nocc h := ⟨fun _ _ z => z, rfl, rfl, fun _ z => (by cases z), hn, fun _ _ => rfl, fun b q => .inl (nocc_own q), fun b o e _ _ => e, fun b o e _ v => ⟨o, e, rfl, rfl, v⟩, fun b o e => ⟨o, e⟩, fun b o e _ => ⟨o.slots, e⟩⟩

theorem clos_look {g : Str → Addr} : ∀ {l : List (Str × NameKind)} {y : Str}, y ∈ l.map (·.1) → (l.map fun x => (x.1, g x.1)).lookup y = some (g y)
  | [], y, hy => by cases hy
  | (n, k) :: r, y, hy => by
    rw [List.map_cons, List.lookup_cons]
    by_cases q : y = n
    · subst q; rw [beq_self_eq_true]
    · rw [beq_eq_false_iff_ne.mpr q]
      exact clos_look ((List.mem_cons.mp hy).resolve_left q)
theorem set_same {α : Type} : ∀ {l : List α} {i : Nat} {x : α}, l[i]? = some x → l.set i x = l
  | [], i, x, e => rfl
  | a :: r, 0, x, e => by cases e; rfl
  | a :: r, i + 1, x, e => by rw [List.set_cons_succ, set_same (l := r) (by simpa using e)]
theorem amongHit (pos : Pos) (cv : Value) : codeAmong pos (#[rawInt pos.line, rawInt pos.col, cv] : Array Value).toList = some cv := by
  simp [codeAmong, rawInt]

noncomputable def cellVal : Option Obj → Value
  | some ⟨_, _, .cell (some a), _⟩ => a
  | _ => .none
theorem cellVal_of {o : Obj} {a} (d : o.data = .cell (some a)) : cellVal (some o) = a := by
  obtain ⟨oc, od, dt, sl⟩ := o
  cases d
  rfl

theorem s_def {K : Fl → Loc → AS → Prop} {X : V → Loc → AS → Prop} {name params body scope pos cc P k made} {es : List (Str × V)} (hcd : c.cd = some (.ref cc)) (hC : CodeHd G.H cc P) (hw : σ.w[k]? = some (.tab P pos (c.qual ++ ".<locals>." ++ name) made))
    (hd0 : params.defaults = []) (hk0 : params.kw_defaults = []) (ha : ∀ env, annTrees params none env = []) (hnm : c.scope.names.lookup name = some .local)
    (full : ∀ x, c.scope.names.lookup x = some .cell → m.lookup x ≠ none) (hfr : ∀ x ∈ scope.names, x.2 = .free → c.scope.names.lookup x.1 = some .cell) (hes : ∀ x v, es.lookup x = some v → (x, .free) ∈ scope.names ∧ m.lookup x = some v)
    (h : K .next ((name, .clo ⟨name, c.qual ++ ".<locals>." ++ name, params, body, scope⟩ es) :: m) { σ with w := σ.w.set k (.tab P pos (c.qual ++ ".<locals>." ++ name) true) }) :
    S1 G c (.FunctionDef name params body [] none [] scope none name pos) m σ K X := by
  intro A env ρ hp tk z Q E ok S hn hQ hE
  have hcode : env.code = .ref cc := ok.cd _ hcd
  obtain ⟨L, fa, cdv, cl, he⟩ := ok.env
  have hsc : env.scope = c.scope := by rw [he]
  have hqn : qualnameIn env name name = c.qual ++ ".<locals>." ++ name := by
    unfold qualnameIn
    have : env.kindOf name = some .local := by show env.scope.names.lookup name = _; rw [hsc]; exact hnm
    rw [this, he]
    rfl
  have full' : ∀ x, env.scope.names.lookup x = some .cell → m.lookup x ≠ none := fun x q => full x (hsc ▸ q)
  have cel : ∀ x, env.scope.names.lookup x = some .cell → ∃ v ca a, m.lookup x = some v ∧ env.cells.lookup x = some ca ∧ hp.IsCell ca (some a) ∧ VR G.EC ρ hp v a ∧ (ca ∈ ρ.cc ∨ ¬ρ.own ca) := fun x q => by
    cases e : m.lookup x with
    | none => exact (full' x q e).elim
    | some v => obtain ⟨ca, a, r⟩ := S.cel x v e (.inl q); exact ⟨v, ca, a, rfl, r⟩
  have hcl : closureFor scope env = pure ((scope.names.filter (·.2 == .free)).reverse.map fun x => (x.1, (env.cells.lookup x.1).getD 0)) := closure_of (fun y => (env.cells.lookup y).getD 0) fun x hx hf => by
    obtain ⟨v, ca, a, _, e, _⟩ := cel x.1 (by rw [hsc]; exact hfr x hx hf)
    rw [e]; rfl
  obtain ⟨mg, bm, ob, g1, b1, b2, b3, b4, b5, b6⟩ := ok.gd.B
  have hwl : k < ρ.w.length := S.wl ▸ (List.getElem?_eq_some_iff.mp hw).1
  have cok := S.cw k _ _ hw (List.getElem?_eq_getElem hwl)
  have ePP : ρ.w[k] = P := by cases made <;> exact cok.1
  have hk2 : ρ.w[k]? = some P := by rw [List.getElem?_eq_getElem hwl, ePP]
  have hPn : G.H.get? P = none := (S.hown P (own_w hk2)).1
  have hgP : mainGlobals ≠ P := fun q => by
    obtain ⟨o, es, ep, e, hd, _⟩ := g1
    rw [q, hPn] at e; cases e
  have hbP : bm ≠ P := fun q => by rw [q, hPn] at b3; cases b3
  have hbG : bm ≠ mainGlobals := fun q => by
    obtain ⟨o, es, ep, e, hd, _⟩ := g1
    rw [q, e] at b3; cases b3; rw [hd] at b6; cases b6
  have hb : hp.BuiltinsAt mg P := ⟨bm, ob, b1, b2, hbG, hbP, S.base _ _ b3, b4, b5, b6⟩
  have hC' := hC.keeps fun b o e => S.base b o e
  have hge0 : env.globals = mainGlobals := by rw [he]
  show wpAny _ A (exec (.FunctionDef name params body [] none [] scope none name pos) env) Q E _
  have fin : ∀ (h2 : Heap) (tk2 : Tok) (doc pm ctv : Value) (c' : Addr) (oc : Obj) (vs : Array Value) (t : Tok), St G A env ρ m { σ with w := σ.w.set k (.tab P pos (c.qual ++ ".<locals>." ++ name) true) } h2 → Ext ρ.l.length ρ hp ρ h2 →
      h2.get? c' = some oc → oc.data = .fields vs → vs[1]? = some (.str (c.qual ++ ".<locals>." ++ name) t) → ¬ρ.own c' →
      wpAny (model PG G.w) A (storeName env name (.ref h2.objs.size)) (fun _ s'' => Q .next s'') E (sh z (h2.push (fnMade name (c.qual ++ ".<locals>." ++ name) params body scope ((scope.names.filter (·.2 == .free)).reverse.map fun x => (x.1, (env.cells.lookup x.1).getD 0)) doc pm c' ctv)) tk2) := fun h2 tk2 doc pm ctv c' oc vs t S2 x2 hoc hd hv nc' => by
    obtain ⟨O, hO⟩ : ∃ O, O = fnMade name (c.qual ++ ".<locals>." ++ name) params body scope ((scope.names.filter (·.2 == .free)).reverse.map fun x => (x.1, (env.cells.lookup x.1).getD 0)) doc pm c' ctv := ⟨_, rfl⟩
    rw [← hO]
    obtain ⟨S3, x3⟩ := S2.grow (h' := h2.push O) fun b o e => Heap.get?_push_of_some _ e
    have S4 := S3.relCC full'
    have nf : ¬ρ.own h2.objs.size := S2.nsize
    have hf : ∀ x v, es.lookup x = some v → ∃ o, (h2.push O).get? ((env.cells.lookup x).getD 0) = some o ∧ o.data = .cell (some (cellVal ((h2.push O).get? ((env.cells.lookup x).getD 0)))) ∧ ¬ρ.nocc.own ((env.cells.lookup x).getD 0) ∧ VR G.EC ρ.nocc (h2.push O) v (cellVal ((h2.push O).get? ((env.cells.lookup x).getD 0))) := fun x v e => by
      obtain ⟨h1, h2'⟩ := hes x v e
      obtain ⟨ca, a, q1, ⟨o, q2, q2'⟩, q3, q4⟩ := S4.cel x v h2' (.inl (by rw [hsc]; exact hfr _ h1 rfl))
      rw [q1]
      show ∃ o, (h2.push O).get? ca = some o ∧ o.data = .cell (some (cellVal ((h2.push O).get? ca))) ∧ ¬ρ.nocc.own ca ∧ VR G.EC ρ.nocc (h2.push O) v (cellVal ((h2.push O).get? ca))
      rw [q2, cellVal_of q2']
      exact ⟨o, rfl, q2', q4.elim (fun q => by cases q) id, q3⟩
    have rv : VR G.EC ρ.nocc (h2.push O) (.clo ⟨name, c.qual ++ ".<locals>." ++ name, params, body, scope⟩ es) (.ref h2.objs.size) := by
      refine .clo (f := fun x => cellVal ((h2.push O).get? ((env.cells.lookup x).getD 0))) (fo := O) (cl := (scope.names.filter (·.2 == .free)).reverse.map fun x => (x.1, (env.cells.lookup x.1).getD 0)) (Heap.get?_push_size _ (by rw [hO]; rfl)) (by rw [hO]) (by rw [hO]) (fun q => nf (nocc_own q)) (Heap.get?_push_of_some _ hoc) hd hv (fun q => nc' (nocc_own q)) (fun x v e => ?_) fun x v e => ?_
      · obtain ⟨o, e1, e2, e3, _⟩ := hf x v e
        refine ⟨_, o, clos_look (g := fun y => (env.cells.lookup y).getD 0) ?_, e1, e2, e3⟩
        rw [List.map_reverse, List.mem_reverse]
        exact List.mem_map.mpr ⟨_, List.mem_filter.mpr ⟨(hes x v e).1, rfl⟩, rfl⟩
      · obtain ⟨o, _, _, _, e4⟩ := hf x v e
        exact e4
    have x4 : Ext ρ.l.length ρ hp ρ.nocc _ := (x2.trans (x3.mono x2.len)).trans (ext_nocc (Nat.le_refl _))
    refine storeL ok S4 hnm rv fun h5 S5 x5 => ?_
    exact hQ ρ.nocc h5 _ .next _ _ _ h S5 ((x4.trans x5).mono hn) .next
  refine nestDef_K hd0 hk0 (ha env) ?_
  rw [hqn]
  cases made with
  | false =>
    refine makeFunction_K (ps := #[]) hcl hge0 (g1.keeps fun b o e => S.base b o e) hcode hC' (ePP ▸ cok.2) trivial rfl hgP hb fun c' ctv doc h' tk' hx hge hlt hrec htb => ?_
    obtain ⟨c₂, oc, vs, t, e2, hoc, hd, hv⟩ := hrec
    cases e2
    have nc' : ¬ρ.own c' := fun q => by
      obtain ⟨_, o, e⟩ := S.hown _ q
      exact Nat.lt_irrefl _ (Nat.lt_of_lt_of_le (Heap.lt_size e) hge)
    obtain ⟨mm, hnL, hm⟩ := S.loc
    obtain ⟨S2, x2⟩ := S.updW (h' := h') (c' := .tab P pos (c.qual ++ ".<locals>." ++ name) true) hk2 (fun b o n1 _ e => hx b o n1 e) hm (hnL.extBut hx fun q => (S.apart_w (List.mem_of_getElem? hk2)).1 (q ▸ S.hL)) (fun x => ⟨rfl, c', oc, vs, t, htb, hoc, hd, hv, nc'⟩) ⟨_, htb⟩
    exact fin h' tk' doc _ ctv c' oc vs t S2 x2 hoc hd hv nc'
  | true =>
    obtain ⟨_, c', oc, vs, t, e0, hoc, hd, hv, nc'⟩ := cok
    rw [ePP] at e0
    refine makeFunction_hit (ps := #[rawInt pos.line, rawInt pos.col, .ref c']) hcl hge0 (g1.keeps fun b o e => S.base b o e) hcode hC' e0 trivial (amongHit pos (.ref c')) hb fun ctv doc h' tk' hk hsz => ?_
    obtain ⟨S2, x2⟩ := S.grow (h' := h') hk
    have es' : ({ σ with w := σ.w.set k (.tab P pos (c.qual ++ ".<locals>." ++ name) true) } : AS) = σ := by rw [set_same hw]
    exact fin h' tk' doc _ ctv c' oc vs t (es'.symm ▸ S2) x2 (hk _ _ hoc) hd hv nc'
end
end Mine
end
section
open PySem PySem.W PyProof.Rows PySem.Calls PySem.Spec PySem.SeqAt
set_option maxRecDepth 10000
namespace Mine
structure CloK (fd : FD) (xs : List Str) (es : List (Str × V)) : Prop where
  bind : ∀ s cl doc pm an cdv ct vals, vals.length = xs.length → BindsTo s (fdX fd cl .none .none doc pm an cdv ct) ⟨vals, []⟩ (xs.zip vals)
  nd : xs.Nodup
  loc : ∀ x ∈ xs, fd.scope.names.lookup x = some .local
  free : ∀ x v, es.lookup x = some v → fd.scope.names.lookup x = some .free
  cell : ∀ x ∈ fd.scope.names, x.2 ≠ .cell
  co : fd.scope.isCoroutine = false
  gen : fd.scope.isGenerator = false
  kind : fd.scope.kind = .function
noncomputable abbrev FTe (G : Gd) (fd : FD) (xs : List Str) (vs : List V) (es : List (Str × V)) (σ : AS) (d : Nat) (hn : Bool) (K : V → AS → Prop) (X : V → AS → Prop) : Prop :=
  SS G ⟨fd.qual, fd.scope, σ.l.length, d, hn, none⟩ fd.body (xs.zip vs ++ es) σ (fun fl _ σ' => K (fv fl) σ') (fun v _ σ' => X v σ')
section
variable {G : Gd} {c : Cx} {m : Loc} {σ : AS} {K : V → AS → Prop} {X : V → AS → Prop}
theorem own_method {A env ρ h z tk v C es nm u a} (ok : Ok G c A env) (S : St G A env ρ m σ h) (e : instOf σ v = some (C, es)) (r : VR G.EC ρ h v a) (hm : attrOk G.K C nm = true) (hl : es.lookup nm = some u) (hh : handed u = true) {pl : Sem Bool} {Q : Value × List Value → Shared → Prop} {E : Value → Shared → Prop}
    (k : ∀ b, VR G.EC ρ h u b → Q (b, []) (sh z h (tk + 1))) : wpAny (model PG G.w) A (getMethod a nm pl) Q E (sh z h tk) := by
  obtain ⟨x, dx, des, n, rfl, hx, hd, _, _⟩ := inst_at S e r
  obtain ⟨mm, hn, _⟩ := S.loc
  have hm' := hm
  simp only [attrOk, Bool.and_eq_true, beq_iff_eq] at hm'
  obtain ⟨⟨h1, h2⟩, h3⟩ := hm'
  have I : InstAt h x (instObj C dx) C (some (dictOf des n)) := ⟨hx, rfl, rfl, hd⟩
  exact kmu_own (s := sh z h tk) (S.fr_ hn) ok.gd.X I h1 h3 (getattr_inst (tk := tk) ok S e r hm hl hh k)
theorem e_fldclo {o nm apos e rest pos fd xs es d} {pl : Env → Sem Bool} (F : CloK fd xs es) (hd : c.d = d + 1)
    (h : AE G c o m σ (fun v σ1 => (∃ C es', instOf σ1 v = some (C, es') ∧ attrOk G.K C nm = true ∧ es'.lookup nm = some (.clo fd es)) ∧ AS' G c (e :: rest) pos m σ1 (fun vs σ2 => vs.length = xs.length ∧ FTe G fd xs vs es σ2 d c.hn K X) X) X)
    (ha : ∀ env, (backTo pos (starEach (e :: rest) env)).any (·.1) = false := by intro _; rfl) (hst : ∀ env, starEach (e :: rest) env = (false, eval e env) :: starEach rest env := by intro _; rfl)
    (he : ∀ env, eval (.Call (.Attribute o nm apos) (e :: rest) [] pos) env = (do
      let ov ← eval o env
      standAt apos.atName
      let (f, first) ← holding [ov] (getMethod ov nm (pl env))
      callWith pos f first (backTo pos (starEach (e :: rest) env)) []) := by intro _; rfl) : AE G c (.Call (.Attribute o nm apos) (e :: rest) [] pos) m σ K X := by
  intro A env ρ hh tk z Q E ok S hQ hX
  refine MethodCall_ (pl := pl env) ?_ (he env)
  refine h A env ρ hh tk z _ _ ok S (fun ρ1 h1 tk1 v a σ1 k1 S1 x1 r1 => ?_) hX
  obtain ⟨⟨C, es', e1, e2, e3⟩, k1⟩ := k1
  refine own_method ok S1 e1 r1 e2 e3 rfl fun b rb => ?_
  cases rb with
  | @clo _ _ q fo cl doc pm an cd co vs' t ct f ho hcl hdat no hc hcd hvs nc g gv =>
    have X1 : FnAt q h1 := ⟨fo.cls, fo.dict, _, fo.slots, by rw [ho]; congr 1; obtain ⟨_, _, _, _⟩ := fo; cases hdat; rfl⟩
    refine callWith_F (s := sh z h1 (tk1 + 1)) X1 ?_ (hst env) (by have := ha env; rw [hst env] at this; simpa [backTo] using this)
    refine k1 A env ρ1 h1 _ z _ _ ok S1 (fun ρ2 h2 tk2 vs vals σ2 k2 S2 x2 r2 => ?_) fun ρ2 h2 tk2 v e σ2 k2 S2 x2 f2 => hX ρ2 h2 tk2 v e σ2 k2 S2 (x1.trans (x2.mono x1.len)) (f2.mono x1.old)
    have x12 := x1.trans (x2.mono x1.len)
    have ho2 := (x2.free ho no (nv_func hdat)).1
    have no2 := x2.nown ho no
    have hc2 := (x2.free hc nc (nv_rec hcd hvs)).1
    refine ⟨⟨fo.cls, fo.dict, _, fo.slots, by show h2.get? q = _; rw [ho2]; congr 1; obtain ⟨_, _, _, _⟩ := fo; cases hdat; rfl⟩, ?_⟩
    rw [List.nil_append]
    refine wpAny_call (callG (fd := fd) (es := es) (X := X) ok S2 hd ho2 hdat ⟨cd, co, vs', t, rfl, hc2, hcd, hvs⟩ (F.bind _ _ _ _ _ _ _ _ (r2.1 ▸ k2.1)) r2 F.nd F.loc (fun x v e => ⟨F.free x v e, ?_⟩) F.cell F.co F.gen F.kind k2.2 (fun ρ' h' tk' v a σ' q1 q2 q3 q4 => hQ ρ' h' tk' v a σ' q1 q2 (x12.trans (q3.mono x12.len)) q4) fun ρ' h' tk' v e σ' q1 q2 q3 q4 => hX ρ' h' tk' v e σ' q1 q2 (x12.trans (q3.mono x12.len)) ((q4.mono x12.old) |>.mono (fun b o e => ⟨o, e⟩) fun _ q => fl0_no q))
    obtain ⟨ca, oc, c1, c2, c3, c4⟩ := g x v e
    exact ⟨ca, _, c1, ⟨oc, (x2.free c2 c4 (nv_cell c3)).1, c3⟩, (gv x v e).ext x2, x2.nown c2 c4⟩
theorem e_fldfn {o nm apos args pos f fd xs d} {pl : Env → Sem Bool} (F : FnK G f fd xs) (hd : c.d = d + 1)
    (h : AE G c o m σ (fun v σ1 => (∃ C es', instOf σ1 v = some (C, es') ∧ attrOk G.K C nm = true ∧ es'.lookup nm = some (.cst (.ref f)) ∧ handedIn (.ref f) = true) ∧ AS' G c args pos m σ1 (fun vs σ2 => vs.length = xs.length ∧ FT G fd xs vs σ2 d c.hn K X) X) X)
    (ha : ∀ env, (backTo pos (starEach args env)).any (·.1) = false := by intro _; rfl)
    (he : ∀ env, eval (.Call (.Attribute o nm apos) args [] pos) env = (do
      let ov ← eval o env
      standAt apos.atName
      let (f, first) ← holding [ov] (getMethod ov nm (pl env))
      callWith pos f first (backTo pos (starEach args env)) []) := by intro _; rfl) : AE G c (.Call (.Attribute o nm apos) args [] pos) m σ K X := by
  intro A env ρ hh tk z Q E ok S hQ hX
  refine MethodCall_ (pl := pl env) ?_ (he env)
  refine h A env ρ hh tk z _ _ ok S (fun ρ1 h1 tk1 v a σ1 k1 S1 x1 r1 => ?_) hX
  obtain ⟨⟨C, es', e1, e2, e3, e4⟩, k1⟩ := k1
  refine own_method ok S1 e1 r1 e2 e3 e4 fun b rb => ?_
  cases rb
  refine callWith_fn F.keep (ha env) ?_
  refine k1 A env ρ1 h1 _ z _ _ ok S1 (fun ρ2 h2 tk2 vs vals σ2 k2 S2 x2 r2 => ⟨S2.inK ok.gd.X, ?_⟩) fun ρ2 h2 tk2 v e σ2 k2 S2 x2 f2 => hX ρ2 h2 tk2 v e σ2 k2 S2 (x1.trans (x2.mono x1.len)) (f2.mono x1.old)
  have x3 := x1.trans (x2.mono x1.len)
  rw [List.nil_append]
  exact callK ok S2 hd F r2 k2.1 k2.2 (fun ρ3 h3 tk3 v a σ3 k3 S3 x4 r3 => hQ ρ3 h3 tk3 v a σ3 k3 S3 (x3.trans (x4.mono x3.len)) r3)
    fun ρ3 h3 tk3 v e σ3 k3 S3 x4 f4 => hX ρ3 h3 tk3 v e σ3 k3 S3 (x3.trans (x4.mono x3.len)) (f4.mono x3.old)
end
end Mine
end
section
open PySem PySem.W PyProof.Rows PySem.Calls PySem.Spec PySem.SeqAt
set_option maxRecDepth 10000
namespace Mine
theorem cf_keys : ∀ (names : List (Str × NameKind)) (n : Nat) (acc : List (Str × Addr)), (names.map (·.1) ++ acc.map (·.1)).Nodup → ((cellsFrom n names acc).map (·.1)).Nodup
  | [], n, acc, h => h
  | (x, k) :: r, n, acc, h => by
    unfold cellsFrom
    have h' : (x :: (r.map (·.1) ++ acc.map (·.1))).Nodup := h
    split
    · refine cf_keys r (n + 1) _ ?_
      exact (List.Perm.nodup_iff (List.perm_middle)).mpr h'
    · exact cf_keys r n acc (List.nodup_cons.mp h').2
theorem look_mem {α : Type} : ∀ {l : List (Str × α)} {x a}, (l.map (·.1)).Nodup → (x, a) ∈ l → l.lookup x = some a
  | (y, b) :: r, x, a, nd, hm => by
    rw [List.map_cons, List.nodup_cons] at nd
    rw [List.lookup_cons]
    rcases List.mem_cons.mp hm with e | hm
    · cases e; rw [beq_self_eq_true]
    · have : x ≠ y := fun e => nd.1 (e ▸ List.mem_map.mpr ⟨_, hm, rfl⟩)
      rw [beq_eq_false_iff_ne.mpr this]
      exact look_mem nd.2 hm
theorem cf_acc : ∀ (names : List (Str × NameKind)) (n : Nat) (acc : List (Str × Addr)) (x : Str), (acc.lookup x).isSome = true → ((cellsFrom n names acc).lookup x).isSome = true
  | [], n, acc, x, h => h
  | (y, k) :: r, n, acc, x, h => by
    unfold cellsFrom
    split
    · refine cf_acc r _ _ x ?_
      rw [List.lookup_cons]
      split
      · rfl
      · exact h
    · exact cf_acc r n acc x h
theorem cf_some : ∀ (names : List (Str × NameKind)) (n : Nat) (acc : List (Str × Addr)) (x : Str), names.lookup x = some .cell → ((cellsFrom n names acc).lookup x).isSome = true
  | [], n, acc, x, h => by cases h
  | (y, k) :: r, n, acc, x, h => by
    unfold cellsFrom
    rw [List.lookup_cons] at h
    split at h
    · rename_i e
      cases h
      rw [if_pos (by decide)]
      refine cf_acc r _ _ x ?_
      rw [List.lookup_cons, e]
      rfl
    · split
      · exact cf_some r _ _ x h
      · exact cf_some r _ _ x h
theorem bindC_all {kindOf : Str → Option NameKind} : ∀ {binds : List (Str × Value)} {cm : Str → Option Value}, (∀ x ∈ binds, kindOf x.1 ≠ some .local) → ∀ y, bindC kindOf binds cm y = (binds.reverse.lookup y).or (cm y)
  | [], cm, _, y => rfl
  | (n, v) :: r, cm, h, y => by
    unfold bindC
    rw [if_neg (h (n, v) (.head _)), bindC_all (fun x hx => h x (.tail _ hx)) y, List.reverse_cons, List.lookup_append]
    cases q : r.reverse.lookup y with
    | some b => rfl
    | none =>
      show (if y = n then some v else cm y) = (([(n, v)] : List (Str × Value)).lookup y).or (cm y)
      rw [List.lookup_cons]
      by_cases e : y = n
      · rw [if_pos e, beq_iff_eq.mpr e]; rfl
      · rw [if_neg e, beq_eq_false_iff_ne.mpr e]; rfl
inductive FnE (K : Frag) (f : Addr) (fd : FD) (xs : List Str) (cc : Addr) : Prop
  | mk : ∀ oc od dV kV doc pm an ct osl, K.lookup f = some ⟨oc, od, .func (fdX fd [] dV kV doc pm an (.ref cc) ct), osl⟩ → codeIn K (.ref cc) fd.qual = true → (∀ vals, vals.length = xs.length → bindArgs (fdX fd [] dV kV doc pm an (.ref cc) ct) ⟨vals, []⟩ = pure (xs.zip vals)) → FnE K f fd xs cc
structure FnC (G : Gd) (f : Addr) (fd : FD) (xs : List Str) (cc : Addr) : Prop where
  look : FnE G.K f fd xs cc
  keep : keepIn G.K (.ref f) = true
  nd : xs.Nodup
  names : (fd.scope.names.map (·.1)).Nodup
  cellp : ∀ x ∈ xs, fd.scope.names.lookup x = some .cell
  co : fd.scope.isCoroutine = false
  gen : fd.scope.isGenerator = false
  kind : fd.scope.kind = .function
section
variable {G : Gd} {c : Cx} {A : Around} {env : Env} {ρ : Rho} {m : Loc} {σ : AS} {h : Heap} {tk : Tok} {z : Shared}
noncomputable abbrev FTc (G : Gd) (fd : FD) (cc : Addr) (xs : List Str) (vs : List V) (σ : AS) (d : Nat) (hn : Bool) (K : V → AS → Prop) (X : V → AS → Prop) : Prop :=
  SS G ⟨fd.qual, fd.scope, σ.l.length, d, hn, some (.ref cc)⟩ fd.body (xs.zip vs) σ (fun fl _ σ' => K (fv fl) σ') (fun v _ σ' => X v σ')
theorem callC {K : V → AS → Prop} {X : V → AS → Prop} {R : Result → Shared → Prop} (ok : Ok G c A env) (S : St G A env ρ m σ h) {d : Nat} (hd : c.d = d + 1) {fd : FD} {f cc : Addr} {xs : List Str} (F : FnC G f fd xs cc)
    {vals : List Value} {vs : List V} (hv : VRs G.EC ρ h vs vals) (hl : vs.length = xs.length) (body : FTc G fd cc xs vs σ d c.hn K X)
    (hQ : ∀ ρ' h' tk' v a σ', K v σ' → St G A env ρ' m σ' h' → Ext ρ.l.length ρ h ρ' h' → VR G.EC ρ' h' v a → R (.ok (.ret a)) (sh z h' tk'))
    (hE : ∀ ρ' h' tk' v e σ', X v σ' → St G A env ρ' m σ' h' → Ext ρ.l.length ρ h ρ' h' → Fly G flyNo ρ' h h' e v → R (.error (.ref e)) (sh z h' tk')) :
    codeAny (model PG G.w) A (.call (.ref f) ⟨vals, []⟩) R (sh z h tk) := by
  obtain ⟨p, loose, mg, mb, T⟩ := ok.gd.T
  have room := ok.room
  have units := ok.units
  rw [hd] at room units
  obtain ⟨oc, od, dV, kV, doc, pm, an, ct, osl, e1, e2, e3⟩ := F.look
  have X' := S.inK ok.gd.X
  have hb := e3 vals (hv.1 ▸ hl)
  have hcells : ∀ x ∈ xs, ((cellsFrom (h.objs.size + 1) fd.scope.names []).lookup x).isSome = true := fun x hx => cf_some _ _ _ _ (F.cellp x hx)
  refine codeAny_call_cells (s := sh z h tk) (fd := fdX fd [] dV kV doc pm an (.ref cc) ct) (body := fd.body) (binds := xs.zip vals) (by omega) (X' _ _ e1) rfl ((T.nolimit).keeps fun b o e => S.base b o e) (codeRec_of X' e2) rfl hb rfl (fun x hx => .inr ⟨F.cellp _ (List.of_mem_zip hx).1, hcells _ (List.of_mem_zip hx).1⟩) (fun s₁ I => ?_) F.co F.gen F.kind
  obtain ⟨⟨⟨h₁, tk₁, rfl⟩, hns, k, _⟩, hcell, apart, above⟩ := I
  have hLn : h.get? h.objs.size = none := get_size
  generalize hcs : (cellsFrom (h.objs.size + 1) fd.scope.names []).map (·.2) = cs
  have nk : ((cellsFrom (h.objs.size + 1) fd.scope.names []).map (·.1)).Nodup := cf_keys _ _ _ (by simpa using F.names)
  have hcs1 : ∀ b ∈ cs, h.get? b = none ∧ b ≠ h.objs.size ∧ ∃ o, h₁.get? b = some o := fun b hb => by
    rw [← hcs] at hb
    obtain ⟨⟨x, a⟩, hm, rfl⟩ := List.mem_map.mp hb
    have ab : h.objs.size < a := above x a hm
    refine ⟨get_none fun o e => Nat.lt_asymm ab (Heap.lt_size e), Nat.ne_of_gt ab, ?_⟩
    obtain ⟨o, e, _⟩ := hcell x a (look_mem nk hm)
    exact ⟨o, e⟩
  have hcd : cs.Nodup := by
    rw [← hcs]
    exact List.pairwise_map.mpr apart
  have mcs : ∀ x ca, (cellsFrom (h.objs.size + 1) fd.scope.names []).lookup x = some ca → ca ∈ cs := fun x ca e => by
    rw [← hcs]; exact List.mem_map.mpr ⟨_, mem_of_lookup e, rfl⟩
  have tr : Tra ρ h (ρ.sub h.objs.size cs) h₁ := tra_sub k hLn fun b q => (hcs1 b q).1
  have bC : ∀ y, bindC (callEnvC (fdX fd [] dV kV doc pm an (.ref cc) ct) h.objs.size f).kindOf (xs.zip vals) (fun _ => none) y = (xs.zip vals).reverse.lookup y := fun y => by
    rw [bindC_all fun x hx q => ?_]
    · exact Option.or_none
    · have q' : fd.scope.names.lookup x.1 = some .local := q
      rw [F.cellp _ (List.of_mem_zip hx).1] at q'; cases q'
  have S1 : St G (A.deeper (callEnvC (fdX fd [] dV kV doc pm an (.ref cc) ct) h.objs.size f)) (callEnvC (fdX fd [] dV kV doc pm an (.ref cc) ct) h.objs.size f) (ρ.sub h.objs.size cs) (xs.zip vs) σ h₁ := by
    refine S.enter (L := h.objs.size) (cs := cs) (fun outer q => Around.frames_deeper q) rfl rfl F.kind rfl k hcs1 hcd ⟨_, hns, fun x v e q => ?_⟩ (fun x v e q => ?_) fun x q e => ?_
    · have q' : fd.scope.names.lookup x = some .local := q
      rw [F.cellp x (zip_mem e)] at q'; cases q'
    · obtain ⟨hx, a, q1, q2⟩ := zip_look F.nd hv e
      obtain ⟨ca, hca⟩ := Option.isSome_iff_exists.mp (hcells x hx)
      refine ⟨ca, a, hca, ?_, q2.tra tr, .inl (mcs x ca hca)⟩
      have := hcell x ca hca
      rw [bC, q1] at this
      exact this
    · have q' : fd.scope.names.lookup x = some .cell := q
      obtain ⟨ca, hca⟩ := Option.isSome_iff_exists.mp (cf_some fd.scope.names (h.objs.size + 1) [] x q')
      refine ⟨ca, hca, ?_, mcs x ca hca⟩
      have := hcell x ca hca
      have hx : x ∉ xs := fun hx => by
        have : ∀ (xs : List Str) (vs : List V), x ∈ xs → vs.length = xs.length → (xs.zip vs).lookup x ≠ none := by
          intro xs
          induction xs with
          | nil => intro vs hx; cases hx
          | cons y r ih =>
            intro vs hx hl
            cases vs with
            | nil => simp at hl
            | cons u vs =>
              rw [List.zip_cons_cons, List.lookup_cons]
              split
              · exact fun q => by cases q
              · rename_i z
                exact ih vs ((List.mem_cons.mp hx).resolve_left fun w => by rw [w, beq_self_eq_true] at z; cases z) (by simpa using hl)
        exact this xs vs hx hl e
      rw [bC, look_rev_none (x := x) fun p hp w => hx (by rw [← w]; exact (List.of_mem_zip hp).1)] at this
      exact this
  refine body _ _ (ρ.sub h.objs.size cs) h₁ _ z _ _ ⟨fun v q => by cases q; rfl, fun x0 q x y ca e1 e2 => name_of_addr apart (mem_of_lookup e1) (mem_of_lookup e2), ⟨h.objs.size, f, .ref cc, _, rfl⟩, F.kind, ?_, ?_, ok.hn, ok.gd⟩ S1 (by rw [S.ll]; exact Nat.le_refl _) (fun ρ2 h2 tk2 fl m2 σ2 a k2 S2 x2 r2 => ?_) fun ρ2 h2 tk2 v m2 σ2 e k2 S2 x2 f2 => ?_
  · show A.depth + 1 + 3 * d + 3 < recursionLimit
    omega
  · show A.units + 3 + 20 * d + 100 < cLine
    omega
  · have x2' : Ext ρ.l.length (ρ.sub h.objs.size cs) h₁ ρ2 h2 := S.ll ▸ x2
    obtain ⟨S3, X3, T3⟩ := S.leave k hLn (fun b q => (hcs1 b q).1) S2 x2'
    have r3 := (fr_val r2).tra T3
    cases a <;> exact hQ _ _ _ _ _ _ k2 S3 X3 r3
  · refine leaveF S2 x2.old f2 (fun _ q => q) fun h3 S3 x3 f3 => ?_
    have x2' : Ext ρ.l.length (ρ.sub h.objs.size cs) h₁ ρ2 h3 := (S.ll ▸ x2 : Ext ρ.l.length _ _ _ _).trans (x3.mono (S.ll ▸ x2 : Ext ρ.l.length _ _ _ _).len)
    obtain ⟨S4, X4, T4⟩ := S.leave k hLn (fun b q => (hcs1 b q).1) S3 x2'
    exact hE _ _ _ _ _ _ k2 S4 X4 ((f3.mono fun b o e => ⟨o, k b o e⟩).tra (back_own x2'.fr x2'.co) T4)
end
section
variable {G : Gd} {c : Cx} {m : Loc} {σ : AS} {K : V → AS → Prop} {X : V → AS → Prop}
theorem e_callC {x px e rest pos f fd xs cc d} (F : FnC G f fd xs cc) (hx : nsIn G.K mainGlobals x = some (some (.ref f))) (hk : c.scope.names.lookup x = some .globalImplicit) (hd : c.d = d + 1)
    (h : AS' G c (e :: rest) pos m σ (fun vs σ1 => vs.length = xs.length ∧ FTc G fd cc xs vs σ1 d c.hn K X) X)
    (ha' : ∀ env, (backTo pos (starEach (e :: rest) env)).any (·.1) = false := by intro _; rfl) (hxd : (x == ("__debug__" : Str)) = false := by decide) : AE G c (.Call (.Name x px) (e :: rest) [] pos) m σ K X := by
  intro A env ρ hh tk z Q E ok S hQ hX
  refine Call_ ?_
  refine e_glob (K := fun v σ1 => v = .cst (.ref f) ∧ σ1 = σ) hx hk rfl ⟨rfl, rfl⟩ hxd A env ρ hh tk z _ _ ok S (fun ρ1 h1 tk1 v a σ1 k1 S1 x1 r1 => ?_) hX
  obtain ⟨rfl, rfl⟩ := k1
  cases r1
  refine callWith_fn F.keep (ha' env) ?_
  refine h A env ρ1 h1 tk1 z _ _ ok S1 (fun ρ2 h2 tk2 vs vals σ2 k2 S2 x2 r2 => ⟨S2.inK ok.gd.X, ?_⟩) fun ρ2 h2 tk2 v e σ2 k2 S2 x2 f2 => hX ρ2 h2 tk2 v e σ2 k2 S2 (x1.trans (x2.mono x1.len)) (f2.mono x1.old)
  rw [List.nil_append]
  have x3 := x1.trans (x2.mono x1.len)
  exact wpAny_call (callC ok S2 hd F r2 k2.1 k2.2 (fun ρ3 h3 tk3 v a σ3 k3 S3 x4 r3 => hQ ρ3 h3 tk3 v a σ3 k3 S3 (x3.trans (x4.mono x3.len)) r3)
    fun ρ3 h3 tk3 v e σ3 k3 S3 x4 f4 => hX ρ3 h3 tk3 v e σ3 k3 S3 (x3.trans (x4.mono x3.len)) ((f4.mono x3.old).mono (fun b o e => ⟨o, e⟩) fun _ q => fl0_no q))
end
end Mine
end
section
open PySem PySem.W PyProof.Rows PySem.Calls PySem.Spec PySem.SeqAt
set_option maxRecDepth 10000
namespace Mine
@[reducible] noncomputable def Rho.addW (ρ : Rho) (a : Addr) : Rho := { ρ with w := ρ.w ++ [a] }
section
variable {G : Gd} {c : Cx} {A : Around} {env : Env} {ρ ρ' : Rho} {m : Loc} {σ : AS} {h h' h0 : Heap} {n : Nat}
theorem St.AtoW {a : Addr} (S : St G A env (ρ.cA [a]) m σ h) (nc : ∀ c, ¬h.IsCell a c) {c : Cell} (hc : CellOk G.EC G.w (ρ.addW a) h a c) :
    St G A env (ρ.addW a) m { σ with w := σ.w ++ [c] } h ∧ Tra (ρ.cA [a]) h (ρ.addW a) h ∧ VR G.EC (ρ.addW a) h (.w σ.w.length) (.ref a) := by
  have ow : ∀ b, (ρ.addW a).own b ↔ (ρ.cA [a]).own b := fun b => by
    unfold Rho.own Rho.cA Rho.addW
    simp only [List.mem_append, List.mem_singleton]
    constructor
    · rintro (q | q | q | (q | q) | q) <;> simp [q]
    · rintro (q | (q | q) | q | q | q) <;> simp [q]
  have tr : Tra (ρ.cA [a]) h (ρ.addW a) h := ⟨fun i b e => (List.getElem?_append_left (List.getElem?_eq_some_iff.mp e).1).trans e, fun _ _ e => e, fun b q => .inl ((ow b).mp q), fun b o e _ _ => e, fun b o e _ v => ⟨o, e, rfl, rfl, v⟩⟩
  have wl : σ.w.length = ρ.w.length := S.wl
  refine ⟨⟨S.base, S.low, S.fl, let ⟨o, q, F⟩ := S.frs; ⟨o, q, F.eq, F.kd, F.ok⟩, fun b q => S.hown b ((ow b).mp q), ?_, ?_, fun y v e q => ?_, fun y q e => ?_, by simp only [List.length_append, List.length_singleton]; rw [wl], S.ll, fun j c' b e1 e2 => ?_, fun i c b e1 e2 => (S.cl i c b e1 e2).tra tr fun o e => e⟩, tr, ?_⟩
  · have d : (ρ.fr ++ (([a] ++ ρ.cc) ++ (ρ.co ++ (ρ.w ++ ρ.l.filterMap id)))).Nodup := S.nodup
    refine (List.Perm.nodup_iff ?_).mp d
    show (ρ.fr ++ (([a] ++ ρ.cc) ++ (ρ.co ++ (ρ.w ++ ρ.l.filterMap id)))).Perm (ρ.fr ++ (ρ.cc ++ (ρ.co ++ ((ρ.w ++ [a]) ++ ρ.l.filterMap id))))
    refine List.Perm.append_left _ ?_
    have : ρ.cc ++ (ρ.co ++ ((ρ.w ++ [a]) ++ ρ.l.filterMap id)) = (ρ.cc ++ (ρ.co ++ ρ.w)) ++ a :: ρ.l.filterMap id := by simp [List.append_assoc]
    rw [this]
    have e2 : ([a] ++ ρ.cc) ++ (ρ.co ++ (ρ.w ++ ρ.l.filterMap id)) = a :: ((ρ.cc ++ (ρ.co ++ ρ.w)) ++ ρ.l.filterMap id) := by simp [List.append_assoc]
    rw [e2]
    exact List.perm_middle.symm
  · obtain ⟨mm, hn, hm⟩ := S.loc
    exact ⟨mm, hn, fun y v e q => let ⟨a, q1, q2⟩ := hm y v e q; ⟨a, q1, q2.tra tr⟩⟩
  · obtain ⟨ca, b, q1, q2, q3, q4⟩ := S.cel y v e q
    refine ⟨ca, b, q1, q2, q3.tra tr, ?_⟩
    rcases q4 with q4 | q4
    · rcases List.mem_append.mp q4 with q4 | q4
      · rw [List.mem_singleton.mp q4] at q2
        exact (nc _ q2).elim
      · exact .inl q4
    · exact .inr fun z => q4 ((ow ca).mp z)
  · obtain ⟨ca, q1, q2, q3⟩ := S.cun y q e
    refine ⟨ca, q1, q2, ?_⟩
    rcases List.mem_append.mp q3 with q3 | q3
    · rw [List.mem_singleton.mp q3] at q2
      exact (nc _ q2).elim
    · exact q3
  · by_cases q : j < σ.w.length
    · rw [List.getElem?_append_left q] at e1
      have e2' : (ρ.w ++ [a])[j]? = some b := e2
      rw [List.getElem?_append_left (wl ▸ q)] at e2'
      exact (S.cw j c' b e1 e2').tra tr fun o e => e
    · have e2' : (ρ.w ++ [a])[j]? = some b := e2
      rw [List.getElem?_append_right (Nat.le_of_not_lt q)] at e1
      rw [List.getElem?_append_right (by rw [← wl]; exact Nat.le_of_not_lt q), ← wl] at e2'
      cases z : j - σ.w.length with
      | zero =>
        rw [z] at e1 e2'
        cases e1
        cases e2'
        exact hc
      | succ => rw [z] at e1; simp at e1
  · refine .w ?_
    show (ρ.w ++ [a])[σ.w.length]? = some a
    rw [wl]
    simp
theorem Ext.toW {a : Addr} (x : Ext n ρ h0 ρ' h) (hf : h0.get? a = none) : Ext n ρ h0 (ρ'.addW a) h :=
  ⟨fun i b e => (List.getElem?_append_left (List.getElem?_eq_some_iff.mp (x.w i b e)).1).trans (x.w i b e), x.fr, x.co, x.cc, x.len, x.l, fun b q => by
    rcases q with q | q | q | q | q
    · exact x.own b (.inl q)
    · exact x.own b (.inr (.inl q))
    · exact x.own b (.inr (.inr (.inl q)))
    · rcases List.mem_append.mp q with q | q
      · exact x.own b (.inr (.inr (.inr (.inl q))))
      · have := List.mem_singleton.mp q
        subst this
        exact .inr hf
    · exact x.own b (.inr (.inr (.inr (.inr q)))), x.keep, x.vol, x.old, x.frs⟩
theorem St.newW (S : St G A env ρ m σ h) {a} {c : Cell} {o : Obj} (hn : h.get? a = none) (k : ∀ b o, h.get? b = some o → h'.get? b = some o) (th : h'.get? a = some o) (nc : ∀ c, o.data ≠ .cell c)
    (hc : Ext ρ.l.length ρ h (ρ.addW a) h' → CellOk G.EC G.w (ρ.addW a) h' a c) :
    St G A env (ρ.addW a) m { σ with w := σ.w ++ [c] } h' ∧ Ext ρ.l.length ρ h (ρ.addW a) h' ∧ VR G.EC (ρ.addW a) h' (.w σ.w.length) (.ref a) := by
  obtain ⟨S0, x0⟩ := S.grow k
  have x1 := x0.toW hn
  have S1 := S.takeA (is := [a]) k (fun b q => by rw [List.mem_singleton.mp q]; exact ⟨hn, _, th⟩) (by simp)
  obtain ⟨S2, _, r⟩ := S1.AtoW (fun c ⟨o', e, d⟩ => nc c (by rw [th] at e; cases e; exact d)) (hc x1)
  exact ⟨S2, x1, r⟩
theorem St.mkW (S : St G A env ρ m σ h) {vs vals} (r : VRs G.EC ρ h vs vals) : ∃ ρ', St G A env ρ' m { σ with w := σ.w ++ [.list vs] } (h.push (listOf vals.toArray 0)) ∧ Ext ρ.l.length ρ h ρ' (h.push (listOf vals.toArray 0)) ∧
    VR G.EC ρ' (h.push (listOf vals.toArray 0)) (.w σ.w.length) (.ref h.objs.size) :=
  ⟨_, S.newW get_size (fun b o e => Heap.get?_push_of_some _ e) (Heap.get?_push_size _ rfl) (fun c q => by cases q) fun x => ⟨vals, _, Heap.get?_push_size _ rfl, r.ext x⟩⟩
end
section
variable {G : Gd} {c : Cx} {m : Loc} {σ : AS} {K : V → AS → Prop} {X : V → AS → Prop}
theorem e_list0W {pos} (h : K (.w σ.w.length) { σ with w := σ.w ++ [.list []] }) : AE G c (.List [] pos) m σ K X := by
  intro A env ρ hh tk z Q E ok S hQ hX
  refine List_ (args_nil ?_)
  obtain ⟨ρ', S2, x2, r2⟩ := S.mkW VRs.nil
  exact wpAny_newList (hQ _ _ tk _ _ _ h S2 x2 r2)
theorem e_listW {elts pos} (h : AS' G c elts pos m σ (fun vs σ1 => vs.length ≤ 1000 ∧ K (.w σ1.w.length) { σ1 with w := σ1.w ++ [.list vs] }) X) : AE G c (.List elts pos) m σ K X := by
  intro A env ρ hh tk z Q E ok S hQ hX
  refine List_ (h A env ρ hh tk z _ _ ok S (fun ρ1 h1 tk1 vs vals σ1 k1 S1 x1 r1 => ?_) hX)
  obtain ⟨ρ', S2, x2, r2⟩ := S1.mkW r1
  exact wpAny_newList (hQ _ _ tk1 _ _ _ k1.2 S2 (x1.trans (x2.mono x1.len)) r2) (by rw [sizeLine_eq, ← r1.1]; exact Nat.le_trans k1.1 (by decide))
theorem e_uptoW {value hi p pos} (h : AE G c value m σ (fun v σ1 => AE G c hi m σ1 (fun i σ2 => ∃ k xs, i = .int k ∧ lstOf σ2 v = some xs ∧ 0 ≤ k ∧ xs.length ≤ 100000 ∧ K (.w σ2.w.length) { σ2 with w := σ2.w ++ [.list (xs.take k.toNat)] }) X) X) : AE G c (.Subscript value (.Slice none (some hi) none p) pos) m σ K X := by
  intro A env ρ hh tk z Q E ok S hQ hX
  refine Subscript_ (h A env ρ hh tk z _ _ ok S (fun ρ1 h1 tk1 v a σ1 k1 S1 x1 r1 => ?_) hX)
  refine wpAny_Slice (wpAny_pure ?_)
  refine k1 A env ρ1 h1 tk1 z _ _ ok S1 (fun ρ2 h2 tk2 i b σ2 k2 S2 x2 r2 => wpAny_pure ?_) fun ρ2 h2 tk2 v e σ2 k2 S2 x2 f2 => hX ρ2 h2 tk2 v e σ2 k2 S2 (x1.trans (x2.mono x1.len)) (f2.mono x1.old)
  obtain ⟨k, xs, rfl, e1, h0, hz, kk⟩ := k2
  cases r2
  refine slice_run (ys := xs.take k.toNat) ok S2 e1 (r1.ext x2) .none (part_int k _) hz (fun vals hv => ⟨vals.take k.toNat, by rw [pick_upto _ _ h0], fun ρ h r => r.take _⟩) (fun a b => by with_unfolding_all rfl) fun h3 ws S3 x3 r3 => ?_
  obtain ⟨ρ', S4, x4, r4⟩ := S3.mkW r3
  have x13 := (x1.trans (x2.mono x1.len)).trans (x3.mono (x1.trans (x2.mono x1.len)).len)
  exact hQ _ _ _ _ _ _ kk S4 (x13.trans (x4.mono x13.len)) r4
theorem e_dictW {keys values pos ks} (h : TR G c (fun env => evalPairs (pairTrees keys values env pos)) (PRel G (strKind PG G.w) ks) m σ (fun us σ1 => K (.w σ1.w.length) { σ1 with w := σ1.w ++ [.map (ks.zip us)] }) X) (nd : ks.Nodup)
    (hall : keys.all (·.isSome) = true) (hl : keys.length = values.length) (h0 : keys ≠ []) (hlen : keys.length ≤ 15) : AE G c (.Dict keys values pos) m σ K X := by
  intro A env ρ hh tk z Q E ok S hQ hX
  refine dict_run (strKind PG G.w) hall hl h0 hlen h nd ok S (fun ρ' h' tk' us σ' d kvs k S' x hd hD hk r => ?_) hX
  have nc : ∀ c, ¬h'.IsCell d c := fun c ⟨o, e, q⟩ => by
    obtain ⟨o', es, ep, e', _, q', _⟩ := hD
    rw [e] at e'; cases e'
    rw [q] at q'; cases q'
  have r' : VRs G.EC (ρ'.addW d) h' us (kvs.map (·.2)) := r.tra ⟨fun i b e => (List.getElem?_append_left (List.getElem?_eq_some_iff.mp e).1).trans e, fun _ _ e => e, fun b q => .inl ?_, fun b o e _ _ => e, fun b o e _ v => ⟨o, e, rfl, rfl, v⟩⟩
  · obtain ⟨S2, _, r2⟩ := S'.AtoW nc (c := .map (ks.zip us)) ⟨kvs, hD, zipR hk r'⟩
    exact hQ _ h' tk' _ _ _ k S2 (x.toW hd) r2
  · rw [cA_own]
    rcases q with q | q | q | q | q
    · exact .inr (.inl q)
    · exact .inr (.inr (.inl q))
    · exact .inr (.inr (.inr (.inl q)))
    · rcases List.mem_append.mp q with q | q
      · exact .inr (.inr (.inr (.inr (.inl q))))
      · exact .inl q
    · exact .inr (.inr (.inr (.inr (.inr q))))
noncomputable abbrev MKw (G : Gd) (C : Addr) (fd : FD) (xs : List Str) (vs : List V) (σ : AS) (d : Nat) (hn : Bool) (K : V → AS → Prop) (X : V → AS → Prop) : Prop :=
  FT G fd xs (.w (σ.w.length + 1) :: vs) { σ with w := σ.w ++ [.dict [], .inst C (.w σ.w.length)] } d hn (fun v σ2 => v = .none ∧ K (.w (σ.w.length + 1)) σ2) X
theorem make_runW {C f fd xs vs vals d} (F : ClK G C f fd xs) (hd : c.d = d + 2) {A env ρ h tk z} (ok : Ok G c A env) (S : St G A env ρ m σ h) (hv : VRs G.EC ρ h vs vals) (hl : vs.length + 1 = xs.length) (body : MKw G C fd xs vs σ d c.hn K X)
    {Q : Value → Shared → Prop} {E : Value → Shared → Prop} (hQ : ∀ ρ' h' tk' v a σ', K v σ' → St G A env ρ' m σ' h' → Ext ρ.l.length ρ h ρ' h' → VR G.EC ρ' h' v a → Q a (sh z h' tk'))
    (hE : ∀ ρ' h' tk' v e σ', X v σ' → St G A env ρ' m σ' h' → Ext ρ.l.length ρ h ρ' h' → Fly G (fl0 env.locals) ρ' h h' e v → E (.ref e) (sh z h' tk')) :
    wpAny (model PG G.w) A (call (.ref C) vals) Q E (sh z h tk) := by
  have X' := S.inK ok.gd.X
  obtain ⟨S1, x1, r1⟩ := S.newW (c := .dict []) (h' := h.push emptyDict) get_size (fun b o e => Heap.get?_push_of_some _ e) (Heap.get?_push_size _ rfl) (fun c q => by cases q) fun x => ⟨[], 0, Heap.get?_push_size _ rfl, .nil⟩
  obtain ⟨ρ1, hρ1⟩ : ∃ ρ1, ρ1 = ρ.addW h.objs.size := ⟨_, rfl⟩
  rw [← hρ1] at S1 x1 r1
  obtain ⟨ρ2, S2, x2, r2⟩ : ∃ ρ2, St G A env ρ2 m { w := σ.w ++ [Cell.dict []] ++ [Cell.inst C (.w σ.w.length)], l := σ.l } ((h.push emptyDict).push (instObj C h.objs.size)) ∧ Ext ρ1.l.length ρ1 (h.push emptyDict) ρ2 ((h.push emptyDict).push (instObj C h.objs.size)) ∧
      VR G.EC ρ2 ((h.push emptyDict).push (instObj C h.objs.size)) (.w (σ.w ++ [Cell.dict []]).length) (.ref (h.push emptyDict).objs.size) :=
    ⟨_, S1.newW (c := .inst C (.w σ.w.length)) (h' := (h.push emptyDict).push (instObj C h.objs.size)) get_size (fun b o e => Heap.get?_push_of_some _ e) (Heap.get?_push_size _ rfl) (fun c q => by cases q) fun x => ⟨h.objs.size, r1.ext x, Heap.get?_push_size _ rfl⟩⟩
  have hs : (h.push emptyDict).objs.size = h.objs.size + 1 := Heap.size_push ..
  have x12 := x1.trans (x2.mono x1.len)
  have hll : (σ.w ++ [Cell.dict []]).length = σ.w.length + 1 := by simp
  have es : ({ w := σ.w ++ [Cell.dict []] ++ [Cell.inst C (.w σ.w.length)], l := σ.l } : AS) = { σ with w := σ.w ++ [.dict [], .inst C (.w σ.w.length)] } := by simp
  rw [es] at S2
  have S2' := S2.chA (A' := A.under (.builtin "type.__call__" ⟨.ref C :: vals, []⟩)) (tc_frames A C vals)
  rw [hll, hs] at r2
  have ok1 : Ok G { c with d := d + 1 } (A.under (.builtin "type.__call__" ⟨.ref C :: vals, []⟩)) env := ok.to (by rw [hd]) (Nat.le_refl _) (by show A.units + 1 ≤ _; omega) rfl
  refine wpAny_call (make_core (makes_of X' F.makes) (looks_findIn X' F.init) (fun self => bind_fn X' self F.ty) (.inl rfl) ?_)
  obtain ⟨oc, od, dV, kV, doc, pm, an, cdv, ct, osl, e1, e2, e3⟩ := F.fn.look
  have X2 := S2'.inK ok.gd.X
  have hv2 : VRs G.EC _ ((h.push emptyDict).push (instObj C h.objs.size)) (.w (σ.w.length + 1) :: vs) (.ref (h.objs.size + 1) :: vals) := .cons r2 (hv.ext x12)
  refine callG (es := []) (c := { c with d := d + 1 }) ok1 S2' rfl (X2 _ _ e1) rfl (codeRec_of X2 e2) (e3 _ _ (by rw [List.length_cons, ← hv.1, hl])) hv2 F.fn.nd F.fn.loc (fun _ _ e => by cases e) F.fn.cell F.fn.co F.fn.gen F.fn.kind (K := fun v σ2 => v = .none ∧ K (.w (σ.w.length + 1)) σ2) (X := X) (by rw [List.append_nil]; exact body) (fun ρ' h' tk' v a σ' q S' x' r => ?_) fun ρ' h' tk' v e σ' q S' x' f => ?_
  · obtain ⟨rfl, q⟩ := q
    cases r
    exact ⟨rfl, hQ ρ' h' tk' _ _ σ' q (S'.chA (tc_frames A C vals).symm) (x12.trans (x'.mono x12.len)) (r2.ext x')⟩
  · exact hE ρ' h' tk' v e σ' q (S'.chA (tc_frames A C vals).symm) (x12.trans (x'.mono x12.len)) (f.mono x12.old fun _ q => fl0_no q)
theorem e_clsW {x px args pos C f fd xs d} (F : ClK G C f fd xs) (hx : nsIn G.K mainGlobals x = some (some (.ref C))) (hk : c.scope.names.lookup x = some .globalImplicit) (hd : c.d = d + 2)
    (h : AS' G c args pos m σ (fun vs σ1 => vs.length + 1 = xs.length ∧ MKw G C fd xs vs σ1 d c.hn K X) X) (ha : ∀ env, (backTo pos (starEach args env)).any (·.1) = false := by intro _; rfl) (hxd : (x == ("__debug__" : Str)) = false := by decide) : AE G c (.Call (.Name x px) args [] pos) m σ K X := by
  intro A env ρ hh tk z Q E ok S hQ hX
  refine Call_ ?_
  refine e_glob (K := fun v σ1 => v = .cst (.ref C) ∧ σ1 = σ) hx hk rfl ⟨rfl, rfl⟩ hxd A env ρ hh tk z _ _ ok S (fun ρ1 h1 tk1 v a σ1 k1 S1 x1 r1 => ?_) hX
  obtain ⟨rfl, rfl⟩ := k1
  cases r1
  refine callWith_fn F.keep (ha env) ?_
  refine h A env ρ1 h1 tk1 z _ _ ok S1 (fun ρ2 h2 tk2 vs vals σ2 k2 S2 x2 r2 => ⟨S2.inK ok.gd.X, ?_⟩) fun ρ2 h2 tk2 v e σ2 k2 S2 x2 f2 => hX ρ2 h2 tk2 v e σ2 k2 S2 (x1.trans (x2.mono x1.len)) (f2.mono x1.old)
  rw [List.nil_append]
  have x3 := x1.trans (x2.mono x1.len)
  exact make_runW F hd ok S2 r2 k2.1 k2.2 (fun ρ3 h3 tk3 v a σ3 k3 S3 x4 r3 => hQ ρ3 h3 tk3 v a σ3 k3 S3 (x3.trans (x4.mono x3.len)) r3)
    fun ρ3 h3 tk3 v e σ3 k3 S3 x4 f4 => hX ρ3 h3 tk3 v e σ3 k3 S3 (x3.trans (x4.mono x3.len)) (f4.mono x3.old)
end
end Mine
end
section
open PySem PySem.W PyProof.Rows PySem.Calls PySem.Spec PySem.SeqAt
set_option maxRecDepth 10000
namespace Mine
structure ClKw (G : Gd) (C f : Addr) (fd : FD) (xs : List Str) (kw : Str) (pre post : List Value) : Prop where
  look : ∃ oc od dV kV doc pm an cdv ct osl, G.K.lookup f = some ⟨oc, od, .func (fdX fd [] dV kV doc pm an cdv ct), osl⟩ ∧ codeIn G.K cdv fd.qual = true ∧ ∀ s self v, G.K.In s.heap → BindsTo s (fdX fd [] dV kV doc pm an cdv ct) ⟨[self], [(kw, v)]⟩ (xs.zip (self :: (pre ++ v :: post)))
  len : pre.length + post.length + 2 = xs.length
  nd : xs.Nodup
  loc : ∀ x ∈ xs, fd.scope.names.lookup x = some .local
  cell : ∀ x ∈ fd.scope.names, x.2 ≠ .cell
  co : fd.scope.isCoroutine = false
  gen : fd.scope.isGenerator = false
  kind : fd.scope.kind = .function
  keep : keepIn G.K (.ref C) = true
  makes : makesIn G.K C = true
  init : findIn G.K (.ref C) "__init__" = some (some (.ref f))
  ty : typeIn G.K (.ref f) = some (.type "function")
section
variable {G : Gd} {c : Cx} {m : Loc} {σ : AS} {K : V → AS → Prop} {X : V → AS → Prop}
theorem vrs_gV {ρ h} : ∀ (vs : List Value), VRs G.EC ρ h (vs.map gV) vs
  | [] => .nil
  | v :: r => .cons gV_ok (vrs_gV r)
theorem e_clsk {x px e kp pos C f fd xs kw pre post d} (F : ClKw G C f fd xs kw pre post) (hx : nsIn G.K mainGlobals x = some (some (.ref C))) (hk : c.scope.names.lookup x = some .globalImplicit) (hd : c.d = d + 2)
    (h : AE G c e m σ (fun u σ1 => FT G fd xs (.l (σ1.l.length + 1) :: (pre.map gV ++ u :: post.map gV)) { σ1 with l := σ1.l ++ [.dict [], .inst C (.l σ1.l.length)] } d c.hn (fun v σ2 => v = .none ∧ K (.l (σ1.l.length + 1)) σ2) X) X)
    (hee : ∀ env, eval (.Call (.Name x px) [] [⟨some kw, e, kp⟩] pos) env = (do callWith pos (← eval (.Name x px) env) [] (backTo pos (starEach [] env)) (backToKw pos (keywordEach [⟨some kw, e, kp⟩] env))) := by intro _; rfl)
    (hxd : (x == ("__debug__" : Str)) = false := by decide) : AE G c (.Call (.Name x px) [] [⟨some kw, e, kp⟩] pos) m σ K X := by
  intro A env ρ hh tk z Q E ok S hQ hX
  show wpAny _ A (eval (.Call (.Name x px) [] [⟨some kw, e, kp⟩] pos) env) Q E _
  rw [hee env]
  refine wpAny_bind ?_
  refine e_glob (K := fun v σ1 => v = .cst (.ref C) ∧ σ1 = σ) hx hk rfl ⟨rfl, rfl⟩ hxd A env ρ hh tk z _ _ ok S (fun ρ0 h0 tk0 v a σ0 k0 S0 x0 r0 => ?_) hX
  obtain ⟨rfl, rfl⟩ := k0
  cases r0
  refine callWith_of (P := fun h => G.K.In h) rfl (keeps_K F.keep) (evalArgs_kw2_nil rfl (kwAll_cons ?_))
  refine h A env ρ0 h0 tk0 z _ _ ok S0 (fun ρ1 h1 tk1 u val σ1 k1 S1 x1 r1 => kwAll_nil ⟨S1.inK ok.gd.X, ?_⟩) fun ρ1 h1 tk1 v e σ1 k1 S1 x1 f1 => hX ρ1 h1 tk1 v e σ1 k1 S1 (x0.trans (x1.mono x0.len)) (f1.mono x0.old)
  have x01 := x0.trans (x1.mono x0.len)
  have X' := S1.inK ok.gd.X
  obtain ⟨S2, x2, r2⟩ := S1.newL (c := .dict []) (h' := h1.push emptyDict) get_size (fun b o e => Heap.get?_push_of_some _ e) ⟨_, Heap.get?_push_size _ rfl⟩ fun x => ⟨[], 0, Heap.get?_push_size _ rfl, .nil⟩
  obtain ⟨ρ2, hρ2⟩ : ∃ ρ2, ρ2 = ({ ρ1 with l := ρ1.l ++ [some h1.objs.size] } : Rho) := ⟨_, rfl⟩
  rw [← hρ2] at S2 x2 r2
  obtain ⟨ρ3, S3, x3, r3⟩ : ∃ ρ3, St G A env ρ3 m { w := σ1.w, l := σ1.l ++ [Cell.dict []] ++ [Cell.inst C (.l σ1.l.length)] } ((h1.push emptyDict).push (instObj C h1.objs.size)) ∧ Ext ρ2.l.length ρ2 (h1.push emptyDict) ρ3 ((h1.push emptyDict).push (instObj C h1.objs.size)) ∧
      VR G.EC ρ3 ((h1.push emptyDict).push (instObj C h1.objs.size)) (.l (σ1.l ++ [Cell.dict []]).length) (.ref (h1.push emptyDict).objs.size) :=
    ⟨_, S2.newL (c := .inst C (.l σ1.l.length)) (h' := (h1.push emptyDict).push (instObj C h1.objs.size)) get_size (fun b o e => Heap.get?_push_of_some _ e) ⟨_, Heap.get?_push_size _ rfl⟩ fun x => ⟨h1.objs.size, r2.ext x, Heap.get?_push_size _ rfl⟩⟩
  have hs : (h1.push emptyDict).objs.size = h1.objs.size + 1 := Heap.size_push ..
  have x12 := x2.trans (x3.mono x2.len)
  have hll : (σ1.l ++ [Cell.dict []]).length = σ1.l.length + 1 := by simp
  have es : ({ w := σ1.w, l := σ1.l ++ [Cell.dict []] ++ [Cell.inst C (.l σ1.l.length)] } : AS) = { σ1 with l := σ1.l ++ [.dict [], .inst C (.l σ1.l.length)] } := by simp
  rw [es] at S3
  have tf : (A.under (.builtin "type.__call__" ⟨.ref C :: [], [(kw, val)]⟩)).frames = A.frames := by
    show pushEnvs [] A.frames = A.frames
    unfold pushEnvs
    cases A.frames <;> rfl
  have S3' := S3.chA (A' := A.under (.builtin "type.__call__" ⟨.ref C :: [], [(kw, val)]⟩)) tf
  rw [hll, hs] at r3
  have ok1 : Ok G { c with d := d + 1 } (A.under (.builtin "type.__call__" ⟨.ref C :: [], [(kw, val)]⟩)) env := ok.to (by rw [hd]) (Nat.le_refl _) (by show A.units + 1 ≤ _; omega) rfl
  refine wpAny_call (make_core (makes_of X' F.makes) (looks_findIn X' F.init) (fun self => bind_fn X' self F.ty) (.inl rfl) ?_)
  obtain ⟨oc, od, dV, kV, doc, pm, an, cdv, ct, osl, e1, e2, e3⟩ := F.look
  have X2 := S3'.inK ok.gd.X
  have hv2 : VRs G.EC ρ3 ((h1.push emptyDict).push (instObj C h1.objs.size)) (.l (σ1.l.length + 1) :: (pre.map gV ++ u :: post.map gV)) (.ref (h1.objs.size + 1) :: (pre ++ val :: post)) := .cons r3 ((vrs_gV pre).append (.cons (r1.ext x12) (vrs_gV post)))
  refine callG (es := []) (c := { c with d := d + 1 }) ok1 S3' rfl (X2 _ _ e1) rfl (codeRec_of X2 e2) (e3 _ _ _ X2) hv2 F.nd F.loc (fun _ _ e => by cases e) F.cell F.co F.gen F.kind (K := fun v σ2 => v = .none ∧ K (.l (σ1.l.length + 1)) σ2) (X := X) (by rw [List.append_nil]; exact k1) (fun ρ' h' tk' v a σ' q S' x' r => ?_) fun ρ' h' tk' v e σ' q S' x' f => ?_
  · obtain ⟨rfl, q⟩ := q
    cases r
    exact ⟨rfl, hQ ρ' h' tk' _ _ σ' q (S'.chA tf.symm) (x01.trans ((x12.trans (x'.mono x12.len)).mono x01.len)) (r3.ext x')⟩
  · exact hX ρ' h' tk' v e σ' q (S'.chA tf.symm) (x01.trans ((x12.trans (x'.mono x12.len)).mono x01.len)) ((f.mono x12.old fun _ q => fl0_no q).mono x01.old)
theorem e_globtup {x px a n} {bs : List (Array UInt8)} {ts : List Tok} (hx : nsIn G.K mainGlobals x = some (some (.ref a))) (ha : G.K.lookup a = some { cls := .type "tuple", data := .seq ((bs.zip ts).map fun p => Value.bytes p.1 p.2).toArray n }) (hl : bs.length = ts.length) (hk : c.scope.names.lookup x = some .globalImplicit) (h : K (.tup (bs.map .byt)) σ) (hxd : (x == ("__debug__" : Str)) = false := by decide) : AE G c (.Name x px) m σ K X := by
  intro A env ρ hh tk z Q E ok S hQ hX
  refine glob_raw ok S hx hk hxd (hQ ρ hh tk _ _ σ h S (.refl (Nat.le_refl _)) ?_)
  refine .tup (S.inK ok.gd.X _ _ ha) (fun q => ?_) (by simp [hl]) fun i x v e1 e2 => ?_
  · have := ok.gd.X _ _ ha
    rw [(S.hown _ q).1] at this
    cases this
  · rw [List.getElem?_map] at e1 e2
    cases q : (bs.zip ts)[i]? with
    | none => rw [q] at e2; cases e2
    | some p =>
      rw [q] at e2
      cases e2
      rw [List.getElem?_zip_eq_some] at q
      rw [q.1] at e1
      cases e1
      exact .byt
end
end Mine
end
section
open PySem PySem.W PyProof.Rows PySem.Calls PySem.Spec PySem.SeqAt
set_option maxRecDepth 10000
namespace Mine
section
variable {G : Gd} {c : Cx} {m : Loc} {σ : AS} {K : Fl → Loc → AS → Prop} {X : V → Loc → AS → Prop}
theorem s_enum {elts k tp e px cpos body pos} (hh : c.hn = true) (hx : nsIn G.K mainGlobals "enumerate" = some none) (hk : c.scope.names.lookup ("enumerate" : Str) = some .globalImplicit)
    (h : AE G c e m σ (fun v σ1 => ∃ xs, lstOf σ1 v = some xs ∧ (xs = [] ∧ K .next m σ1 ∨ ∃ x r, xs = x :: r ∧ TA G c (assign (.Tuple elts k tp)) (.tup [.int 0, x]) m σ1 (fun m' σ' => SS G c body m' σ' (fun fl m2 σ2 => ∃ v, fl = .ret v ∧ K (.ret v) m2 σ2) (fun _ _ _ => False)) (fun _ _ _ => False))) (fun v σ1 => X v m σ1))
    (hv : bootBuiltins "enumerate" = some (.type "enumerate"))
    (hs : ∀ env x, foldedSetIterable (.Call (.Name "enumerate" px) [e] [] cpos) env x = pure x := by intro _ _; rfl) (he : ∀ env, starEach (e :: []) env = (false, eval e env) :: starEach [] env := by intro _; rfl) :
    S1 G c (.For (.Tuple elts k tp) (.Call (.Name "enumerate" px) [e] [] cpos) body [] pos) m σ K X := by
  intro A env ρ hp tk z Q E ok S hn hQ hE
  refine wpAny_For ?_ (hs env)
  refine Call_ ?_
  refine e_blt (K := fun v σ1 => v = .cst (.type "enumerate") ∧ σ1 = σ) (X := fun v σ1 => X v m σ1) hx hv hk ⟨rfl, rfl⟩ (by decide) (by decide) A env ρ hp tk z _ _ ok S (fun ρ0 h0 tk0 v a σ0 k0 S0 x0 r0 => ?_) fun ρ1 h1 tk1 v e σ1 k1 S1 x1 f1 => hE ρ1 h1 tk1 v m σ1 e k1 S1 (x1.mono hn) f1
  obtain ⟨rfl, rfl⟩ := k0
  cases r0
  refine callWith_type1 (args_cons ?_ (he env)) (he env)
  refine h A env ρ0 h0 tk0 z _ _ ok S0 (fun ρ1 h1 tk1 v a σ1 k1 S1 x1 r1 => args_nil ?_) fun ρ1 h1 tk1 v e σ1 k1 S1 x1 f1 => hE ρ1 h1 tk1 v m σ1 e k1 S1 ((x0.trans (x1.mono x0.len)).mono hn) (f1.mono x0.old)
  have x01 := (x0.trans (x1.mono x0.len)).mono hn
  obtain ⟨xs, hc, k1⟩ := k1
  obtain ⟨la, vals, n, rfl, hla, rr⟩ := lst_at S1 hc r1
  have il := isList_of hla
  refine call_enumerate_list il fun h2 he2 hit2 hsz2 up => ?_
  dsimp only at he2 hit2 hsz2 up
  refine wpAny_pyIter_enum he2 ?_
  generalize hI : h1.objs.size = I at *
  have nI : h1.get? I = none := by rw [← hI]; exact get_size
  have nE : h1.get? (I + 1) = none := get_none fun o e => by have q := Heap.lt_size e; rw [hI] at q; exact Nat.lt_asymm q (Nat.lt_succ_self I)
  have hne : I + 1 ≠ I := Nat.succ_ne_self I
  have hf : ∀ b ∈ [I + 1, I], h1.get? b = none ∧ ∃ o, h2.get? b = some o := fun b q => by
    rcases List.mem_cons.mp q with rfl | q
    · exact ⟨nE, _, he2⟩
    · obtain rfl := List.mem_singleton.mp q
      obtain ⟨o, e, _⟩ := hit2
      exact ⟨nI, o, e⟩
  have SA := S1.takeA (is := [I + 1, I]) up hf (by simp)
  have nc2 : ∀ b ∈ [I + 1, I], ∀ c, ¬h2.IsCell b c := fun b q c ⟨o, e, d⟩ => by
    rcases List.mem_cons.mp q with rfl | q
    · rw [he2] at e; cases e; cases d
    · obtain rfl := List.mem_singleton.mp q
      obtain ⟨o', e', _, d'⟩ := hit2
      rw [e] at e'; cases e'
      rw [d] at d'; cases d'
  have hlI : la ≠ I := fun q => by rw [q, nI] at hla; cases hla
  have hlE : la ≠ I + 1 := fun q => by rw [q, nE] at hla; cases hla
  have il2 : h2.IsList la vals.toArray := il.at fun o e => up la o e
  refine codeAny_forLoop_any (fun kk s => kk = 1 ∧ s = sh z h2 tk1) ?_ 1 ⟨rfl, rfl⟩
  rintro kk s ⟨rfl, rfl⟩
  rcases k1 with ⟨rfl, k1⟩ | ⟨x, r, rfl, k1⟩
  · have := rr.inv_nil
    subst this
    refine wpAny_pyNext_enum_end (s := sh z h2 tk1) (ok.hn hh) (i := 0) he2 hit2 il2 rfl fun h3 k3 => ?_
    refine wpAny_execs_nil ?_
    have kd : ∀ b o, b ∉ [I + 1, I] → h2.get? b = some o → h3.get? b = some o := fun b o q e => k3 b o (fun w => q (by simp [w])) e
    have S3 := (SA.dropK (h' := h3) kd nc2).1
    have x3 : Ext c.n ρ1 h1 ρ1 h3 := (Ext.refl (ρ := ρ1.cA [I + 1, I]) (h := h2) (by exact x01.len)).fromK kd up (fun b q => (hf b q).1) fun _ q => q
    exact hQ ρ1 h3 tk1 .next m σ1 _ k1 S3 (x01.trans x3) .next
  · obtain ⟨w, ws, rfl, rw1, rws⟩ := rr.inv_cons
    refine wpAny_pyNext_enum_item (s := sh z h2 tk1) (i := 0) he2 hit2 il2 (x := w) rfl hne fun h3 heo hit3 hT hz3 k3 => ?_
    dsimp only at heo hT hz3 k3
    refine wpAny_letOwnedTupleGo_enum (s := sh z h3 (tk1 + 1)) heo fun h4 he4 hs4 => ?_
    replace hs4 : Heap.SameBut (I + 1) h3 h4 := hs4
    have k4 : ∀ b o, b ∉ [I + 1, I] → h2.get? b = some o → h4.get? b = some o := fun b o q e => hs4.extBut b o (fun w => q (by simp [w])) (k3 b o (fun w => q (by simp [w])) (fun w => q (by simp [w])) e)
    obtain ⟨S4, t4⟩ := SA.dropK (h' := h4) k4 nc2
    have x4 : Ext ρ1.l.length ρ1 h1 ρ1 h4 := (Ext.refl (ρ := ρ1.cA [I + 1, I]) (h := h2) (Nat.le_refl _)).fromK k4 up (fun b q => (hf b q).1) fun _ q => q
    have x04 := x01.trans (x4.mono x01.len)
    have hT4 : h4.get? h2.objs.size = some { cls := .type "tuple", data := .seq #[.int ((0 : Nat) : Int) tk1, w] } := hs4.extBut _ _ (Nat.ne_of_gt (Heap.lt_size he2)) hT
    have nT : ¬ρ1.own h2.objs.size := fun q => by
      obtain ⟨_, o, e⟩ := S1.hown _ q
      exact Nat.lt_irrefl _ (Heap.lt_size (up _ o e))
    have rt : VR G.EC ρ1 h4 (.tup [.int 0, x]) (.ref h2.objs.size) := .tup (vs := [.int ((0 : Nat) : Int) tk1, w]) hT4 nT rfl fun i y v e1 e2 => by
      cases i with
      | zero => cases e1; cases e2; exact .int
      | succ i =>
        cases i with
        | zero => cases e1; cases e2; exact rw1.ext x4
        | succ i => simp at e1
    refine k1 A env ρ1 h4 _ z _ _ _ ok S4 x04.len rt (fun ρ5 h5 tk5 m5 σ5 k5 S5 x5 => ?_) fun _ _ _ _ _ _ _ q => q.elim
    refine k5 A env ρ5 h5 tk5 z _ _ ok S5 x5.len (fun ρ6 h6 tk6 fl m6 σ6 a6 k6 S6 x6 r6 => ?_) fun _ _ _ _ _ _ _ q => q.elim
    obtain ⟨u, rfl, k6⟩ := k6
    cases r6 with
    | ret r6 => exact hQ ρ6 h6 tk6 _ m6 σ6 _ k6 S6 (x04.trans (x5.trans x6)) (.ret r6)
end
end Mine
end
section
open PySem PySem.W PyProof.Rows PySem.Calls PySem.Spec PySem.SeqAt PySem.Builtin PySem.Builtin.ObjectAttr
set_option maxRecDepth 10000
namespace Mine
theorem ga_slot : Slot "Exception" "__getattribute__" "BaseException.__getattribute__" := .of (owner := "BaseException") (n := "__getattribute__") (by rw [typeLookup_type, builtinLookup_eq_fast]; kernel_rfl) (by decide +kernel) (by decide +kernel) (by decide +kernel)
    (by first | exact .inl (by decide +kernel) | exact .inr (by decide +kernel)) (by rw [isSubtype_type]; kernel_rfl)
theorem oga_eq (self : Value) (nm : Str) (tk : Tok) : ∃ k : Value → Found → Sem Fin, (∀ tp v, k tp (.value v) = ret v) ∧ Builtin.«object.__getattribute__» ⟨[self, .str nm tk], []⟩ = (typeOf self >>= fun tp => find self tp nm >>= k tp) := ⟨_, fun _ _ => rfl, rfl⟩
noncomputable def excGet (K : Frag) (C : Addr) (nm : Str) : Bool := (findIn K (.ref C) "__getattribute__" == some (some (.builtin "BaseException.__getattribute__"))) && (findIn K (.ref C) "__getattr__" == some none) && (mroIn K C (.type "BaseException") == some true) && hasDictIn K C && (findIn K (.ref C) nm == some none)
theorem get_own_exc {K : Frag} {w : World} {A : Around} {h : Heap} {z : Shared} {tk : Tok} {x C : Addr} {oe : Obj} {des : List DictEntry} {n : Nat} {nm v} {Q : Value → Shared → Prop} {E : Value → Shared → Prop} (X : K.In h) (I : InstAt h x oe C (some (dictOf des n))) (hg : excGet K C nm = true)
    (hl : getL nm des = some (some v)) (hv : handedIn v = true) (hQ : Q v (sh z h (tk + 1))) : wpAny (model PG w) A (getAttr (.ref x) nm true) Q E (sh z h tk) := by
  simp only [excGet, Bool.and_eq_true, beq_iff_eq] at hg
  obtain ⟨⟨⟨⟨h1, h2⟩, h3⟩, h4⟩, h5⟩ := hg
  have hf : findObj K C (some (dictOf des n)) nm = some (.value v) := findObj_own h4 h5 rfl hl
  have L0 : Looks (model PG w) h (typeOf (.ref x)) (.ref C) := I.type
  have L1 := looks_findIn (M := model PG w) X h1
  have L2 := looks_findIn (M := model PG w) X h2
  have L3 := looks_find (M := model PG w) X I hf
  have sub : Looks (model PG w) h (isInstance (.ref x) (.type "BaseException")) true := L0.andThen (looks_mroIn X h3)
  have hx2 : (Value.builtin "BaseException.__getattribute__" == Value.builtin "object.__getattribute__") = false := by decide +kernel
  unfold getAttr getAttrBy
  refine wpAny_bind (wpAny_mkText (wpAny_holding (wpAny_bind (L0.here (s := sh z h (tk + 1)) (wpAny_bind (L1.here (s := sh z h (tk + 1)) ?_))))))
  dsimp only
  rw [hx2, Bool.and_false]
  show wpAny _ _ (getAttrByItsOwn _ _ _ _ _ _) _ _ _
  unfold getAttrByItsOwn
  refine wpAny_bind (L2.here (s := sh z h (tk + 1)) (wpAny_bind (wpAny_attempt (wpAny_holding ?_))))
  show wpAny _ _ (boundAndCalled _ _ _) _ _ _
  unfold boundAndCalled
  rw [ga_slot.bind]
  refine wpAny_bind (wpAny_pure (wpAny_call ?_))
  show codeAny _ _ (.call (.builtin "BaseException.__getattribute__") ⟨[.ref x, .str nm tk], []⟩) _ _
  have hk : builtinKind "BaseException.__getattribute__" = some .slot := by decide +kernel
  have hsplit : splitId "BaseException.__getattribute__" = some ("BaseException", "__getattribute__") := by decide +kernel
  refine codeAny_call_builtin ga_slot.plain F.entry_bexc_ga (@check_slot (model PG w) _ _ (sh z h (tk + 1)) "BaseException.__getattribute__" "BaseException" "__getattribute__" (.ref x) [.str nm tk] [] _ hk hsplit sub (F.args_bexc_ga _ _) ?_)
  obtain ⟨k, k1, k2⟩ := oga_eq (.ref x) nm tk
  rw [k2]
  refine wpAny_bind (L0.here (s := sh z h (tk + 1)) (wpAny_bind (L3.here (s := sh z h (tk + 1)) ?_)))
  rw [k1]
  refine wpAny_pure ?_
  show wpAny _ _ (handedOut v) _ _ _
  rw [handedOut_of hv]; exact wpAny_pure hQ
end Mine
end
section
open PySem PySem.W PyProof.Rows PySem.Calls PySem.Spec PySem.SeqAt
set_option maxRecDepth 10000
namespace Mine
noncomputable def nthS : List Stmt → Nat → Stmt
  | x :: _, 0 => x
  | _ :: r, n + 1 => nthS r n
  | [], _ => .Pass ⟨0, 0, 0, 0⟩
noncomputable def clsBody : Stmt → List Stmt
  | .ClassDef _ _ _ body _ _ _ _ _ _ _ => body
  | _ => []
noncomputable def fdOf (q : Str) : Stmt → FD
  | .FunctionDef name params body _ _ _ scope _ _ _ => ⟨name, q ++ name, params, body, scope⟩
  | _ => ⟨q, q, ⟨[], [], none, [], [], none, []⟩, [], ⟨.function, [], false, false, []⟩⟩
noncomputable def topS (i : Nat) : Stmt := nthS PG.main.body i
noncomputable def fnAt (i : Nat) : FD := fdOf "" (topS i)
noncomputable def meAt (q : Str) (i j : Nat) : FD := fdOf q (nthS (clsBody (topS i)) j)
noncomputable def fd_limits := meAt "Limits." 2 0
noncomputable def fd_err := meAt "LuaError." 3 0
noncomputable def fd_number_text := fnAt 4
noncomputable def fd_c_text := fnAt 5
noncomputable def fd_chunk_id := fnAt 7
noncomputable def fd_tt_init := meAt "TreeTable." 11 0
noncomputable def fd_find := meAt "TreeTable." 11 1
noncomputable def fd_get := meAt "TreeTable." 11 2
noncomputable def fd_set := meAt "TreeTable." 11 3
noncomputable def fd_bi_init := meAt "Builtin." 12 0
noncomputable def fd_tree_type := fnAt 13
noncomputable def fd_same := fnAt 14
noncomputable def fd_is_function := fnAt 15
noncomputable def fd_fr_init := meAt "Frame." 16 0
noncomputable def fd_host_init := meAt "Host." 17 0
noncomputable def fd_tick := meAt "Host." 17 2
noncomputable def fd_go_deeper := meAt "Host." 17 3
noncomputable def fd_where := meAt "Host." 17 4
noncomputable def fd_fail := meAt "Host." 17 5
noncomputable def fd_complain := meAt "Host." 17 6
noncomputable def fd_fail_type := meAt "Host." 17 7
noncomputable def fd_cut_frames := meAt "Host." 17 8
noncomputable def fd_handler := meAt "Host." 17 9
noncomputable def fd_call := meAt "Host." 17 12
noncomputable def fd_call_other := meAt "Host." 17 13
noncomputable def fd_call_host := meAt "Host." 17 14
noncomputable def fd_refuse := fnAt 19
noncomputable def fd_need := fnAt 20
noncomputable def fd_pcall := fnAt 21
noncomputable def fd_draw := fnAt 24
noncomputable def fd_deeds := fnAt 25
noncomputable def fd_callof := fnAt 26
noncomputable def fd_said := fnAt 27
noncomputable def fd_function := fnAt 28
noncomputable def fd_meant := fnAt 29
noncomputable def fd_law := fnAt 30
noncomputable abbrev cLimits : Addr := 53
noncomputable abbrev cErr : Addr := 74
noncomputable abbrev cTable : Addr := 157
noncomputable abbrev cBuiltin : Addr := 178
noncomputable abbrev cFrame : Addr := 220
noncomputable abbrev cHost : Addr := 374
noncomputable def globs : List (Str × Addr) := [("Limits", cLimits), ("LuaError", cErr), ("TreeTable", cTable), ("Builtin", cBuiltin), ("Frame", cFrame), ("Host", cHost), ("number_text", 84), ("c_text", 91), ("chunk_id", 105), ("tree_type", 189), ("same", 196), ("is_function", 203),
  ("refuse_argument", 385), ("need_any", 392), ("base_pcall", 399), ("_law_draw", 407), ("_law_deeds", 414), ("_law_call_of", 421), ("_law_said", 428), ("_law_function", 435), ("_law_meant", 442)]
noncomputable def blts : List (Str × Value) := [("isinstance", .builtin "isinstance"), ("len", .builtin "len"), ("abs", .builtin "abs"), ("bytes", .type "bytes"), ("bool", .type "bool"), ("int", .type "int"), ("tuple", .type "tuple"), ("range", .type "range"), ("enumerate", .type "enumerate")]
noncomputable def attrs : List (Addr × Str) := [(cLimits, "steps"), (cTable, "number"), (cTable, "keys"), (cTable, "values"), (cTable, "meta"), (cBuiltin, "number"), (cBuiltin, "work"), (cFrame, "line"), (cFrame, "deep"), (cHost, "limits"), (cHost, "chunk"), (cHost, "steps"), (cHost, "frames"), (cHost, "deep")]
noncomputable def sets : List (Addr × Str) := [(cLimits, "width"), (cLimits, "registers"), (cLimits, "upvalues"), (cLimits, "local_names"), (cLimits, "ccalls"), (cLimits, "frames"), (cLimits, "stack"), (cLimits, "flush"), (cLimits, "steps"), (cLimits, "text"),
  (cTable, "number"), (cTable, "keys"), (cTable, "values"), (cTable, "meta"), (cBuiltin, "number"), (cBuiltin, "name"), (cBuiltin, "work"), (cFrame, "number"), (cFrame, "cells"), (cFrame, "extra"), (cFrame, "line"), (cFrame, "deep"),
  (cHost, "limits"), (cHost, "chunk"), (cHost, "out"), (cHost, "steps"), (cHost, "made"), (cHost, "frames"), (cHost, "deep"), (cHost, "texts")]
noncomputable def meths : List (Addr × Str × Addr) := [(cTable, "find", 126), (cTable, "get", 133), (cTable, "set", 140), (cHost, "tick", 252), (cHost, "go_deeper", 259), (cHost, "where", 266), (cHost, "fail", 273), (cHost, "complain", 280), (cHost, "fail_type", 287), (cHost, "cut_frames", 294),
  (cHost, "handler", 301), (cHost, "call", 322), (cHost, "call_other", 329), (cHost, "call_host", 336)]
noncomputable def kits : List (Value × Value × Bool) :=
  [.type "NoneType", .type "bool", .type "int", .type "bytes", .type "str", .type "tuple", .ref cTable, .ref cBuiltin].flatMap fun t =>
    [(t, .type "bool", t == .type "bool"), (t, .type "int", t == .type "int" || t == .type "bool"), (t, .type "bytes", t == .type "bytes"), (t, .type "tuple", t == .type "tuple"), (t, .ref cTable, t == .ref cTable), (t, .ref cBuiltin, t == .ref cBuiltin)]
structure Gr (G : Gd) : Prop where
  ec : G.EC = cErr
  gl : ∀ p ∈ globs, nsIn G.K mainGlobals p.1 = some (some (.ref p.2))
  bl : ∀ p ∈ blts, nsIn G.K mainGlobals p.1 = some none
  deep : ∃ t, nsIn G.K mainGlobals "MOST_DEEP" = some (some (.int 820 t))
  hcall : ∃ t, nsIn G.K mainGlobals "HOST_CALL" = some (some (.int 8 t))
  known : ∃ a n t u, nsIn G.K mainGlobals "_law_known" = some (some (.ref a)) ∧ G.K.lookup a = some { cls := .type "tuple", data := .seq #[.bytes #[116, 111, 111, 32, 109, 97, 110, 121, 32, 115, 116, 101, 112, 115] t, .bytes #[115, 116, 97, 99, 107, 32, 111, 118, 101, 114, 102, 108, 111, 119] u] n }
  at_ : ∀ p ∈ attrs, attrOk G.K p.1 p.2 = true
  set_ : ∀ p ∈ sets, setOk G.K p.1 p.2 = true
  me : ∀ p ∈ meths, methOk G.K p.1 p.2.1 p.2.2 = true
  kit : ∀ p ∈ kits, kitOne G.K p.1 p.2.1 = some p.2.2
  own1 : ownOk G.K cTable = true
  own2 : ownOk G.K cBuiltin = true
  exc : excOk G.K cErr = true
  excv : excGet G.K cErr "value" = true
  take : ∀ x ∈ (["value", "trace", "is_in_handler"] : List Str), takerIn G.K cErr x = some none
  cLim : ∃ pre post, ClKw G cLimits 36 fd_limits ["self", "width", "registers", "upvalues", "local_names", "ccalls", "frames", "stack", "flush", "steps", "text"] "steps" pre post ∧ pre.map gV = [.int 64, .int 250, .int 60, .int 200, .int 40, .int 200, .int 2000, .int 50] ∧ post.map gV = [.int 1000000]
  cTab : ClK G cTable 119 fd_tt_init ["self", "number"]
  cBui : ClK G cBuiltin 175 fd_bi_init ["self", "number", "name", "work"]
  cFra : ClK G cFrame 217 fd_fr_init ["self", "number", "cells", "extra"]
  cHos : ClK G cHost 238 fd_host_init ["self", "limits", "source"]
  cExc : ExK G 71 fd_err ["self", "value"]
  number_text : FnK G 84 fd_number_text ["n"]
  c_text : FnK G 91 fd_c_text ["text"]
  chunk_id : FnK G 105 fd_chunk_id ["source", "size"]
  find : FnK G 126 fd_find ["self", "key"]
  get : FnK G 133 fd_get ["self", "key"]
  set : FnK G 140 fd_set ["self", "key", "value"]
  tree_type : FnK G 189 fd_tree_type ["value"]
  same : FnK G 196 fd_same ["one", "other"]
  is_function : FnK G 203 fd_is_function ["value"]
  tick : FnK G 252 fd_tick ["self"]
  go_deeper : FnK G 259 fd_go_deeper ["self", "many"]
  where_ : FnK G 266 fd_where ["self", "level"]
  fail : FnK G 273 fd_fail ["self", "text"]
  complain : FnK G 280 fd_complain ["self", "text"]
  fail_type : FnK G 287 fd_fail_type ["self", "value", "deed", "name"]
  cut_frames : FnK G 294 fd_cut_frames ["self", "many"]
  handler : FnK G 301 fd_handler ["self", "value", "event"]
  call : FnK G 322 fd_call ["self", "function", "args", "name"]
  call_other : FnK G 329 fd_call_other ["self", "function", "args", "name"]
  call_host : FnK G 336 fd_call_host ["self", "function", "args"]
  refuse : FnK G 385 fd_refuse ["runner", "name", "at", "text"]
  need : FnK G 392 fd_need ["runner", "name", "args", "at"]
  pcall : FnK G 399 fd_pcall ["runner", "args"]
  draw : FnK G 407 fd_draw ["spool", "below"]
  deeds : FnK G 414 fd_deeds ["spool", "at"]
  callof : FnK G 421 fd_callof ["way", "one", "row", "catcher", "none"]
  said : FnK G 428 fd_said ["value"]
  function : FnC G 435 fd_function ["world", "at"] 434
  meant : FnK G 442 fd_meant ["state", "thing", "args", "standing"]
  code : CodeHd G.H 434 430
theorem Gr.blt {G} (g : Gr G) {x v} (h : (x, v) ∈ blts := by decide) : nsIn G.K mainGlobals x = some none := g.bl _ h

inductive TK (σ : AS) : V → Array UInt8 → Prop
  | none : TK σ .none #[110, 105, 108]
  | int {i} : TK σ (.int i) #[110, 117, 109, 98, 101, 114]
  | byt {b} : TK σ (.byt b) #[115, 116, 114, 105, 110, 103]
  | table {v es} : instOf σ v = some (cTable, es) → TK σ v #[116, 97, 98, 108, 101]
  | func {v es} : instOf σ v = some (cBuiltin, es) → TK σ v #[102, 117, 110, 99, 116, 105, 111, 110]
theorem tyV_inst {K σ v C es} (e : instOf σ v = some (C, es)) (h : ownOk K C = true) : tyV K σ v = some (.ref C) := by
  cases v <;> first | (cases e; done) | (cases e; simp [tyV, instOf, h]) | (simp only [tyV, e, h, if_true])
theorem isN_inst {σ v C es} (e : instOf σ v = some (C, es)) : isN v = some false := by
  cases v <;> first | rfl | (cases e; done)
section
variable {G : Gd} {σ : AS} {K : V → AS → Prop} {X : V → AS → Prop} {d : Nat} {hn : Bool}
theorem b_isi {c : Cx} {m : Loc} (g : Gr G) {px x e pos v t cv b} {K : Bool → AS → Prop} {X : V → AS → Prop} (hk : c.scope.names.lookup ("isinstance" : Str) = some .globalImplicit) (he : ∀ {K'}, K' v σ → AE G c x m σ K' X) (hc : ∀ {K'}, K' (V.cst cv) σ → AE G c e m σ K' X)
    (ht : tyV G.K σ v = some t) (hkit : (t, cv, b) ∈ kits) (h : K b σ)
    (hb : ∀ env, isTrue (.Call (.Name "isinstance" px) [x, e] [] pos) env (eval (.Call (.Name "isinstance" px) [x, e] [] pos) env) = (do let v ← eval (.Call (.Name "isinstance" px) [x, e] [] pos) env; standAt (Expr.Call (.Name "isinstance" px) [x, e] [] pos).pos; holding [v] (truthy v)) := by intro _; rfl)
    (ha : ∀ env, (backTo pos (starEach [x, e] env)).any (·.1) = false := by intro _; rfl) (h1 : ∀ env, starEach (x :: [e]) env = (false, eval x env) :: starEach [e] env := by intro _; rfl) (h2 : ∀ env, starEach (e :: []) env = (false, eval e env) :: starEach [] env := by intro _; rfl) :
    AB G c (.Call (.Name "isinstance" px) [x, e] [] pos) m σ K X :=
  b_val (e_isi (g.blt (v := .builtin "isinstance")) hk (he (hc ⟨t, cv, b, rfl, ht, g.kit _ hkit, b, rfl, h⟩)) (by decide +kernel) ha h1 h2) hb
theorem tk_ty (g : Gr G) {v k} (h : TK σ v k) : ∃ t, tyV G.K σ v = some t ∧ isN v = some (decide (k = #[110, 105, 108])) ∧ ((t, .type "bool", false) ∈ kits) ∧ (t, .type "int", decide (k = #[110, 117, 109, 98, 101, 114])) ∈ kits ∧ (t, .type "bytes", decide (k = #[115, 116, 114, 105, 110, 103])) ∈ kits ∧ (t, .ref cTable, decide (k = #[116, 97, 98, 108, 101])) ∈ kits := by
  cases h with
  | none => exact ⟨_, rfl, rfl, by decide +kernel⟩
  | int => exact ⟨_, rfl, rfl, by decide +kernel⟩
  | byt => exact ⟨_, rfl, rfl, by decide +kernel⟩
  | table e => exact ⟨_, tyV_inst e g.own1, isN_inst e, by decide +kernel⟩
  | func e => exact ⟨_, tyV_inst e g.own2, isN_inst e, by decide +kernel⟩
theorem c_tree_type (g : Gr G) {v k} (h : TK σ v k) (hK : K (.byt k) σ) : FT G fd_tree_type ["value"] [v] σ d hn K X := by
  obtain ⟨t, h1, h2, h3, h4, h5, h6⟩ := tk_ty g h
  cases h <;> (
    refine ss_cons (s_if (b_cv (e_local (by rfl) (by rfl) (e_none ⟨_, cv_isn h2, ?_⟩))))
    first
    | exact ss_cons (s_ret (e_byt hK))
    | (refine ss_nil (ss_cons (s_if (b_isi g (by rfl) (fun q => e_local (by rfl) (by rfl) q) (fun q => e_blt (g.blt (v := .type "bool")) (by decide +kernel) (by rfl) q) h1 h3 (ss_nil (ss_cons (s_if (b_isi g (by rfl) (fun q => e_local (by rfl) (by rfl) q) (fun q => e_blt (g.blt (v := .type "int")) (by decide +kernel) (by rfl) q) h1 h4 ?_)))))))
       first
       | exact ss_cons (s_ret (e_byt hK))
       | (refine ss_nil (ss_cons (s_if (b_isi g (by rfl) (fun q => e_local (by rfl) (by rfl) q) (fun q => e_blt (g.blt (v := .type "bytes")) (by decide +kernel) (by rfl) q) h1 h5 ?_)))
          first
          | exact ss_cons (s_ret (e_byt hK))
          | (refine ss_nil (ss_cons (s_ret (e_ite (b_isi g (by rfl) (fun q => e_local (by rfl) (by rfl) q) (fun q => e_glob (g.gl (_, cTable) (by decide +kernel)) (by rfl) rfl q) h1 h6 ?_))))
             exact e_byt hK))))
end
end Mine
end
section
open PySem PySem.W PyProof.Rows PySem.Calls PySem.Spec PySem.SeqAt
set_option maxRecDepth 10000
namespace Mine
theorem Gr.set' {G} (g : Gr G) {C nm} (h : (C, nm) ∈ sets) : setOk G.K C nm = true := g.set_ _ h
theorem Gr.at' {G} (g : Gr G) {C nm} (h : (C, nm) ∈ attrs) : attrOk G.K C nm = true := g.at_ _ h
theorem Gr.me' {G} (g : Gr G) {C nm f} (h : (C, nm, f) ∈ meths) : methOk G.K C nm f = true := g.me _ h
theorem Gr.gl' {G} (g : Gr G) {x a} (h : (x, a) ∈ globs) : nsIn G.K mainGlobals x = some (some (.ref a)) := g.gl _ h
section
variable {G : Gd} {c : Cx} {m : Loc} {σ : AS} {K : V → AS → Prop} {X : V → AS → Prop}
theorem c_err (g : Gr G) {u d hn} (h : ∀ t, K (.l σ.l.length) { σ with l := σ.l ++ [.exc (excFs t) (some (.l (σ.l.length + 1))), .dict [("value", u), ("trace", .lst []), ("is_in_handler", .bool false)]] }) : XK G fd_err ["self", "value"] [u] σ d hn K X := by
  intro t
  have e0 : (σ.l ++ [Cell.exc (excFs t) none])[σ.l.length]? = some (.exc (excFs t) none) := by simp
  refine ss_cons (s_setexc0 (e_local (by rfl) (by rfl) (e_local (by rfl) (by rfl) ⟨σ.l.length, excFs t, rfl, e0, by rw [g.ec]; exact g.exc, by rw [g.ec]; exact g.take _ (by simp), ?_⟩)))
  have e1 : ((σ.l ++ [Cell.exc (excFs t) none]).set σ.l.length (.exc (excFs t) (some (.l (σ.l ++ [Cell.exc (excFs t) none]).length))) ++ [.dict [((Str.ofString "value"), u)]]) = σ.l ++ [.exc (excFs t) (some (.l (σ.l.length + 1))), .dict [("value", u)]] := by
    rw [List.set_append_right _ _ (Nat.le_refl _)]
    simp
  have e2 : ({ w := σ.w, l := (σ.l ++ [Cell.exc (excFs t) none]).set σ.l.length (.exc (excFs t) (some (.l (σ.l ++ [Cell.exc (excFs t) none]).length))) ++ [.dict [((Str.ofString "value"), u)]] } : AS) = { σ with l := σ.l ++ [.exc (excFs t) (some (.l (σ.l.length + 1))), .dict [("value", u)]] } := by rw [e1]
  show SS G _ _ _ ({ w := σ.w, l := _ } : AS) _ _
  rw [e2]
  have a0 : ∀ es : List (Str × V), (σ.l ++ [Cell.exc (excFs t) (some (.l (σ.l.length + 1))), .dict es])[σ.l.length]? = some (.exc (excFs t) (some (.l (σ.l.length + 1)))) := fun es => by simp
  have a1 : ∀ es : List (Str × V), (σ.l ++ [Cell.exc (excFs t) (some (.l (σ.l.length + 1))), .dict es])[σ.l.length + 1]? = some (.dict es) := fun es => by
    rw [List.getElem?_append_right (Nat.le_succ _)]; simp
  have a2 : ∀ es es' : List (Str × V), putCell { σ with l := σ.l ++ [Cell.exc (excFs t) (some (.l (σ.l.length + 1))), .dict es] } (.l (σ.l.length + 1)) (.dict es') = { σ with l := σ.l ++ [Cell.exc (excFs t) (some (.l (σ.l.length + 1))), .dict es'] } := fun es es' => by
    show ({ w := σ.w, l := (σ.l ++ _).set (σ.l.length + 1) _ } : AS) = _
    rw [List.set_append_right _ _ (Nat.le_succ _)]
    simp
  refine ss_cons (s_setexc (e_list0f (e_local (v := .l σ.l.length) (by rfl) (by rfl) ⟨excFs t, .l (σ.l.length + 1), _, a0 _, a1 _, (show (1:Nat) < 1000 from by decide), by rw [g.ec]; exact g.exc, by rw [g.ec]; exact g.take _ (by simp), ?_⟩)))
  rw [a2]
  refine ss_cons (s_setexc (e_bool (e_local (v := .l σ.l.length) (by rfl) (by rfl) ⟨excFs t, .l (σ.l.length + 1), _, a0 _, a1 _, (show (2:Nat) < 1000 from by decide), by rw [g.ec]; exact g.exc, by rw [g.ec]; exact g.take _ (by simp), ?_⟩)))
  rw [a2]
  exact ss_nil ⟨rfl, h t⟩
end
section
variable {G : Gd} {c : Cx} {m : Loc} {σ : AS} {K : Fl → Loc → AS → Prop} {X : V → Loc → AS → Prop}
theorem s_err (g : Gr G) {e px cpos pos d} (hd : c.d = d + 2) (hh : c.hn = true) (hk : c.scope.names.lookup ("LuaError" : Str) = some .globalImplicit) (h : AE G c e m σ (fun u σ1 => LF u ∧ X u m σ1) (fun v σ1 => X v m σ1))
    (ha : ∀ env, (backTo cpos (starEach [e] env)).any (·.1) = false := by intro _; rfl) (he : ∀ env, starEach (e :: []) env = (false, eval e env) :: starEach [] env := by intro _; rfl) : S1 G c (.Raise (some (.Call (.Name "LuaError" px) [e] [] cpos)) none pos) m σ K X := by
  refine s_raise g.cExc (by rw [g.ec]; exact g.gl' (by decide +kernel)) hk hd hh (as_cons (TR.mono h (fun u σ1 q => as_nil ⟨rfl, (show (1:Nat) ≤ 1000 from by decide), c_err g fun t => ⟨σ1.l.length + 1, [("value", u), ("trace", .lst []), ("is_in_handler", .bool false)], u, t, rfl, rfl, by simp, by simp, Nat.le_succ _, ?_, rfl, q.1, q.2⟩⟩) fun _ _ q => q) he) ha
  rw [List.getElem?_append_right (Nat.le_succ _)]; simp
end

section
variable {G : Gd} {c : Cx} {m : Loc} {σ : AS} {K : V → AS → Prop} {X : V → AS → Prop}
theorem e_la (g : Gr G) {x px nm pos v C es u} (hi : instOf σ v = some (C, es)) (hu : es.lookup nm = some u) (h : K u σ) (hm : (C, nm) ∈ attrs := by decide +kernel) (hx : m.lookup x = some v := by rfl) (hk : c.scope.names.lookup x = some .local := by rfl) (hh : handed u = true := by rfl) (hd : (x == ("__debug__" : Str)) = false := by decide)
    (he : ∀ env, eval (.Attribute (.Name x px) nm pos) env = (do
      let o ← eval (.Name x px) env
      standAt pos.atName
      let r ← holding [o] (getAttr o nm true)
      letTemporaryGo (.Name x px) o r
      pure r) := by intro _; with_unfolding_all rfl) : AE G c (.Attribute (.Name x px) nm pos) m σ K X :=
  e_attr (e_local hx hk ⟨C, es, u, hi, g.at' hm, hu, hh, h⟩ hd) he
theorem e_lm (g : Gr G) {x px nm apos args pos f fd xs d v C es} {pl : Env → Sem Bool} (F : FnK G f fd xs) (hi : instOf σ v = some (C, es)) (hd : c.d = d + 1) (h : AS' G c args pos m σ (fun vs σ2 => (v :: vs).length = xs.length ∧ FT G fd xs (v :: vs) σ2 d c.hn K X) X)
    (hl : es.lookup nm = none := by rfl) (hm : (C, nm, f) ∈ meths := by decide +kernel) (hx : m.lookup x = some v := by rfl) (hk : c.scope.names.lookup x = some .local := by rfl) (hdb : (x == ("__debug__" : Str)) = false := by decide)
    (ha : ∀ env, (backTo pos (starEach args env)).any (·.1) = false := by intro _; rfl)
    (he : ∀ env, eval (.Call (.Attribute (.Name x px) nm apos) args [] pos) env = (do
      let ov ← eval (.Name x px) env
      standAt apos.atName
      let (f, first) ← holding [ov] (getMethod ov nm (pl env))
      callWith pos f first (backTo pos (starEach args env)) []) := by intro _; rfl) : AE G c (.Call (.Attribute (.Name x px) nm apos) args [] pos) m σ K X :=
  e_meth F hd (e_local hx hk ⟨⟨C, es, hi, g.me' hm, hl⟩, h⟩ hdb) ha he
end

structure HW where
  steps : Int
  deep : Int
  most : Int
  fi : Nat
  frs : List V
  notes : List V
noncomputable def limD (most : Int) : List (Str × V) := [("width", .int 64), ("registers", .int 250), ("upvalues", .int 60), ("local_names", .int 200), ("ccalls", .int 40), ("frames", .int 200), ("stack", .int 2000), ("flush", .int 50), ("steps", .int most), ("text", .int 1000000)]
noncomputable def hostD (x : HW) : List (Str × V) := [("limits", .ins cLimits (limD x.most)), ("chunk", .any), ("out", .any), ("steps", .int x.steps), ("made", .int 0), ("frames", .w x.fi), ("deep", .int x.deep), ("texts", .any)]
structure Wo (fx : Nat → Option Cell) (x : HW) (σ : AS) : Prop where
  dict : σ.w[2]? = some (.dict (hostD x))
  frs : σ.w[x.fi]? = some (.list x.frs)
  notes : σ.w[5]? = some (.list x.notes)
  inst : σ.w[3]? = some (.inst cHost (.w 2))
  fx : ∀ i, i < 11 → i ≠ 2 → i ≠ 4 → i ≠ 5 → σ.w[i]? = fx i
  fi : x.fi = 4 ∨ 11 ≤ x.fi
  len : 11 ≤ σ.w.length
  bel : ∀ c ∈ σ.w, CFn 0 c
theorem lim_lf (most : Int) : LF (.ins cLimits (limD most)) := by
  refine LF.ins fun y v e => ?_
  have : ∀ p ∈ limD most, ∃ i, p.2 = .int i := by
    simp only [limD, List.forall_mem_cons]
    exact ⟨⟨_, rfl⟩, ⟨_, rfl⟩, ⟨_, rfl⟩, ⟨_, rfl⟩, ⟨_, rfl⟩, ⟨_, rfl⟩, ⟨_, rfl⟩, ⟨_, rfl⟩, ⟨_, rfl⟩, ⟨_, rfl⟩, fun _ h => nomatch h⟩
  obtain ⟨i, q⟩ := this _ (mem_of_lookup e)
  rw [show v = .int i from q]; exact .int
theorem host_cfn (x : HW) : CFn 0 (.dict (hostD x)) := by
  intro p hp
  simp only [hostD, List.mem_cons, List.not_mem_nil, or_false] at hp
  rcases hp with rfl | rfl | rfl | rfl | rfl | rfl | rfl | rfl
  · exact (lim_lf _).n
  · exact LF.any.n
  · exact LF.any.n
  · exact LF.int.n
  · exact LF.int.n
  · exact LF.w.n
  · exact LF.int.n
  · exact LF.any.n
theorem mem_set {α : Type} {l : List α} {i : Nat} {a b : α} (h : b ∈ l.set i a) : b ∈ l ∨ b = a := List.mem_or_eq_of_mem_set h
section
variable {fx : Nat → Option Cell} {x x' : HW} {σ σ' : AS}
theorem Wo.w (Wt : Wo fx x σ) (e : σ'.w = σ.w) : Wo fx x σ' := ⟨e ▸ Wt.dict, e ▸ Wt.frs, e ▸ Wt.notes, e ▸ Wt.inst, fun i h1 h2 h3 h4 => e ▸ Wt.fx i h1 h2 h3 h4, Wt.fi, e ▸ Wt.len, e ▸ Wt.bel⟩
theorem Wo.ne2 (Wt : Wo fx x σ) : x.fi ≠ 2 ∧ x.fi ≠ 3 ∧ x.fi ≠ 5 := by have := Wt.fi; omega
theorem Wo.host (Wt : Wo fx x σ) : instOf σ (.w 3) = some (cHost, hostD x) := by
  show (match σ.w[3]? with | some (.inst C d) => (match cellOf σ d with | some (.dict es) => some (C, es) | _ => Option.none) | _ => Option.none) = _
  rw [Wt.inst]
  show (match σ.w[2]? with | some (.dict es) => some (cHost, es) | _ => Option.none) = _
  rw [Wt.dict]
theorem Wo.set (Wt : Wo fx x σ) (h1 : σ.w[x'.fi]? = some (.list x'.frs)) (h2 : x'.notes = x.notes) (h3 : x'.fi = 4 ∨ 11 ≤ x'.fi) : Wo fx x' (putCell σ (.w 2) (.dict (hostD x'))) := by
  have n2 : x'.fi ≠ 2 := by omega
  refine ⟨?_, ?_, ?_, ?_, fun i h1 h2 h3 h4 => ?_, h3, by show 11 ≤ (σ.w.set 2 _).length; rw [List.length_set]; exact Wt.len, fun c hc => (mem_set hc).elim (Wt.bel c) fun q => q ▸ host_cfn x'⟩
  · show (σ.w.set 2 _)[2]? = _
    rw [List.getElem?_set_self (List.getElem?_eq_some_iff.mp Wt.dict).1]
  · show (σ.w.set 2 _)[x'.fi]? = _
    rw [List.getElem?_set_ne (Ne.symm n2)]; exact h1
  · show (σ.w.set 2 _)[5]? = _
    rw [List.getElem?_set_ne (by decide), h2]; exact Wt.notes
  · show (σ.w.set 2 _)[3]? = _
    rw [List.getElem?_set_ne (by decide)]; exact Wt.inst
  · show (σ.w.set 2 _)[i]? = _
    rw [List.getElem?_set_ne (Ne.symm h2)]; exact Wt.fx i h1 h2 h3 h4
theorem Wo.setF (Wt : Wo fx x σ) (frs' : List V) (lf : ∀ v ∈ frs', LF v) : Wo fx { x with frs := frs' } (putCell σ (.w x.fi) (.list frs')) := by
  obtain ⟨n2, n3, n5⟩ := Wt.ne2
  have f := Wt.fi
  refine ⟨?_, ?_, ?_, ?_, fun i h1 h2 h3 h4 => ?_, Wt.fi, by show 11 ≤ (σ.w.set x.fi _).length; rw [List.length_set]; exact Wt.len, fun c hc => (mem_set hc).elim (Wt.bel c) fun q => q ▸ fun v hv => (lf v hv).n⟩
  · show (σ.w.set x.fi _)[2]? = _
    rw [List.getElem?_set_ne n2]; exact Wt.dict
  · show (σ.w.set x.fi _)[x.fi]? = _
    rw [List.getElem?_set_self (List.getElem?_eq_some_iff.mp Wt.frs).1]
  · show (σ.w.set x.fi _)[5]? = _
    rw [List.getElem?_set_ne n5]; exact Wt.notes
  · show (σ.w.set x.fi _)[3]? = _
    rw [List.getElem?_set_ne n3]; exact Wt.inst
  · show (σ.w.set x.fi _)[i]? = _
    rw [List.getElem?_set_ne (by omega)]; exact Wt.fx i h1 h2 h3 h4
theorem Wo.setN (Wt : Wo fx x σ) (ns : List V) (lf : ∀ v ∈ ns, LFn 0 v) : Wo fx { x with notes := ns } (putCell σ (.w 5) (.list ns)) := by
  obtain ⟨n2, n3, n5⟩ := Wt.ne2
  refine ⟨?_, ?_, ?_, ?_, fun i h1 h2 h3 h4 => ?_, Wt.fi, by show 11 ≤ (σ.w.set 5 _).length; rw [List.length_set]; exact Wt.len, fun c hc => (mem_set hc).elim (Wt.bel c) fun q => q ▸ fun v hv => lf v hv⟩
  · show (σ.w.set 5 _)[2]? = _
    rw [List.getElem?_set_ne (by decide)]; exact Wt.dict
  · show (σ.w.set 5 _)[x.fi]? = _
    rw [List.getElem?_set_ne (Ne.symm n5)]; exact Wt.frs
  · show (σ.w.set 5 _)[5]? = _
    rw [List.getElem?_set_self (List.getElem?_eq_some_iff.mp Wt.notes).1]
  · show (σ.w.set 5 _)[3]? = _
    rw [List.getElem?_set_ne (by decide)]; exact Wt.inst
  · show (σ.w.set 5 _)[i]? = _
    rw [List.getElem?_set_ne (Ne.symm h4)]; exact Wt.fx i h1 h2 h3 h4
end
noncomputable def bMany : Array UInt8 := #[116, 111, 111, 32, 109, 97, 110, 121, 32, 115, 116, 101, 112, 115]
noncomputable def bOver : Array UInt8 := #[115, 116, 97, 99, 107, 32, 111, 118, 101, 114, 102, 108, 111, 119]
section
variable {G : Gd} {σ : AS} {fx : Nat → Option Cell} {x : HW} {d : Nat} {hn : Bool} {K : V → AS → Prop} {X : V → AS → Prop}
theorem c_tick (g : Gr G) (Wt : Wo fx x σ) (hK : ∀ σ', Wo fx { x with steps := x.steps + 1 } σ' → σ'.l = σ.l → if x.steps + 1 > x.most then X (.byt bMany) σ' else K .none σ') : FT G fd_tick ["self"] [.w 3] σ (d + 2) true K X := by
  refine ss_cons (s_augattr .add (e_local (v := .w 3) (by rfl) (by rfl) ⟨cHost, .w 2, hostD x, x.steps, Wt.inst, Wt.dict, g.at' (by decide +kernel), rfl, e_int ⟨rfl, 1, rfl, g.set' (by decide +kernel), (show (8:Nat) < 1000 from by decide), ?_⟩⟩))
  have W2 : Wo fx { x with steps := x.steps + 1 } (putCell σ (.w 2) (.dict (putA "steps" (.int (x.steps + 1)) (hostD x)))) := Wt.set Wt.frs rfl Wt.fi
  have h := hK _ W2 rfl
  generalize putCell σ (.w 2) (.dict (putA "steps" (.int (x.steps + 1)) (hostD x))) = σ2 at *
  refine ss_cons (s_if (b_cmp .gt (e_attr (e_local (v := .w 3) (by rfl) (by rfl) ⟨_, _, _, W2.host, g.at' (by decide +kernel), rfl, rfl, e_attr (e_attr (e_local (v := .w 3) (by rfl) (by rfl) ⟨_, _, _, W2.host, g.at' (by decide +kernel), rfl, rfl, ⟨_, _, _, rfl, g.at' (by decide +kernel), rfl, rfl, _, _, rfl, rfl, ?_⟩⟩))⟩))))
  by_cases q : x.steps + 1 > x.most
  · rw [decide_eq_true q]
    rw [if_pos q] at h
    exact ss_cons (s_err g rfl rfl (by rfl) (e_byt ⟨.byt, h⟩))
  · rw [decide_eq_false q]
    rw [if_neg q] at h
    exact ss_nil (ss_nil h)
end
end Mine
end
section
open PySem PySem.W PyProof.Rows PySem.Calls PySem.Spec PySem.SeqAt
set_option maxRecDepth 10000
namespace Mine
noncomputable def frV (dp : Int) : V := .ins cFrame [("number", .int (-1)), ("cells", .any), ("extra", .any), ("line", .int (-1)), ("deep", .int dp)]
noncomputable def FrsOk (l : List V) : Prop := l.length ≤ 1000 ∧ ∀ v ∈ l, ∃ dp, v = frV dp
section
variable {G : Gd} {σ : AS} {fx : Nat → Option Cell} {x : HW} {d : Nat} {hn : Bool} {K : V → AS → Prop} {X : V → AS → Prop}
theorem Wo.lst (Wt : Wo fx x σ) : lstOf σ (.w x.fi) = some x.frs := by
  show (match σ.w[x.fi]? with | some (.list xs) => some xs | _ => Option.none) = _
  rw [Wt.frs]
theorem c_where (g : Gr G) (Wt : Wo fx x σ) (F : FrsOk x.frs) {k : Int} (h0 : 0 ≤ k) (h : K (.byt #[]) σ) : FT G fd_where ["self", "level"] [.w 3, .int k] σ d hn K X := by
  refine ss_cons (s_set (by rfl) (e_bin .sub (e_bin .sub (e_len (g.blt (v := .builtin "len")) (by rfl) (e_la g Wt.host rfl ⟨x.frs.length, Nat.le_trans F.1 (by decide), .inl ⟨_, Wt.lst, rfl⟩, e_int ⟨_, _, rfl, rfl, e_local (v := .int k) (by rfl) (by rfl) ⟨_, _, rfl, rfl, ?_⟩⟩⟩) (by decide +kernel)))))
  by_cases q : (x.frs.length : Int) - 1 - k < 0
  · refine ss_cons (s_if (b_or (b_cmp .lt (e_local (by rfl) (by rfl) (e_int ⟨_, _, rfl, rfl, ?_⟩)))))
    rw [decide_eq_true q]
    exact ss_cons (s_ret (e_byt h))
  · refine ss_cons (s_if (b_or (b_cmp .lt (e_local (by rfl) (by rfl) (e_int ⟨_, _, rfl, rfl, ?_⟩)))))
    rw [decide_eq_false q]
    have hi : ((x.frs.length : Int) - 1 - k).toNat < x.frs.length := by omega
    obtain ⟨dp, hdp⟩ := F.2 _ (List.getElem_mem hi)
    refine b_or (b_cmp .lt (e_attr (e_item (e_la g Wt.host rfl (e_local (v := .int ((x.frs.length : Int) - 1 - k)) (by rfl) (by rfl) ⟨_, x.frs, _, rfl, Wt.lst, by omega, by have := F.1; omega, List.getElem?_eq_getElem hi, ?_⟩)))))
    rw [hdp]
    exact ⟨_, _, _, rfl, g.at' (by decide +kernel), rfl, rfl, e_int ⟨_, _, rfl, rfl, ss_cons (s_ret (e_byt h))⟩⟩
theorem c_fail (g : Gr G) (Wt : Wo fx x σ) (F : FrsOk x.frs) {t : Array UInt8} (hz : t.size ≤ 100000) (h : X (.byt t) σ) : FT G fd_fail ["self", "text"] [.w 3, .byt t] σ (d + 2) true K X := by
  refine ss_cons (s_err g rfl rfl (by rfl) (e_addb (e_lm g g.where_ Wt.host rfl (as_cons (e_int (as_nil ⟨rfl, c_where g Wt F (by decide) (e_local (v := .byt t) (by rfl) (by rfl) ⟨_, _, rfl, rfl, by simpa using hz, .byt, ?_⟩)⟩))))))
  rw [Array.empty_append]; exact h
theorem c_complain (g : Gr G) (Wt : Wo fx x σ) (F : FrsOk x.frs) {t : Array UInt8} (hz : t.size ≤ 100000) (h : X (.byt t) σ) : FT G fd_complain ["self", "text"] [.w 3, .byt t] σ (d + 2) true K X := by
  refine ss_cons (s_err g rfl rfl (by rfl) (e_addb (e_lm g g.where_ Wt.host rfl (as_cons (e_int (as_nil ⟨rfl, c_where g Wt F (by decide) (e_local (v := .byt t) (by rfl) (by rfl) ⟨_, _, rfl, rfl, by simpa using hz, .byt, ?_⟩)⟩))))))
  rw [Array.empty_append]; exact h
end
end Mine
end
section
open PySem PySem.W PyProof.Rows PySem.Calls PySem.Spec PySem.SeqAt
set_option maxRecDepth 10000
namespace Mine
section
variable {G : Gd} {σ : AS} {fx : Nat → Option Cell} {x : HW} {d : Nat} {hn : Bool} {K : V → AS → Prop} {X : V → AS → Prop}
noncomputable def bAttempt (deed k : Array UInt8) : Array UInt8 := #[97, 116, 116, 101, 109, 112, 116, 32, 116, 111, 32] ++ deed ++ #[32, 97, 32] ++ k ++ #[32, 118, 97, 108, 117, 101]
theorem c_fail_type (g : Gr G) (Wt : Wo fx x σ) (F : FrsOk x.frs) {v deed k} (ht : TK σ v k) (hd : deed.size ≤ 100) (hk : k.size ≤ 100) (h : X (.byt (bAttempt deed k)) σ) : FT G fd_fail_type ["self", "value", "deed", "name"] [.w 3, v, .byt deed, .byt #[]] σ (d + 3) true K X := by
  refine ss_cons (s_set (by rfl) (e_call g.tree_type (g.gl' (by decide +kernel)) (by rfl) rfl (as_cons (e_local (v := v) (by rfl) (by rfl) (as_nil ⟨rfl, c_tree_type g ht ?_⟩)))))
  refine ss_cons (s_if (b_cv (e_local (v := .byt #[]) (by rfl) (by rfl) (e_byt ⟨true, cv_beq, ?_⟩))))
  refine ss_cons (s_expr (e_lm g g.fail Wt.host rfl (as_cons (e_addb (e_addb (e_addb (e_addb (e_byt (e_local (v := .byt deed) (by rfl) (by rfl) ⟨_, _, rfl, rfl, ?_, e_byt ⟨_, _, rfl, rfl, ?_, e_local (v := .byt k) (by rfl) (by rfl) ⟨_, _, rfl, rfl, ?_, e_byt ⟨_, _, rfl, rfl, ?_, as_nil ⟨rfl, c_fail g Wt F ?_ h⟩⟩⟩⟩⟩)))))))))
  all_goals (simp [Array.size_append, bAttempt]; try omega)
theorem c_go_deeper (g : Gr G) (Wt : Wo fx x σ) (F : FrsOk x.frs) {k : Int} (hK : ∀ σ', Wo fx { x with deep := x.deep + k } σ' → σ'.l = σ.l → if x.deep + k > 820 then X (.byt bOver) σ' else K .none σ') : FT G fd_go_deeper ["self", "many"] [.w 3, .int k] σ (d + 3) true K X := by
  refine ss_cons (s_augattr .add (e_local (v := .w 3) (by rfl) (by rfl) ⟨cHost, .w 2, hostD x, x.deep, Wt.inst, Wt.dict, g.at' (by decide +kernel), rfl, e_local (v := .int k) (by rfl) (by rfl) ⟨rfl, k, rfl, g.set' (by decide +kernel), (show (8:Nat) < 1000 from by decide), ?_⟩⟩))
  have W2 : Wo fx { x with deep := x.deep + k } (putCell σ (.w 2) (.dict (putA "deep" (.int (x.deep + k)) (hostD x)))) := Wt.set Wt.frs rfl Wt.fi
  have h := hK _ W2 rfl
  generalize putCell σ (.w 2) (.dict (putA "deep" (.int (x.deep + k)) (hostD x))) = σ2 at *
  obtain ⟨t, hdeep⟩ := g.deep
  refine ss_cons (s_if (b_cmp .gt (e_la g W2.host rfl (e_glob hdeep (by rfl) rfl ⟨_, _, rfl, rfl, ?_⟩))))
  by_cases q : x.deep + k > 820
  · rw [decide_eq_true q]
    rw [if_pos q] at h
    exact ss_cons (s_expr (e_lm g g.fail W2.host rfl (as_cons (e_byt (as_nil ⟨rfl, c_fail (d := d) g W2 F (by decide) h⟩)))))
  · rw [decide_eq_false q]
    rw [if_neg q] at h
    exact ss_nil (ss_nil h)
theorem c_same (g : Gr G) {a : Array UInt8} (h : K (.bool true) σ) : FT G fd_same ["one", "other"] [.byt a, .byt a] σ (d + 1) hn K X := by
  refine ss_cons (s_set (by rfl) (e_call g.tree_type (g.gl' (by decide +kernel)) (by rfl) rfl (as_cons (e_local (v := .byt a) (by rfl) (by rfl) (as_nil ⟨rfl, c_tree_type g .byt ?_⟩)))))
  refine ss_cons (s_if (b_cv (e_local (v := .byt #[115, 116, 114, 105, 110, 103]) (by rfl) (by rfl) (e_call g.tree_type (g.gl' (by decide +kernel)) (by rfl) rfl (as_cons (e_local (v := .byt a) (by rfl) (by rfl) (as_nil ⟨rfl, c_tree_type g .byt ⟨false, cv_bne, ss_nil ?_⟩⟩)))))))
  refine ss_cons (s_if (b_or (b_cv (e_local (v := .byt #[115, 116, 114, 105, 110, 103]) (by rfl) (by rfl) (e_byt ⟨false, cv_beq, b_or (b_cv (e_local (v := .byt #[115, 116, 114, 105, 110, 103]) (by rfl) (by rfl) (e_byt ⟨false, cv_beq, b_or0 (ss_nil ?_)⟩)))⟩)))))
  refine ss_cons (s_ret (e_cv (e_local (v := .byt a) (by rfl) (by rfl) (e_local (v := .byt a) (by rfl) (by rfl) ⟨true, ?_, h⟩))))
  have : (a.toList == a.toList) = true := beq_self_eq_true _
  have q := cv_beq (G := G) (c := ⟨fd_same.qual, fd_same.scope, σ.l.length, d + 1, hn, none⟩) (σ := σ) (x := a) (y := a)
  rw [this] at q
  exact q
theorem c_find0 (g : Gr G) {v es kv u} (hi : instOf σ v = some (cTable, es)) (hkeys : es.lookup ("keys" : Str) = some kv) (hh : handed kv = true) (hl : lstOf σ kv = some []) (h : K (.int (-1)) σ) : FT G fd_find ["self", "key"] [v, u] σ d true K X := by
  refine ss_cons (s_enum rfl (g.blt (v := .type "enumerate")) (by rfl) (e_la g (v := v) hi hkeys ⟨[], hl, .inl ⟨rfl, ?_⟩⟩ (hh := hh)) (by decide +kernel))
  exact ss_cons (s_ret (e_neg (e_int ⟨_, rfl, h⟩)))
theorem c_find1 (g : Gr G) {v es kv a} (hi : instOf σ v = some (cTable, es)) (hkeys : es.lookup ("keys" : Str) = some kv) (hh : handed kv = true) (hl : lstOf σ kv = some [.byt a]) (h : K (.int 0) σ) : FT G fd_find ["self", "key"] [v, .byt a] σ (d + 2) true K X := by
  refine ss_cons (s_enum rfl (g.blt (v := .type "enumerate")) (by rfl) (e_la g (v := v) hi hkeys ⟨_, hl, .inr ⟨_, _, rfl, ?_⟩⟩ (hh := hh)) (by decide +kernel))
  refine ta_tup ?_ (fun v hv => ?_) rfl rfl (fun env => by rfl)
  · refine ta_loc (by rfl) (ta_loc (by rfl) ?_)
    refine ss_cons (s_if (b_val (e_call g.same (g.gl' (by decide +kernel)) (by rfl) rfl (as_cons (e_local (v := .byt a) (by rfl) (by rfl) (as_cons (e_local (v := .byt a) (by rfl) (by rfl) (as_nil ⟨rfl, c_same (d := d) g ⟨true, rfl, ?_⟩⟩)))))))
      )
    exact ss_cons (s_ret (e_local (v := .int 0) (by rfl) (by rfl) ⟨_, rfl, h⟩))
  · rcases List.mem_cons.mp hv with rfl | hv
    · exact .int
    · rw [List.mem_singleton.mp hv]; exact .byt
theorem c_get (g : Gr G) {v es kv vv a u} (hi : instOf σ v = some (cTable, es)) (hkeys : es.lookup ("keys" : Str) = some kv) (hh : handed kv = true) (hl : lstOf σ kv = some [.byt a]) (hvals : es.lookup ("values" : Str) = some vv) (hh' : handed vv = true) (hl' : lstOf σ vv = some [u]) (hf : es.lookup ("find" : Str) = none) (h : K u σ) : FT G fd_get ["self", "key"] [v, .byt a] σ (d + 3) true K X := by
  refine ss_cons (s_set (by rfl) (e_lm g (v := v) g.find hi rfl (as_cons (e_local (v := .byt a) (by rfl) (by rfl) (as_nil ⟨rfl, c_find1 (d := d) g hi hkeys hh hl ?_⟩))) (hl := hf)))
  refine ss_cons (s_ret (e_ite (b_cmp .lt (e_local (v := .int 0) (by rfl) (by rfl) (e_int ⟨_, _, rfl, rfl, ?_⟩)))))
  exact e_item (e_la g (v := v) hi hvals (e_local (v := .int 0) (by rfl) (by rfl) ⟨0, [u], u, rfl, hl', by decide, by decide, rfl, h⟩) (hh := hh'))
theorem c_is_function (g : Gr G) {v k} (ht : TK σ v k) (h : K (.bool (k.toList == [102, 117, 110, 99, 116, 105, 111, 110])) σ) : FT G fd_is_function ["value"] [v] σ (d + 1) hn K X := by
  exact ss_cons (s_ret (e_cv (e_call g.tree_type (g.gl' (by decide +kernel)) (by rfl) rfl (as_cons (e_local (v := v) (by rfl) (by rfl) (as_nil ⟨rfl, c_tree_type g ht (e_byt ⟨_, cv_beq, h⟩)⟩))))))
end
end Mine
end
section
open PySem PySem.W PyProof.Rows PySem.Calls PySem.Spec PySem.SeqAt
set_option maxRecDepth 10000
namespace Mine
section
variable {G : Gd} {σ : AS} {fx : Nat → Option Cell} {x : HW} {d : Nat} {hn : Bool}
section
variable {K : V → AS → Prop} {X : V → AS → Prop}
theorem ft_end {fd xs vs} (hl : σ.l = []) (h : FT G fd xs vs σ d hn (fun v σ1 => (∀ cc ∈ σ1.w, CFn 0 cc) ∧ ∃ v', Fz σ1 0 v v' ∧ (v = .none → v' = .none) ∧ K v' { σ1 with l := [] }) X) (hcell : ∀ x ∈ fd.scope.names, x.2 ≠ .cell) : FT G fd xs vs σ d hn K X := by
  refine ft_frz (SX.mono h (fun fl m1 σ1 q => ?_) fun _ _ _ q => q) fun x q => lookup_not_cell hcell q
  obtain ⟨q1, v', q2, q3, q4⟩ := q
  rw [hl]
  exact ⟨Nat.zero_le _, v', { σ1 with l := [] }, q2, q3, rfl, fun i c c' e1 e2 => by rw [e1] at e2; cases e2; exact .keep (q1 c (List.mem_of_getElem? e1)), rfl, fun i c c' h => absurd h (Nat.not_lt_zero i), q4⟩
end
theorem sx_mid {c : Cx} {t : Env → Sem Flow} {m m' : Loc} {K : Fl → Loc → AS → Prop} {X : V → Loc → AS → Prop} (hn0 : c.n = 0) (bel : ∀ cc ∈ σ.w, CFn 0 cc) (hcell : ∀ x ∈ c.scope.names, x.2 ≠ .cell) (fm : ∀ x v', m'.lookup x = some v' → ∃ v, m.lookup x = some v ∧ Fz σ 0 v v') (h : SX G c t m' { σ with l := [] } K X) : SX G c t m σ K X :=
  sx_frz (n := 0) (m' := m') (σ' := { σ with l := [] }) ⟨fm, fun x _ q => (lookup_not_cell hcell q).elim, rfl, fun i c c' e1 e2 => by rw [e1] at e2; cases e2; exact .keep (bel c (List.mem_of_getElem? e1)), rfl, fun i c c' h => absurd h (Nat.not_lt_zero i)⟩ (Nat.le_of_eq hn0) (Nat.zero_le _) h
variable {K : V → AS → Prop} {X : V → AS → Prop}
theorem c_number_text (g : Gr G) (hl : σ.l = []) (bel : ∀ cc ∈ σ.w, CFn 0 cc) (h : K (.byt #[49]) σ) : FT G fd_number_text ["n"] [.int 1] σ d true K X := by
  refine ft_end hl ?_ (by decide +kernel)
  obtain ⟨w, l⟩ := σ
  cases hl
  refine ss_cons (s_swap (x := "left") (y := "found") (by rfl) (by rfl) rfl (e_tup (as_cons (e_abs (g.blt (v := .builtin "abs")) (by rfl) (e_local (v := .int 1) (by rfl) (by rfl) ⟨1, rfl, as_cons (e_list0 (as_nil ⟨(show (2 : Nat) ≤ 1000 from by decide), _, _, rfl, ?_⟩))⟩) (by decide +kernel)))))
  refine ss_cons (s_while 1 (b_cmp .gt (e_local (v := .int 1) (by rfl) (by rfl) (e_int ⟨_, _, rfl, rfl, ?_⟩))))
  refine ss_cons (s_expr (e_append (e_local (v := .l 0) (by rfl) (by rfl) ⟨⟨[], rfl⟩, as_cons (e_bin .add (e_int (e_local (v := .int 1) (by rfl) (by rfl) ⟨_, _, rfl, rfl, as_nil ⟨_, [], rfl, rfl, by decide, ?_⟩⟩)))⟩)))
  refine ss_cons (s_if (b_cmp .lt (e_local (v := .int 1) (by rfl) (by rfl) (e_int ⟨_, _, rfl, rfl, ss_nil ?_⟩))))
  refine ss_cons (s_expr (e_reverse (e_local (v := .l 0) (by rfl) (by rfl) ⟨_, rfl, by decide, ?_⟩)))
  exact ss_cons (s_ret (e_bytes (g.blt (v := .type "bytes")) (by rfl) rfl (e_local (v := .l 0) (by rfl) (by rfl) ⟨[49], rfl, by decide, by decide, bel, _, .keep LF.byt.n, fun q => (by cases q), h⟩) (by decide +kernel)))
noncomputable def bBad : Array UInt8 := #[98, 97, 100, 32, 97, 114, 103, 117, 109, 101, 110, 116, 32, 35, 49, 32, 116, 111, 32, 39, 112, 99, 97, 108, 108, 39, 32, 40, 118, 97, 108, 117, 101, 32, 101, 120, 112, 101, 99, 116, 101, 100, 41]
theorem c_refuse (g : Gr G) (Wt : Wo fx x σ) (hl : σ.l = []) (F : FrsOk x.frs) (h : X (.byt bBad) σ) : FT G fd_refuse ["runner", "name", "at", "text"] [.w 3, .byt #[112, 99, 97, 108, 108], .int 1, .byt #[118, 97, 108, 117, 101, 32, 101, 120, 112, 101, 99, 116, 101, 100]] σ (d + 3) true K X := by
  refine ss_cons (s_expr (e_lm g g.complain Wt.host rfl (as_cons (e_addb (e_addb (e_addb (e_addb (e_addb (e_addb (e_byt (e_call g.number_text (g.gl' (by decide +kernel)) (by rfl) rfl (as_cons (e_local (v := .int 1) (by rfl) (by rfl) (as_nil ⟨rfl, c_number_text g hl Wt.bel ⟨_, _, rfl, rfl, by decide, e_byt ⟨_, _, rfl, rfl, by decide, e_local (v := .byt #[112, 99, 97, 108, 108]) (by rfl) (by rfl) ⟨_, _, rfl, rfl, by decide, e_byt ⟨_, _, rfl, rfl, by decide, e_local (v := .byt #[118, 97, 108, 117, 101, 32, 101, 120, 112, 101, 99, 116, 101, 100]) (by rfl) (by rfl) ⟨_, _, rfl, rfl, by decide, e_byt ⟨_, _, rfl, rfl, by decide, as_nil ⟨rfl, c_complain g Wt F (by decide) h⟩⟩⟩⟩⟩⟩⟩⟩))))))))))))))
theorem c_need0 (g : Gr G) (Wt : Wo fx x σ) (hl : σ.l = []) (F : FrsOk x.frs) (h : X (.byt bBad) σ) : FT G fd_need ["runner", "name", "args", "at"] [.w 3, .byt #[112, 99, 97, 108, 108], .lst [], .int 1] σ (d + 4) true K X := by
  refine ss_cons (s_if (b_cmp .gt (e_local (v := .int 1) (by rfl) (by rfl) (e_len (g.blt (v := .builtin "len")) (by rfl) (e_local (v := .lst []) (by rfl) (by rfl) ⟨0, by decide, .inl ⟨[], rfl, rfl⟩, _, _, rfl, rfl, ?_⟩) (by decide +kernel)))))
  exact ss_cons (s_expr (e_call g.refuse (g.gl' (by decide +kernel)) (by rfl) rfl (as_cons (e_local (v := .w 3) (by rfl) (by rfl) (as_cons (e_local (v := .byt #[112, 99, 97, 108, 108]) (by rfl) (by rfl) (as_cons (e_local (v := .int 1) (by rfl) (by rfl) (as_cons (e_byt (as_nil ⟨rfl, c_refuse g Wt hl F h⟩)))))))))))
theorem c_need1 (g : Gr G) {v r u} (hz : r.length ≤ 1000) (h : K v σ) : FT G fd_need ["runner", "name", "args", "at"] [u, .byt #[112, 99, 97, 108, 108], .lst (v :: r), .int 1] σ d hn K X := by
  refine ss_cons (s_if (b_cmp .gt (e_local (v := .int 1) (by rfl) (by rfl) (e_len (g.blt (v := .builtin "len")) (by rfl) (e_local (v := .lst (v :: r)) (by rfl) (by rfl) ⟨r.length + 1, by omega, .inl ⟨_, rfl, rfl⟩, _, _, rfl, rfl, ?_⟩) (by decide +kernel)))))
  rw [decide_eq_false (by omega)]
  exact ss_nil (ss_cons (s_ret (e_item (e_local (v := .lst (v :: r)) (by rfl) (by rfl) (e_bin .sub (e_local (v := .int 1) (by rfl) (by rfl) (e_int ⟨_, _, rfl, rfl, 0, _, v, rfl, rfl, by decide, by decide, rfl, h⟩)))))))
noncomputable def bCall : Array UInt8 := #[95, 95, 99, 97, 108, 108]
noncomputable def metaV (i : Int) (f : V) : V := .ins cTable [("number", .int (-40 - i)), ("keys", .lst [.byt bCall]), ("values", .lst [f]), ("meta", .none)]
noncomputable def tabV (i : Int) (f : V) : V := .ins cTable [("number", .int (-30 - i)), ("keys", .lst []), ("values", .lst []), ("meta", metaV i f)]
theorem c_handler_t (g : Gr G) {u i f} (h : K f σ) : FT G fd_handler ["self", "value", "event"] [u, tabV i f, .byt bCall] σ (d + 4) true K X := by
  refine ss_cons (s_if (b_isi g (by rfl) (fun q => e_local (v := tabV i f) (by rfl) (by rfl) q) (fun q => e_glob (g.gl' (a := cTable) (by decide +kernel)) (by rfl) rfl q) (tyV_inst (σ := σ) (v := tabV i f) rfl g.own1) (b := true) (by decide +kernel) ?_))
  refine ss_cons (s_ret (e_ite (b_cv (e_la g (v := tabV i f) (u := metaV i f) rfl rfl (e_none ⟨false, cv_isn rfl, ?_⟩)))))
  exact e_meth g.get rfl (e_la g (v := tabV i f) (u := metaV i f) rfl rfl ⟨⟨cTable, _, rfl, g.me' (by decide +kernel), rfl⟩, as_cons (e_local (v := .byt bCall) (by rfl) (by rfl) (as_nil ⟨rfl, c_get (d := d) g (v := metaV i f) rfl rfl rfl rfl rfl rfl rfl rfl h⟩))⟩)
theorem c_handler_i (g : Gr G) {u e i} (h : K .none σ) : FT G fd_handler ["self", "value", "event"] [u, .int i, e] σ d hn K X := by
  refine ss_cons (s_if (b_isi g (by rfl) (fun q => e_local (v := .int i) (by rfl) (by rfl) q) (fun q => e_glob (g.gl' (a := cTable) (by decide +kernel)) (by rfl) rfl q) rfl (b := false) (by decide +kernel) (ss_nil ?_)))
  refine ss_cons (s_if (b_isi g (by rfl) (fun q => e_local (v := .int i) (by rfl) (by rfl) q) (fun q => e_blt (v := .type "bytes") (g.blt (v := .type "bytes")) (by decide +kernel) (by rfl) q) rfl (b := false) (by decide +kernel) (ss_nil ?_)))
  exact ss_cons (s_ret (e_none h))
end
end Mine
end
section
open PySem PySem.W PyProof.Rows PySem.Calls PySem.Spec PySem.SeqAt
set_option maxRecDepth 10000
namespace Mine
inductive Th where
  | fn (i : Nat) | tb (i : Nat) | pc | no
inductive Ar where
  | th (t : Th) | num (n : Int)
inductive Rs where
  | b (b : Bool) | i (n : Int) | tb | many | over | tx (bad : Bool)
structure Sp where
  steps : Int
  notes : List V
structure Plans where
  deeds : Nat → List (Nat × Nat)
  last : Nat → Nat
inductive Out where
  | ok (r : List Rs) | err (e : Rs)
noncomputable def callOf (w l : Nat) : Th × List Ar :=
  if w = 1 then (.fn l, [.num 5]) else if w = 4 then (.tb l, [.num 5]) else if w = 6 then (.pc, []) else if w = 2 then (.pc, [.th .pc, .th (.fn l), .num 5])
  else (.pc, [.th (if w = 0 then .fn l else if w = 3 then .tb l else .no), .num 5])
noncomputable def thM : Th → V
  | .fn i => .int i
  | .tb i => .tup [.str "table", .int (-30 - i)]
  | .pc => .str "pcall"
  | .no => .str "none"
noncomputable def arM : Ar → V
  | .th t => thM t
  | .num n => .int n
noncomputable def bText : Array UInt8 := #[116, 101, 120, 116]
noncomputable def rsM : Rs → V
  | .b b => .bool b
  | .i n => .int n
  | .tb => .tup [.str "table", .int (-30)]
  | .many => .byt bMany
  | .over => .byt bOver
  | .tx _ => .byt bText
noncomputable def noteIn (i st : Nat) (deep : Int) (a : List Ar) : V := .tup [.int i, .int st, .int deep, .lst (a.map arM)]
noncomputable def noteOut (i st : Nat) (deep steps : Int) (f : List Rs) : V := .tup [.int i, .int st, .int deep, .int steps, .lst (f.map rsM)]
noncomputable def runDeeds (call : Th → List Ar → Sp → Out × Sp) (mk : Int → List Rs → V) : List (Nat × Nat) → List Rs → Sp → Out × Sp
  | [], found, s => (.ok found, s)
  | (w, l) :: r, found, s => match call (callOf w l).1 (callOf w l).2 s with
    | (.err e, s') => (.err e, s')
    | (.ok f, s') => runDeeds call mk r f { s' with notes := s'.notes ++ [mk s'.steps f] }
section
variable (base most : Int)
noncomputable def wrap : Out × Sp → Out × Sp
  | (.ok f, s) => (.ok (.b true :: f), s)
  | (.err e, s) => (.ok [.b false, e], s)
noncomputable def runC (F : Nat → List Ar → Nat → Sp → Out × Sp) : Th → List Ar → Nat → Sp → Out × Sp
  | .no, _, _, s => (.err (.tx false), s)
  | .fn i, a, st, s => F i a st s
  | .tb i, a, st, s => F i (.th (.tb i) :: a) st s
  | .pc, [], st, s => if s.steps + 1 > most then (.err .many, { s with steps := s.steps + 1 }) else if base + 8 * (st + 1) > 820 then (.err .over, { s with steps := s.steps + 1 }) else (.err (.tx true), { s with steps := s.steps + 1 })
  | .pc, .num _ :: _, _, s => (.err .many, s)
  | .pc, .th t :: r, st, s => if s.steps + 1 > most then (.err .many, { s with steps := s.steps + 1 }) else if base + 8 * (st + 1) > 820 then (.err .over, { s with steps := s.steps + 1 }) else wrap (runC F t r (st + 1) { s with steps := s.steps + 1 })
termination_by structural _ a => a
noncomputable def fin (i last : Nat) : Out × Sp → Out × Sp
  | (.err e, s) => (.err e, s)
  | (.ok f, s) => if last < 2 then (.err (if last = 0 then .i (100 + s.steps) else .tb), s) else (.ok (.i (10 + i) :: f.take 3), s)
variable (P : Plans)
noncomputable def runLv : Nat → Nat → List Ar → Nat → Sp → Out × Sp
  | 0, _, _, _, s => (.err .many, s)
  | k + 1, i, a, st, s => if s.steps + 1 > most then (.err .many, { s with steps := s.steps + 1 }) else if base + 8 * (st + 1) > 820 then (.err .over, { s with steps := s.steps + 1 })
    else fin i (P.last i) (runDeeds (fun t a s => runC base most (runLv k) t a (st + 1) s) (noteOut i (st + 1) (base + 8 * (st + 1))) (P.deeds i) [] { steps := s.steps + 1, notes := s.notes ++ [noteIn i (st + 1) (base + 8 * (st + 1)) a] })
end
noncomputable def plainA : Ar → Prop
  | .num _ => True
  | .th (.tb _) => True
  | _ => False
inductive Wf (k : Nat) : Th → List Ar → Prop
  | no {a} : a.length ≤ 5 → Wf k .no a
  | fn {i a} : i < k → (∀ x ∈ a, plainA x) → a.length ≤ 5 → Wf k (.fn i) a
  | tb {i a} : i < k → (∀ x ∈ a, plainA x) → a.length ≤ 5 → Wf k (.tb i) a
  | pc0 : Wf k .pc []
  | pc {t r} : Wf k t r → r.length ≤ 5 → Wf k .pc (.th t :: r)
structure Plans.Ok (P : Plans) : Prop where
  len : ∀ i, (P.deeds i).length ≤ 2
  zero : ∀ p ∈ P.deeds 0, (p.1 = 5 ∨ p.1 = 6) ∧ p.2 = 0
  succ : ∀ i, 0 < i → ∀ p ∈ P.deeds i, p.1 < 7 ∧ p.2 < i
  last : ∀ i, P.last i < 4
theorem Plans.Ok.wf {P : Plans} (ok : P.Ok) {i k : Nat} (hi : i ≤ k) : ∀ p ∈ P.deeds i, p.1 < 7 ∧ p.2 < 3 + i ∧ Wf k (callOf p.1 p.2).1 (callOf p.1 p.2).2 := fun p hp => by
  have pl : ∀ x ∈ [Ar.num 5], plainA x := fun x hx => by rw [List.mem_singleton.mp hx]; trivial
  cases i with
  | zero =>
    obtain ⟨h1, h2⟩ := ok.zero p hp
    rcases h1 with h1 | h1 <;> rw [h1, h2]
    · exact ⟨by decide, by decide, .pc (.no (by decide)) (by decide)⟩
    · exact ⟨by decide, by decide, .pc0⟩
  | succ i =>
    obtain ⟨h1, h2⟩ := ok.succ _ (Nat.succ_pos i) p hp
    refine ⟨h1, by omega, ?_⟩
    have hl : p.2 < k := by omega
    unfold callOf
    split
    · exact .fn hl pl (show (1 : Nat) ≤ 5 from by decide)
    · split
      · exact .tb hl pl (show (1 : Nat) ≤ 5 from by decide)
      · split
        · exact .pc0
        · split
          · exact .pc (.pc (.fn hl pl (by decide)) (by decide)) (show (2 : Nat) ≤ 5 from by decide)
          · refine .pc ?_ (show (1 : Nat) ≤ 5 from by decide)
            split
            · exact .fn hl pl (by decide)
            · split
              · exact .tb hl pl (by decide)
              · exact .no (by decide)
noncomputable def NB : Nat → Nat
  | 0 => 0
  | k + 1 => 3 + 2 * NB k
theorem runC_notes {base most F k} (hF : ∀ i a st s, (F i a st s).2.notes.length ≤ s.notes.length + k) : ∀ a t st s, (runC base most F t a st s).2.notes.length ≤ s.notes.length + k := by
  intro a
  induction a with
  | nil =>
    intro t st s
    cases t with
    | no => simp [runC]
    | fn i => exact hF _ _ _ _
    | tb i => exact hF _ _ _ _
    | pc => simp only [runC]; split <;> (try split) <;> simp
  | cons x r ih =>
    intro t st s
    cases t with
    | no => simp [runC]
    | fn i => exact hF _ _ _ _
    | tb i => exact hF _ _ _ _
    | pc =>
      cases x with
      | num n => simp [runC]
      | th t' =>
        simp only [runC]
        split
        · simp
        · split
          · simp
          · have := ih t' (st + 1) { s with steps := s.steps + 1 }
            revert this
            generalize runC base most F t' r (st + 1) { s with steps := s.steps + 1 } = q
            intro this
            obtain ⟨o, s'⟩ := q
            cases o <;> exact this
theorem runDeeds_notes {call mk k} (hc : ∀ t a s, (call t a s).2.notes.length ≤ s.notes.length + k) : ∀ ds f s, (runDeeds call mk ds f s).2.notes.length ≤ s.notes.length + ds.length * (k + 1) := by
  intro ds
  induction ds with
  | nil => intro f s; simp [runDeeds]
  | cons p r ih =>
    intro f s
    obtain ⟨w, l⟩ := p
    unfold runDeeds
    have := hc (callOf w l).1 (callOf w l).2 s
    revert this
    generalize call (callOf w l).1 (callOf w l).2 s = q
    intro this
    obtain ⟨o, s'⟩ := q
    have hm : (r.length + 1) * (k + 1) = r.length * (k + 1) + (k + 1) := Nat.succ_mul ..
    cases o with
    | err e =>
      show s'.notes.length ≤ _
      have t : s'.notes.length ≤ s.notes.length + k := this
      rw [List.length_cons, hm]; omega
    | ok f' =>
      have t : s'.notes.length ≤ s.notes.length + k := this
      have := ih f' { s' with notes := s'.notes ++ [mk s'.steps f'] }
      simp only [List.length_append, List.length_singleton] at this
      rw [List.length_cons, hm]
      show (runDeeds call mk r f' _).2.notes.length ≤ _
      omega
theorem runLv_notes {base most P} (ok : P.Ok) : ∀ k i a st s, (runLv base most P k i a st s).2.notes.length ≤ s.notes.length + NB k := by
  intro k
  induction k with
  | zero => intros; simp [runLv, NB]
  | succ k ih =>
    intro i a st s
    simp only [runLv]
    split
    · simp
    · split
      · simp
      · have := runDeeds_notes (call := fun t a s => runC base most (runLv base most P k) t a (st + 1) s) (mk := noteOut i (st + 1) (base + 8 * (st + 1))) (k := NB k) (fun t a s => runC_notes ih a t (st + 1) s) (P.deeds i) [] { steps := s.steps + 1, notes := s.notes ++ [noteIn i (st + 1) (base + 8 * (st + 1)) a] }
        have hl := ok.len i
        have hm : (P.deeds i).length * (NB k + 1) ≤ 2 * (NB k + 1) := Nat.mul_le_mul_right _ hl
        revert this
        generalize runDeeds _ _ _ _ _ = q
        intro this
        obtain ⟨o, s'⟩ := q
        have t : s'.notes.length ≤ (s.notes ++ [noteIn i (st + 1) (base + 8 * (st + 1)) a]).length + (P.deeds i).length * (NB k + 1) := this
        rw [List.length_append, List.length_singleton] at t
        have e : NB (k + 1) = 3 + 2 * NB k := rfl
        rw [e]
        cases o with
        | err e => show s'.notes.length ≤ _; omega
        | ok f => simp only [fin]; split <;> (show s'.notes.length ≤ _; omega)
theorem runC_len {base most F} (hF : ∀ i a st s r s', F i a st s = (.ok r, s') → r.length ≤ 4) : ∀ a t st s r s', runC base most F t a st s = (.ok r, s') → r.length ≤ 4 + a.length := by
  intro a
  induction a with
  | nil =>
    intro t st s r s' e
    cases t with
    | no => cases e
    | fn i => exact hF _ _ _ _ _ _ e
    | tb i => exact hF _ _ _ _ _ _ e
    | pc => simp only [runC] at e; split at e <;> (try split at e) <;> cases e
  | cons x r ih =>
    intro t st s q s' e
    cases t with
    | no => cases e
    | fn i => exact Nat.le_trans (hF _ _ _ _ _ _ e) (by omega)
    | tb i => exact Nat.le_trans (hF _ _ _ _ _ _ e) (by omega)
    | pc =>
      cases x with
      | num n => cases e
      | th t' =>
        simp only [runC] at e
        split at e
        · cases e
        · split at e
          · cases e
          · revert e
            cases z : runC base most F t' r (st + 1) { s with steps := s.steps + 1 } with
            | mk o s2 =>
              intro e
              cases o with
              | ok f => cases e; have := ih t' _ _ _ _ z; simp only [List.length_cons]; omega
              | err y => cases e; simp only [List.length_cons, List.length_nil]; omega
theorem runLv_len {base most P} : ∀ k i a st s r s', runLv base most P k i a st s = (.ok r, s') → r.length ≤ 4 := by
  intro k
  cases k with
  | zero => intro i a st s r s' e; cases e
  | succ k =>
    intro i a st s r s' e
    simp only [runLv] at e
    split at e
    · cases e
    · split at e
      · cases e
      · revert e
        generalize runDeeds _ _ _ _ _ = q
        intro e
        obtain ⟨o, s2⟩ := q
        cases o with
        | err y => cases e
        | ok f =>
          simp only [fin] at e
          split at e
          · cases e
          · cases e; simp only [List.length_cons, List.length_take]; omega
end Mine
end
section
open PySem PySem.W PyProof.Rows PySem.Calls PySem.Spec PySem.SeqAt
set_option maxRecDepth 10000
namespace Mine
section
variable {G : Gd} {c : Cx} {m : Loc} {σ : AS} {K : V → AS → Prop} {X : V → AS → Prop}
theorem e_errval (g : Gr G) {x px pos u} (hx : m.lookup x = some (.err u)) (hk : c.scope.names.lookup x = some .local) (hu : handed u = true) (h : K u σ) (hd : (x == ("__debug__" : Str)) = false := by decide)
    (he : ∀ env, eval (.Attribute (.Name x px) "value" pos) env = (do
      let o ← eval (.Name x px) env
      standAt pos.atName
      let r ← holding [o] (getAttr o "value" true)
      letTemporaryGo (.Name x px) o r
      pure r) := by intro _; with_unfolding_all rfl) : AE G c (.Attribute (.Name x px) "value" pos) m σ K X := by
  intro A env ρ hh tk z Q E ok S hQ hX
  refine Attribute_any_ (e_local (K := fun v σ1 => v = .err u ∧ σ1 = σ) (X := X) hx hk ⟨rfl, rfl⟩ hd A env ρ hh tk z _ _ ok S (fun ρ1 h1 tk1 v a σ1 k1 S1 x1 r1 => ?_) hX) (he env)
  obtain ⟨rfl, rfl⟩ := k1
  cases r1 with
  | err e1 c1 dd d1 e2 q1 q2 gv rv =>
    rw [g.ec] at c1
    exact get_own_exc (S1.inK ok.gd.X) ⟨e1, c1, by obtain ⟨vs, q, _⟩ := d1; unfold notCls; rw [q], by rw [dd]; exact e2⟩ g.excv gv (handed_of rv hu) (hQ _ h1 _ u _ _ h S1 x1 rv)
end
section
variable {G : Gd} {σ : AS} {fx : Nat → Option Cell} {x : HW} {d : Nat} {hn : Bool} {K : V → AS → Prop} {X : V → AS → Prop}
theorem frV_lf (dp : Int) : LF (frV dp) := by
  refine LF.ins fun y v e => ?_
  have : ∀ p ∈ ([("number", .int (-1)), ("cells", .any), ("extra", .any), ("line", .int (-1)), ("deep", .int dp)] : List (Str × V)), LF p.2 := by
    intro p hp
    simp only [List.mem_cons, List.not_mem_nil, or_false] at hp
    rcases hp with rfl | rfl | rfl | rfl | rfl <;> first | exact .int | exact .any
  exact this _ (mem_of_lookup e)
theorem FrsOk.lf {l} (F : FrsOk l) : ∀ v ∈ l, LF v := fun v hv => by obtain ⟨dp, rfl⟩ := F.2 v hv; exact frV_lf dp
theorem Wo.app (Wt : Wo fx x σ) (l : List V) (lf : ∀ v ∈ l, LF v) : Wo fx x { σ with w := σ.w ++ [.list l] } := by
  have ap : ∀ (i : Nat) (c : Cell), σ.w[i]? = some c → (σ.w ++ [Cell.list l])[i]? = some c := fun i c e => (List.getElem?_append_left (List.getElem?_eq_some_iff.mp e).1).trans e
  refine ⟨ap _ _ Wt.dict, ap _ _ Wt.frs, ap _ _ Wt.notes, ap _ _ Wt.inst, fun i h1 h2 h3 h4 => ?_, Wt.fi, by simp; have := Wt.len; omega, fun c hc => ?_⟩
  · rw [← Wt.fx i h1 h2 h3 h4]
    exact List.getElem?_append_left (by have := Wt.len; omega)
  · rcases List.mem_append.mp hc with hc | hc
    · exact Wt.bel c hc
    · rw [List.mem_singleton.mp hc]; exact fun v hv => (lf v hv).n
theorem c_cut_frames (g : Gr G) (Wt : Wo fx x σ) (F : FrsOk x.frs) {k : Nat} {dp : Int} (hk : (x.frs.take k).getLast? = some (frV dp)) (h : ∀ σ', Wo fx { x with fi := σ.w.length, frs := x.frs.take k, deep := dp } σ' → σ'.l = σ.l → K .none σ') : FT G fd_cut_frames ["self", "many"] [.w 3, .int k] σ d hn K X := by
  have W1 := Wt.app (x.frs.take k) fun v hv => F.lf v (List.mem_of_mem_take hv)
  have hnew : (σ.w ++ [Cell.list (x.frs.take k)])[σ.w.length]? = some (.list (x.frs.take k)) := by simp
  refine ss_cons (s_setattr (e_uptoW (e_la g Wt.host rfl (e_local (v := .int k) (by rfl) (by rfl) ⟨k, x.frs, rfl, Wt.lst, by omega, Nat.le_trans F.1 (by decide), e_local (v := .w 3) (by rfl) (by rfl) ⟨cHost, .w 2, hostD x, W1.inst, W1.dict, g.set' (by decide +kernel), (show (8:Nat) < 1000 from by decide), ?_⟩⟩))))
  have ek : ((k : Int)).toNat = k := Int.toNat_natCast k
  rw [ek]
  have W2 : Wo fx { x with fi := σ.w.length, frs := x.frs.take k } (putCell { σ with w := σ.w ++ [.list (x.frs.take k)] } (.w 2) (.dict (putA "frames" (.w σ.w.length) (hostD x)))) := W1.set (x' := { x with fi := σ.w.length, frs := x.frs.take k }) hnew rfl (.inr Wt.len)
  have hl2 : (putCell { σ with w := σ.w ++ [.list (x.frs.take k)] } (.w 2) (.dict (putA "frames" (.w σ.w.length) (hostD x)))).l = σ.l := rfl
  generalize putCell { σ with w := σ.w ++ [.list (x.frs.take k)] } (.w 2) (.dict (putA "frames" (.w σ.w.length) (hostD x))) = σ2 at *
  have hpos : 0 < (x.frs.take k).length := by
    cases q : x.frs.take k with
    | nil => rw [q] at hk; cases hk
    | cons => simp
  have hlen : (x.frs.take k).length ≤ 1000 := Nat.le_trans (List.length_take_le' ..) F.1
  refine ss_cons (s_setattr (e_ite (b_cmp .gt (e_len (g.blt (v := .builtin "len")) (by rfl) (e_la g W2.host rfl ⟨_, Nat.le_trans hlen (by decide), .inl ⟨_, W2.lst, rfl⟩, e_int ⟨_, _, rfl, rfl, ?_⟩⟩) (by decide +kernel)))))
  rw [decide_eq_true (by show ((x.frs.take k).length : Int) > 0; omega)]
  refine e_attr (e_last (e_la g W2.host rfl (e_neg (e_int ⟨1, rfl, _, _, rfl, W2.lst, Nat.lt_of_le_of_lt hlen (by decide), hk, _, _, _, rfl, g.at' (by decide +kernel), rfl, rfl, ?_⟩))))
  refine e_local (v := .w 3) (by rfl) (by rfl) ⟨cHost, .w 2, _, W2.inst, W2.dict, g.set' (by decide +kernel), (show (8:Nat) < 1000 from by decide), ?_⟩
  exact ss_nil (h _ (W2.set (x' := { x with fi := σ.w.length, frs := x.frs.take k, deep := dp }) W2.frs rfl (.inr Wt.len)) hl2)
end
end Mine
end
section
open PySem PySem.W PyProof.Rows PySem.Calls PySem.Spec PySem.SeqAt
set_option maxRecDepth 10000
namespace Mine
section
variable {G : Gd} {c : Cx} {m : Loc} {σ : AS} {X : V → AS → Prop}
theorem b_cmpb {op f e1 e2 pos} {K : Bool → AS → Prop} (ho : IntCmp op f) (h : AE G c e1 m σ (fun v1 σ1 => AE G c e2 m σ1 (fun v2 σ2 => ∃ i j b, v1 = .int i ∧ v2 = .int j ∧ f i j = b ∧ K b σ2) X) X)
    (hm : behindInMarks op e2 = false := by with_unfolding_all rfl) : AB G c (.Compare e1 [op] [e2] pos) m σ K X :=
  b_cmp ho (TR.mono h (fun v1 σ1 q => TR.mono q (fun v2 σ2 ⟨i, j, b, r1, r2, r3, r4⟩ => ⟨i, j, r1, r2, by rw [r3]; exact r4⟩) fun _ _ z => z) fun _ _ z => z) hm
theorem b_li {op f x px j k p pos v i b} {K : Bool → AS → Prop} (ho : IntCmp op f) (hv : v = .int i) (hb : f i j = b) (h : K b σ) (hx : m.lookup x = some v := by rfl) (hk : c.scope.names.lookup x = some .local := by rfl) (hd : (x == ("__debug__" : Str)) = false := by decide) (hm : behindInMarks op (.Constant (.int j) k p) = false := by with_unfolding_all rfl) :
    AB G c (.Compare (.Name x px) [op] [.Constant (.int j) k p] pos) m σ K X :=
  b_cmpb ho (e_local hx hk (e_int ⟨i, j, b, hv, rfl, hb, h⟩) hd) hm
end
section
variable {G : Gd} {σ : AS} {d : Nat} {hn : Bool} {K : V → AS → Prop} {X : V → AS → Prop}
noncomputable def coV (w : Nat) (one row cat no : V) : V × List V :=
  if w = 1 then (one, [.int 5]) else if w = 4 then (row, [.int 5]) else if w = 6 then (cat, []) else if w = 2 then (cat, [cat, one, .int 5]) else (cat, [if w = 0 then one else if w = 3 then row else no, .int 5])
theorem coV_14 {w : Nat} {one row cat no : V} (q : w = 1 ∨ w = 4) : ∃ u, [one, row][((w : Int).fdiv 4).toNat]? = some u ∧ 0 ≤ (w : Int).fdiv 4 ∧ (w : Int).fdiv 4 < 2 ^ 63 ∧ coV w one row cat no = (u, [.int 5]) ∧ Builtin.divisionGoesByPylong (w : Int) 4 = false := by rcases q with rfl | rfl <;> exact ⟨_, rfl, by decide, by decide, rfl, by decide +kernel⟩
theorem coV_0 {w : Nat} {one row cat no : V} (hw : w < 7) (n : ¬(w = 1 ∨ w = 4)) (n6 : w ≠ 6) (n2 : w ≠ 2) : ∃ u, (([0, 3, 5] : List Int).zip [one, row, no]).lookup (w : Int) = some u ∧ coV w one row cat no = (cat, [u, .int 5]) := by
  have : w = 0 ∨ w = 3 ∨ w = 5 := (by decide : ∀ w : Nat, w < 7 → ¬(w = 1 ∨ w = 4) → w ≠ 6 → w ≠ 2 → w = 0 ∨ w = 3 ∨ w = 5) w hw n n6 n2
  rcases this with rfl | rfl | rfl <;> exact ⟨_, rfl, rfl⟩
theorem ne_i {w : Nat} {k : Nat} (h : w ≠ k) : ((w : Int) == (k : Int)) = false := beq_eq_false_iff_ne.mpr (by omega)
theorem eq_i {w : Nat} {k : Nat} (h : w = k) : ((w : Int) == (k : Int)) = true := by rw [h]; exact beq_self_eq_true _
theorem c_callof (g : Gr G) {w : Nat} {one row cat no : V} (hw : w < 7) (h1 : LF one) (h2 : LF row) (h3 : LF no) (h : ∀ u l, coV w one row cat no = (u, l) → K (.tup [u, .lst l]) σ) : FT G fd_callof ["way", "one", "row", "catcher", "none"] [.int w, one, row, cat, no] σ d hn K X := by
  by_cases q : w = 1 ∨ w = 4
  · obtain ⟨u, e1, e2, e3, e4, e5⟩ := coV_14 (one := one) (row := row) (cat := cat) (no := no) q
    refine ss_cons (s_if (b_or (b_li .eq (v := .int w) rfl rfl ?_)))
    have fin : SS G ⟨fd_callof.qual, fd_callof.scope, σ.l.length, d, hn, none⟩ (match nthS fd_callof.body 0 with | .If _ b _ _ => b | _ => []) ((["way", "one", "row", "catcher", "none"] : List Str).zip [.int w, one, row, cat, no]) σ (fun fl m1 σ1 => match fl with | .next => SS G ⟨fd_callof.qual, fd_callof.scope, σ.l.length, d, hn, none⟩ (fd_callof.body.drop 1) m1 σ1 (fun fl _ σ' => K (fv fl) σ') (fun v _ σ' => X v σ') | fl => K (fv fl) σ1) (fun v _ σ' => X v σ') :=
      ss_cons <| s_ret <| e_tup <| as_cons <| e_item <| e_list <| as_cons <| e_local (v := one) (by rfl) (by rfl) <| as_cons <| e_local (v := row) (by rfl) (by rfl) <| as_nil ⟨(show (2 : Nat) ≤ 1000 by decide), e_fdiv <| e_local (v := .int w) (by rfl) (by rfl) <| e_int ⟨_, _, rfl, rfl, by decide, e5, _, _, _, rfl, rfl, e2, e3, e1, as_cons <| e_list <| as_cons <| e_int <| as_nil ⟨(show (1 : Nat) ≤ 1000 by decide), as_nil ⟨(show (2 : Nat) ≤ 1000 by decide), h _ _ e4⟩⟩⟩⟩
    by_cases q1 : w = 1
    · rw [show ((w : Int) == 1) = true from eq_i q1]
      exact fin
    · rw [show ((w : Int) == 1) = false from ne_i q1]
      exact b_or (b_li .eq (v := .int w) rfl (eq_i (q.resolve_left q1)) fin)
  · refine ss_cons (s_if (b_or (b_li .eq (v := .int w) rfl (ne_i fun e => q (.inl e)) (b_or (b_li .eq (v := .int w) rfl (ne_i fun e => q (.inr e)) (b_or0 (ss_nil (ss_cons (s_if ?_)))))))))
    by_cases n6 : w = 6
    · subst n6
      exact b_li .eq (v := .int (6 : Nat)) rfl rfl (ss_cons <| s_ret <| e_tup <| as_cons <| e_local (v := cat) (by rfl) (by rfl) <| as_cons <| e_list0f <| as_nil ⟨(show (2 : Nat) ≤ 1000 by decide), h _ _ rfl⟩)
    refine b_li .eq (v := .int w) rfl (ne_i n6) (ss_nil (ss_cons (s_if ?_)))
    by_cases n2 : w = 2
    · subst n2
      exact b_li .eq (v := .int (2 : Nat)) rfl rfl (ss_cons <| s_ret <| e_tup <| as_cons <| e_local (v := cat) (by rfl) (by rfl) <| as_cons <| e_list <| as_cons <| e_local (v := cat) (by rfl) (by rfl) <| as_cons <| e_local (v := one) (by rfl) (by rfl) <| as_cons <| e_int <| as_nil ⟨(show (3 : Nat) ≤ 1000 by decide), as_nil ⟨(show (2 : Nat) ≤ 1000 by decide), h _ _ rfl⟩⟩)
    obtain ⟨u, hk, hu⟩ := coV_0 (one := one) (row := row) (cat := cat) (no := no) hw q n6 n2
    refine b_li .eq (v := .int w) rfl (ne_i n2) (ss_nil <| ss_cons <| s_ret <| e_tup <| as_cons <| e_local (v := cat) (by rfl) (by rfl) <| as_cons <| e_list <| as_cons <| e_idict (ks := [0, 3, 5]) (nd := by decide) (hall := rfl) (hl := rfl) (h0 := by exact fun q => by cases q) (hlen := by decide) <| dp_cons (kx := (0 : Int)) (fun _ _ _ _ _ _ _ q => key_int q) <| e_local (v := one) (by rfl) (by rfl) <| dp_cons (kx := (3 : Int)) (fun _ _ _ _ _ _ _ q => key_int q) <| e_local (v := row) (by rfl) (by rfl) <| dp_cons (kx := (5 : Int)) (fun _ _ _ _ _ _ _ q => key_int q) <| e_local (v := no) (by rfl) (by rfl) <| dp_nil ⟨?_, e_local (v := .int w) (by rfl) (by rfl) ⟨_, _, rfl, hk, as_cons <| e_int <| as_nil ⟨(show (2 : Nat) ≤ 1000 by decide), as_nil ⟨(show (2 : Nat) ≤ 1000 by decide), h _ _ hu⟩⟩⟩⟩)
    intro u hu
    simp only [List.mem_cons, List.not_mem_nil, or_false] at hu
    rcases hu with rfl | rfl | rfl
    · exact h1
    · exact h2
    · exact h3
end
end Mine
end
section
open PySem PySem.W PyProof.Rows PySem.Calls PySem.Spec PySem.SeqAt
set_option maxRecDepth 10000
namespace Mine
section
variable {G : Gd} {σ : AS} {d : Nat} {hn : Bool} {K : V → AS → Prop} {X : V → AS → Prop}
theorem c_said_tab (g : Gr G) {v es n} (hi : instOf σ v = some (cTable, es)) (hn' : es.lookup ("number" : Str) = some (.int n)) (h : K (.tup [.str "table", .int n]) σ) : FT G fd_said ["value"] [v] σ d hn K X := by
  refine ss_cons (s_if (b_isi g (by rfl) (fun q => e_local (v := v) (by rfl) (by rfl) q) (fun q => e_glob (g.gl' (a := cTable) (by decide +kernel)) (by rfl) rfl q) (tyV_inst hi g.own1) (b := true) (by decide +kernel) ?_))
  exact ss_cons <| s_ret <| e_tup <| as_cons <| e_str <| as_cons <| e_la g (v := v) hi hn' <| as_nil ⟨(show (2 : Nat) ≤ 1000 by decide), h⟩
theorem c_said (g : Gr G) {v t b} (ht : tyV G.K σ v = some t) (k1 : (t, .ref cTable, false) ∈ kits) (k2 : (t, .type "bytes", b) ∈ kits) (hb : b = true → ∃ x, v = .byt x ∧ K (if x = bMany ∨ x = bOver then v else .byt bText) σ) (h : b = false → K v σ) : FT G fd_said ["value"] [v] σ d hn K X := by
  refine ss_cons (s_if (b_isi g (by rfl) (fun q => e_local (v := v) (by rfl) (by rfl) q) (fun q => e_glob (g.gl' (a := cTable) (by decide +kernel)) (by rfl) rfl q) ht k1 (ss_nil ?_)))
  refine ss_cons (s_ret (e_ite (b_and (b_isi g (by rfl) (fun q => e_local (v := v) (by rfl) (by rfl) q) (fun q => e_blt (g.blt (v := .type "bytes")) (by decide +kernel) (by rfl) q) ht k2 ?_))))
  cases b with
  | false => exact e_local (v := v) (by rfl) (by rfl) (h rfl)
  | true =>
    obtain ⟨x, rfl, hx⟩ := hb rfl
    obtain ⟨a, n, t, u, k3, k4⟩ := g.known
    refine b_and (b_cv (e_local (v := .byt x) (by rfl) (by rfl) (e_globtup (bs := [bMany, bOver]) (ts := [t, u]) k3 k4 rfl (by rfl) ⟨_, cv_notin, ?_⟩)))
    by_cases q : x = bMany ∨ x = bOver
    · rw [if_pos q] at hx
      rw [show (!([bMany, bOver] : List (Array UInt8)).any fun y => y.toList == x.toList) = false by rcases q with rfl | rfl <;> rfl]
      exact e_local (v := .byt x) (by rfl) (by rfl) hx
    · rw [if_neg q] at hx
      have : (!([bMany, bOver] : List (Array UInt8)).any fun y => y.toList == x.toList) = true := by
        simp only [List.any_cons, List.any_nil, Bool.or_false, Bool.not_eq_true', Bool.or_eq_false_iff, beq_eq_false_iff_ne]
        exact ⟨fun e => q (.inl (Array.toList_inj.mp e).symm), fun e => q (.inr (Array.toList_inj.mp e).symm)⟩
      rw [this]
      exact b_and0 (e_byt hx)
end
noncomputable def deedsV (ds : List (Nat × Nat)) : V := .lst (ds.map fun p => .tup [.int p.1, .int p.2])
noncomputable def fd_work : FD := fdOf (fd_function.qual ++ ".<locals>.") (nthS fd_function.body 1)
noncomputable def workE (P : Plans) (i : Nat) : List (Str × V) := [("at", .int i), ("deeds", deedsV (P.deeds i)), ("last", .int (P.last i)), ("world", .w 8)]
noncomputable def fnV (P : Plans) (i : Nat) : V := .ins cBuiltin [("number", .int (-10 - i)), ("name", .byt #[102]), ("work", .clo fd_work (workE P i))]
noncomputable def pcV : V := .ins cBuiltin [("number", .int (-20)), ("name", .byt #[112, 99, 97, 108, 108]), ("work", .cst (.ref 399))]
noncomputable def thH (P : Plans) : Th → V
  | .fn i => fnV P i
  | .tb i => tabV i (fnV P i)
  | .pc => pcV
  | .no => .int 4
noncomputable def arH (P : Plans) : Ar → V
  | .th t => thH P t
  | .num n => .int n
noncomputable def rsH (P : Plans) : Rs → V
  | .b b => .bool b
  | .i n => .int n
  | .tb => tabV 0 (fnV P 0)
  | .many => .byt bMany
  | .over => .byt bOver
  | .tx true => .byt bBad
  | .tx false => .byt (bAttempt #[99, 97, 108, 108] #[110, 117, 109, 98, 101, 114])
theorem lf_mem {es : List (Str × V)} (h : ∀ p ∈ es, LF p.2) : ∀ y v, es.lookup y = some v → LF v := fun y v e => h _ (mem_of_lookup e)
theorem deeds_lf (ds) : LF (deedsV ds) := .lst fun x hx => by
  obtain ⟨p, _, rfl⟩ := List.mem_map.mp hx
  exact .tup fun y hy => by
    simp only [List.mem_cons, List.not_mem_nil, or_false] at hy
    rcases hy with rfl | rfl <;> exact .int
theorem fnV_lf (P i) : LF (fnV P i) := .ins <| lf_mem fun p hp => by
  simp only [List.mem_cons, List.not_mem_nil, or_false] at hp
  rcases hp with rfl | rfl | rfl
  · exact .int
  · exact .byt
  · exact .clo <| lf_mem fun p hp => by
      simp only [workE, List.mem_cons, List.not_mem_nil, or_false] at hp
      rcases hp with rfl | rfl | rfl | rfl
      · exact .int
      · exact deeds_lf _
      · exact .int
      · exact .w
theorem tabV_lf {i f} (hf : LF f) : LF (tabV i f) := .ins <| lf_mem fun p hp => by
  simp only [List.mem_cons, List.not_mem_nil, or_false] at hp
  rcases hp with rfl | rfl | rfl | rfl
  · exact .int
  · exact .lst fun x hx => by cases hx
  · exact .lst fun x hx => by cases hx
  · exact .ins <| lf_mem fun p hp => by
      simp only [List.mem_cons, List.not_mem_nil, or_false] at hp
      rcases hp with rfl | rfl | rfl | rfl
      · exact .int
      · exact .lst fun x hx => by rw [List.mem_singleton.mp hx]; exact .byt
      · exact .lst fun x hx => by rw [List.mem_singleton.mp hx]; exact hf
      · exact .none
theorem pcV_lf : LF pcV := .ins <| lf_mem fun p hp => by
  simp only [List.mem_cons, List.not_mem_nil, or_false] at hp
  rcases hp with rfl | rfl | rfl
  · exact .int
  · exact .byt
  · exact .cst
theorem thH_lf (P t) : LF (thH P t) := by
  cases t with
  | fn i => exact fnV_lf P i
  | tb i => exact tabV_lf (fnV_lf P i)
  | pc => exact pcV_lf
  | no => exact .int
theorem arH_lf (P a) : LF (arH P a) := by
  cases a with
  | th t => exact thH_lf P t
  | num => exact .int
theorem rsH_lf (P r) : LF (rsH P r) := by
  cases r with
  | b => exact .bool
  | i => exact .int
  | tb => exact tabV_lf (fnV_lf P 0)
  | many => exact .byt
  | over => exact .byt
  | tx b => cases b <;> exact .byt
section
variable {G : Gd} {σ : AS} {d : Nat} {hn : Bool} {K : V → AS → Prop} {X : V → AS → Prop} {P : Plans}
theorem c_said_rs (g : Gr G) (r : Rs) (h : K (rsM r) σ) : FT G fd_said ["value"] [rsH P r] σ d hn K X := by
  have hbyt : ∀ {x : Array UInt8}, K (if x = bMany ∨ x = bOver then .byt x else .byt bText) σ → FT G fd_said ["value"] [.byt x] σ d hn K X := fun {x} q =>
    c_said g (v := .byt x) (b := true) rfl (by decide +kernel) (by decide +kernel) (fun _ => ⟨x, rfl, q⟩) (fun q => by cases q)
  cases r with
  | b b => exact c_said g (b := false) rfl (by decide +kernel) (by decide +kernel) (fun q => by cases q) fun _ => h
  | i n => exact c_said g (b := false) rfl (by decide +kernel) (by decide +kernel) (fun q => by cases q) fun _ => h
  | tb => exact c_said_tab g (v := tabV 0 (fnV P 0)) (n := -30) rfl rfl h
  | many => exact hbyt (by rw [if_pos (.inl rfl)]; exact h)
  | over => exact hbyt (by rw [if_pos (.inr rfl)]; exact h)
  | tx b => cases b <;> exact hbyt (by rw [if_neg (by decide +kernel)]; exact h)
theorem c_said_ar (g : Gr G) (a : Ar) (pl : plainA a) (h : K (arM a) σ) : FT G fd_said ["value"] [arH P a] σ d hn K X := by
  cases a with
  | num n => exact c_said g (b := false) rfl (by decide +kernel) (by decide +kernel) (fun q => by cases q) fun _ => h
  | th t =>
    cases t with
    | tb i => exact c_said_tab g (v := tabV i (fnV P i)) (n := -30 - i) rfl rfl h
    | fn => cases pl
    | pc => cases pl
    | no => cases pl
theorem ce_said (g : Gr G) {α : Type} (f fm : α → V) (hlf : ∀ a, LF (fm a)) : ∀ (l : List α) (acc : List V) {K : List V → AS → Prop}, (∀ a ∈ l, ∀ {K : V → AS → Prop} {X : V → AS → Prop}, K (fm a) σ → FT G fd_said ["value"] [f a] σ d hn K X) → K (acc ++ l.map fm) σ → CE G fd_said ["value"] d hn (fun v => [v]) (l.map f) acc σ K
  | [], acc, K, _, h => by rw [List.map_nil, List.append_nil] at h; exact h
  | a :: r, acc, K, hs, h => by
    rw [List.map_cons]
    exact hs a (.head _) (K := fun v σ1 => LF v ∧ CE G fd_said ["value"] d hn (fun v => [v]) (r.map f) (acc ++ [v]) σ1 K) ⟨hlf a, ce_said g f fm hlf r (acc ++ [fm a]) (fun b hb => hs b (.tail _ hb)) (by rw [List.append_assoc]; exact h)⟩
end
theorem rsM_lf (r) : LF (rsM r) := by
  cases r with
  | b => exact .bool
  | i => exact .int
  | tb =>
    exact .tup fun x hx => by
      simp only [List.mem_cons, List.not_mem_nil, or_false] at hx
      rcases hx with rfl | rfl
      · exact .str
      · exact .int
  | many => exact .byt
  | over => exact .byt
  | tx b => exact .byt
theorem arM_lf (a) : LF (arM a) := by
  cases a with
  | num => exact .int
  | th t => cases t with
    | fn => exact .int
    | tb =>
      exact .tup fun x hx => by
        simp only [List.mem_cons, List.not_mem_nil, or_false] at hx
        rcases hx with rfl | rfl
        · exact .str
        · exact .int
    | pc => exact .str
    | no => exact .str
end Mine
end
section
open PySem PySem.W PyProof.Rows PySem.Calls PySem.Spec PySem.SeqAt
set_option maxRecDepth 10000
namespace Mine
noncomputable def frsAt (base : Int) (n : Nat) : List V := (List.range n).map fun (i : Nat) => frV (base + 8 * ((i : Int) + 1))
theorem frsAt_succ (base : Int) (n : Nat) : frsAt base (n + 1) = frsAt base n ++ [frV (base + 8 * ((n : Int) + 1))] := by simp [frsAt, List.range_succ]
theorem frsAt_len (base : Int) (n : Nat) : (frsAt base n).length = n := by simp [frsAt]
theorem frsAt_ok {base : Int} {n : Nat} (h : n ≤ 1000) : FrsOk (frsAt base n) := ⟨by rw [frsAt_len]; exact h, fun v hv => by
  obtain ⟨i, _, rfl⟩ := List.mem_map.mp hv
  exact ⟨_, rfl⟩⟩
noncomputable def AllFz (σ : AS) (n : Nat) : List (Str × V) → List (Str × V) → Prop
  | [], [] => True
  | (x, u) :: es, (y, v) :: fs => x = y ∧ Fz σ n u v ∧ AllFz σ n es fs
  | _, _ => False
theorem AllFz.look {σ n} : ∀ {es fs : List (Str × V)}, AllFz σ n es fs → ∀ y, (fs.lookup y = none → es.lookup y = none) ∧ ∀ v, fs.lookup y = some v → ∃ u, es.lookup y = some u ∧ Fz σ n u v
  | [], [], _, y => ⟨fun _ => rfl, fun v e => by cases e⟩
  | (x, u) :: es, (z, v) :: fs, h, y => by
    obtain ⟨rfl, h1, h2⟩ := h
    have ih := h2.look y
    rw [List.lookup_cons, List.lookup_cons]
    cases y == x with
    | true => exact ⟨fun e => (by cases e), fun v' e => by cases e; exact ⟨u, rfl, h1⟩⟩
    | false => exact ih
theorem AllFz.ins {σ : AS} {n i j C es fs} (h : AllFz σ n es fs) (e1 : σ.l[i]? = some (.inst C (.l j))) (e2 : σ.l[j]? = some (.dict es)) (hi : n ≤ i) (hj : n ≤ j) : Fz σ n (.l i) (.ins C fs) :=
  .ins e1 e2 hi hj (fun y v e => let ⟨u, q, _⟩ := (h.look y).2 v e; ⟨u, q⟩) (fun y u v e e' => by
    obtain ⟨u', q, r⟩ := (h.look y).2 v e'
    rw [q] at e; cases e; exact r) fun y e => (h.look y).1 e
theorem fm_of {σ : AS} {n : Nat} {m m' : Loc} (h : ∀ p ∈ m', ∃ v, m.lookup p.1 = some v ∧ Fz σ n v p.2) : ∀ x v', m'.lookup x = some v' → ∃ v, m.lookup x = some v ∧ Fz σ n v v' := fun x v' e => h _ (mem_of_lookup e)
noncomputable def GS (fx : Nat → Option Cell) (base most : Int) (st : Nat) (s : Sp) (σ : AS) : Prop := (∃ fi, Wo fx ⟨s.steps, base + 8 * st, most, fi, frsAt base st, s.notes⟩ σ) ∧ σ.l = []
noncomputable def BS (fx : Nat → Option Cell) (base most : Int) (st : Nat) (s : Sp) (σ : AS) : Prop := (∃ dp fi ex, FrsOk (frsAt base st ++ ex) ∧ Wo fx ⟨s.steps, dp, most, fi, frsAt base st ++ ex, s.notes⟩ σ) ∧ σ.l = []
theorem GS.bs {fx base most st s σ} (h : GS fx base most st s σ) (hs : st ≤ 1000) : BS fx base most st s σ := by
  obtain ⟨⟨fi, W⟩, hl⟩ := h
  exact ⟨⟨_, fi, [], by rw [List.append_nil]; exact frsAt_ok hs, by rw [List.append_nil]; exact W⟩, hl⟩
theorem BS.down {fx base most st s σ} (h : BS fx base most (st + 1) s σ) : BS fx base most st s σ := by
  obtain ⟨⟨dp, fi, ex, F, W⟩, hl⟩ := h
  rw [frsAt_succ, List.append_assoc] at F W
  exact ⟨⟨dp, fi, _, F, W⟩, hl⟩
section
variable {G : Gd} {w : List Cell} {d : Nat} {hn : Bool} {K : V → AS → Prop} {X : V → AS → Prop}
theorem c_frame (g : Gr G) {a b : V} (h : K (.l 1) ⟨w, [.dict [("number", .int (-1)), ("cells", a), ("extra", b), ("line", .int 0), ("deep", .int 0)], .inst cFrame (.l 0)]⟩) : MK G cFrame fd_fr_init ["self", "number", "cells", "extra"] [.int (-1), a, b] ⟨w, []⟩ d hn K X := by
  refine ss_cons (s_setattr (e_local (v := .int (-1)) (by rfl) (by rfl) (e_local (v := .l 1) (by rfl) (by rfl) ⟨cFrame, .l 0, [], rfl, rfl, g.set' (by decide +kernel), by decide, ?_⟩)))
  refine ss_cons (s_setattr (e_local (v := a) (by rfl) (by rfl) (e_local (v := .l 1) (by rfl) (by rfl) ⟨cFrame, .l 0, _, rfl, rfl, g.set' (by decide +kernel), (show 1 < 1000 by decide), ?_⟩)))
  refine ss_cons (s_setattr (e_local (v := b) (by rfl) (by rfl) (e_local (v := .l 1) (by rfl) (by rfl) ⟨cFrame, .l 0, _, rfl, rfl, g.set' (by decide +kernel), (show 2 < 1000 by decide), ?_⟩)))
  refine ss_cons (s_setattr (e_int (e_local (v := .l 1) (by rfl) (by rfl) ⟨cFrame, .l 0, _, rfl, rfl, g.set' (by decide +kernel), (show 3 < 1000 by decide), ?_⟩)))
  refine ss_cons (s_setattr (e_int (e_local (v := .l 1) (by rfl) (by rfl) ⟨cFrame, .l 0, _, rfl, rfl, g.set' (by decide +kernel), (show 4 < 1000 by decide), ?_⟩)))
  exact ss_nil ⟨rfl, h⟩
end
noncomputable def callWork : Expr := match nthS fd_call_host.body 5 with | .Assign _ v _ => v | _ => .Constant .none 0 ⟨0, 0, 0, 0⟩
section
variable {G : Gd} {σ : AS} {fx : Nat → Option Cell} {base most : Int} {d : Nat} {K : V → AS → Prop} {X : V → AS → Prop}
theorem c_call_host (g : Gr G) {st : Nat} {s : Sp} {f : V} {row : List V} (S0 : GS fx base most st s σ) (hst : st ≤ 102) (hb : 0 ≤ base) (lf : LF f) (lr : ∀ v ∈ row, LF v)
    (hm : s.steps + 1 > most → ∀ σ', GS fx base most st { s with steps := s.steps + 1 } σ' → X (.byt bMany) σ')
    (ho : ¬s.steps + 1 > most → base + 8 * (st + 1) > 820 → ∀ σ', BS fx base most st { s with steps := s.steps + 1 } σ' → X (.byt bOver) σ')
    (hw : ¬s.steps + 1 > most → ¬base + 8 * (st + 1) > 820 → ∀ {m : Loc} {σ1 : AS}, m.lookup ("self" : Str) = some (.w 3) → m.lookup ("function" : Str) = some f → m.lookup ("args" : Str) = some (.lst row) → GS fx base most (st + 1) { s with steps := s.steps + 1 } σ1 →
      AE G ⟨fd_call_host.qual, fd_call_host.scope, 0, d + 4, true, none⟩ callWork m σ1 (fun v σ2 => ∃ s', GS fx base most (st + 1) s' σ2 ∧ ∀ σ3, GS fx base most st s' σ3 → K v σ3) X) :
    FT G fd_call_host ["self", "function", "args"] [.w 3, f, .lst row] σ (d + 4) true K X := by
  obtain ⟨⟨fi, W0⟩, hl⟩ := S0
  obtain ⟨w, l⟩ := σ
  cases hl
  obtain ⟨t8, hc8⟩ := g.hcall
  have F0 : FrsOk (frsAt base st) := frsAt_ok (by omega)
  refine ss_cons (s_expr (e_lm g g.tick W0.host rfl (as_nil ⟨rfl, c_tick (d := d + 1) g W0 fun σ1 W1 l1 => ?_⟩)))
  obtain ⟨w1, l1'⟩ := σ1
  cases l1
  by_cases q1 : s.steps + 1 > most
  · rw [if_pos q1]
    exact hm q1 _ ⟨⟨fi, W1⟩, rfl⟩
  rw [if_neg q1]
  refine ss_cons (s_expr (e_lm g g.go_deeper W1.host rfl (as_cons (e_glob hc8 (by rfl) rfl (as_nil ⟨rfl, c_go_deeper (d := d) g W1 F0 fun σ2 W2 l2 => ?_⟩)))))
  obtain ⟨w2, l2'⟩ := σ2
  cases l2
  have ed : base + 8 * (st : Int) + 8 = base + 8 * ((st + 1 : Nat) : Int) := by push_cast; omega
  dsimp only at W2 ⊢
  rw [ed] at W2 ⊢
  by_cases q2 : base + 8 * ((st + 1 : Nat) : Int) > 820
  · rw [if_pos q2]
    exact ho q1 q2 _ ⟨⟨_, fi, [], by rw [List.append_nil]; exact F0, by rw [List.append_nil]; exact W2⟩, rfl⟩
  rw [if_neg q2]
  refine ss_cons (s_set (by rfl) (e_cls g.cFra (g.gl' (by decide +kernel)) (by rfl) rfl (as_cons (e_neg (e_int ⟨1, rfl, as_cons (e_dict0 (as_cons (e_list0f (as_nil ⟨rfl, c_frame g ?_⟩))))⟩)))))
  have W3 : Wo fx _ (⟨w2, [.dict [("number", .int (-1)), ("cells", .any), ("extra", .lst []), ("line", .int 0), ("deep", .int 0)], .inst cFrame (.l 0)]⟩ : AS) := W2.w rfl
  refine ss_cons (s_tup (e_tup (as_cons (e_neg (e_int ⟨1, rfl, as_cons (e_la g W3.host rfl (as_nil ⟨(show 2 ≤ 1000 by decide), ta_tup (ta_attr (e_local (v := .l 1) (by rfl) (by rfl) ⟨cFrame, .l 0, _, rfl, rfl, g.set' (by decide +kernel), (show 5 < 1000 by decide), ta_attr (e_local (v := .l 1) (by rfl) (by rfl) ⟨cFrame, .l 0, _, rfl, rfl, g.set' (by decide +kernel), (show 5 < 1000 by decide), ?_⟩)⟩)) (fun v hv => ?_) rfl rfl (fun env => by rfl)⟩))⟩)))))
  · refine sx_mid (m' := [("frame", frV (base + 8 * ((st + 1 : Nat) : Int))), ("self", .w 3), ("function", f), ("args", .lst row)]) rfl W2.bel g.call_host.cell (fm_of fun p hp => ?_) ?_
    · simp only [List.mem_cons, List.not_mem_nil, or_false] at hp
      rcases hp with rfl | rfl | rfl | rfl
      · exact ⟨.l 1, by rfl, AllFz.ins (j := 0) (es := [("number", .int (-1)), ("cells", .any), ("extra", .lst []), ("line", .int (-1)), ("deep", .int (base + 8 * ((st + 1 : Nat) : Int)))]) ⟨rfl, .keep LF.int.n, rfl, .any, rfl, .any, rfl, .keep LF.int.n, rfl, .keep LF.int.n, trivial⟩ rfl rfl (Nat.zero_le _) (Nat.zero_le _)⟩
      · exact ⟨_, by rfl, .keep LF.w.n⟩
      · exact ⟨_, by rfl, .keep lf.n⟩
      · exact ⟨_, by rfl, .keep (LF.lst lr).n⟩
    · have W4 : Wo fx _ (⟨w2, []⟩ : AS) := W2
      have ef : frsAt base st ++ [frV (base + 8 * ((st + 1 : Nat) : Int))] = frsAt base (st + 1) := by rw [frsAt_succ]; push_cast; rfl
      have W5 := W4.setF (frsAt base (st + 1)) (frsAt_ok (by omega)).lf
      refine ss_cons (s_expr (e_append (e_la g W4.host rfl ⟨⟨_, W4.frs⟩, as_cons (e_local (v := frV (base + 8 * ((st + 1 : Nat) : Int))) (by rfl) (by rfl) (as_nil ⟨_, _, rfl, W4.frs, by show (frsAt base st).length ≤ _; rw [frsAt_len]; omega, ?_⟩))⟩)))
      dsimp only
      rw [ef]
      refine ss_cons (s_set (by rfl) (TR.mono (hw q1 q2 (m := [("frame", frV (base + 8 * ((st + 1 : Nat) : Int))), ("self", .w 3), ("function", f), ("args", .lst row)]) rfl rfl rfl ⟨⟨fi, W5⟩, rfl⟩) (fun v σ3 hv => ?_) fun _ _ z => z))
      obtain ⟨s', ⟨⟨fi3, W6⟩, l6⟩, hK⟩ := hv
      obtain ⟨w6, l6'⟩ := σ3
      cases l6
      have e6 : (⟨w6, []⟩ : AS).w[fi3]? = some (.list (frsAt base st ++ [frV (base + 8 * ((st + 1 : Nat) : Int))])) := by rw [ef]; exact W6.frs
      have W7 := W6.setF (frsAt base st) (frsAt_ok (by omega)).lf
      refine ss_cons (s_expr (e_pop (e_la g W6.host rfl ⟨_, _, e6, by rw [frsAt_len]; omega, ?_⟩)))
      refine ss_cons (s_augattr .sub (e_local (v := .w 3) (by rfl) (by rfl) ⟨cHost, .w 2, _, _, W7.inst, W7.dict, g.at' (by decide +kernel), rfl, e_glob hc8 (by rfl) rfl ⟨rfl, 8, rfl, g.set' (by decide +kernel), (show (8:Nat) < 1000 from by decide), ?_⟩⟩))
      refine ss_cons (s_ret (e_local (v := v) (by rfl) (by rfl) (hK _ ⟨⟨fi3, ?_⟩, rfl⟩)))
      have W8 := W7.set (x' := ⟨s'.steps, base + 8 * (st : Int), most, fi3, frsAt base st, s'.notes⟩) W7.frs rfl W7.fi
      have ee : base + 8 * ((st + 1 : Nat) : Int) - 8 = base + 8 * (st : Int) := by push_cast; omega
      dsimp only
      rw [ee]
      exact W8
  · simp only [List.mem_cons, List.not_mem_nil, or_false] at hv
    rcases hv with rfl | rfl <;> exact .int
end
end Mine
end
section
open PySem PySem.W PyProof.Rows PySem.Calls PySem.Spec PySem.SeqAt
set_option maxRecDepth 10000
namespace Mine
section
variable {G : Gd} {fx : Nat → Option Cell} {base most : Int} {P : Plans}
noncomputable def CallB (G : Gd) (fx : Nat → Option Cell) (base most : Int) (P : Plans) (R : Nat → Sp → Out × Sp) (D N : Nat) (fd : FD) (xs : List Str) (vs : List V) (B : Nat → Sp → AS → Prop) : Prop :=
  ∀ ⦃σ : AS⦄ ⦃st : Nat⦄ ⦃s : Sp⦄ ⦃d : Nat⦄ ⦃K : V → AS → Prop⦄ ⦃X : V → AS → Prop⦄, GS fx base most st s σ → st ≤ 102 → D ≤ d → s.notes.length + N ≤ 100000 →
    (∀ r s', R st s = (.ok r, s') → ∀ σ', GS fx base most st s' σ' → K (.lst (r.map (rsH P))) σ') → (∀ e s', R st s = (.err e, s') → ∀ σ', B st s' σ' → X (rsH P e) σ') → FT G fd xs vs σ d true K X
noncomputable abbrev CallK (G : Gd) (fx : Nat → Option Cell) (base most : Int) (P : Plans) (R : Nat → Sp → Out × Sp) (D N : Nat) (fd : FD) (xs : List Str) (vs : List V) : Prop := CallB G fx base most P R D N fd xs vs (BS fx base most)
noncomputable def xCall : List Str := ["self", "function", "args", "name"]
noncomputable def vCall (P : Plans) (t : Th) (a : List Ar) : List V := [.w 3, thH P t, .lst (a.map (arH P)), .byt #[]]
theorem kit_bb : ((.ref cBuiltin, .ref cBuiltin, true) : Value × Value × Bool) ∈ kits := by decide +kernel
theorem kit_tb : ((.ref cTable, .ref cBuiltin, false) : Value × Value × Bool) ∈ kits := by decide +kernel
theorem kit_ib : ((.type "int", .ref cBuiltin, false) : Value × Value × Bool) ∈ kits := by decide +kernel
theorem call_to (g : Gr G) {R D N f row B} (h : CallB G fx base most P R D N fd_call_other xCall [.w 3, f, row, .byt #[]] B) : CallB G fx base most P R (D + 1) N fd_call xCall [.w 3, f, row, .byt #[]] B := by
  intro σ st s d K X S hst hd hN hK hX
  obtain ⟨d, rfl⟩ : ∃ e, d = e + 1 := ⟨d - 1, by omega⟩
  have hW := S
  obtain ⟨⟨fi, W⟩, hl⟩ := hW
  exact ss_cons (s_ret (e_lm g g.call_other W.host rfl (as_cons (e_local (v := f) (by rfl) (by rfl) (as_cons (e_local (v := row) (by rfl) (by rfl) (as_cons (e_local (v := .byt #[]) (by rfl) (by rfl) (as_nil ⟨rfl, h S hst (by omega) hN hK hX⟩)))))))))
theorem call_bui (g : Gr G) {R D N f row es B} (hf : ∀ σ, instOf σ f = some (cBuiltin, es)) (h : CallB G fx base most P R D N fd_call_host ["self", "function", "args"] [.w 3, f, row] B) :
    CallB G fx base most P R (D + 2) N fd_call xCall [.w 3, f, row, .byt #[]] B := call_to g <| by
  intro σ st s d K X S hst hd hN hK hX
  obtain ⟨d, rfl⟩ : ∃ e, d = e + 1 := ⟨d - 1, by omega⟩
  have hW := S
  obtain ⟨⟨fi, W⟩, hl⟩ := hW
  refine ss_cons (s_if (b_isi g (by rfl) (fun q => e_local (v := f) (by rfl) (by rfl) q) (fun q => e_glob (g.gl' (a := cBuiltin) (by decide +kernel)) (by rfl) rfl q) (tyV_inst (hf σ) g.own2) kit_bb ?_))
  exact ss_cons (s_ret (e_lm g g.call_host W.host rfl (as_cons (e_local (v := f) (by rfl) (by rfl) (as_cons (e_local (v := row) (by rfl) (by rfl) (as_nil ⟨rfl, h S hst (by omega) hN hK hX⟩)))))))
theorem call_tab (g : Gr G) {R D N i row} (hr : row.length ≤ 1000) (hD : 7 ≤ D) (h : CallK G fx base most P R D N fd_call xCall [.w 3, fnV P i, .lst (tabV i (fnV P i) :: row), .byt #[]]) :
    CallK G fx base most P R (D + 2) N fd_call xCall [.w 3, tabV i (fnV P i), .lst row, .byt #[]] := by
  suffices q : CallK G fx base most P R (D + 1) N fd_call_other xCall [.w 3, tabV i (fnV P i), .lst row, .byt #[]] from call_to g q
  intro σ st s d K X S hst hd hN hK hX
  obtain ⟨d, rfl⟩ : ∃ e, d = e + 5 := ⟨d - 5, by omega⟩
  have hW := S
  obtain ⟨⟨fi, W⟩, hl⟩ := hW
  refine ss_cons (s_if (b_isi g (by rfl) (fun q => e_local (v := tabV i (fnV P i)) (by rfl) (by rfl) q) (fun q => e_glob (g.gl' (a := cBuiltin) (by decide +kernel)) (by rfl) rfl q) (tyV_inst (σ := σ) (v := tabV i (fnV P i)) rfl g.own1) kit_tb (ss_nil ?_)))
  refine ss_cons (s_set (by rfl) (e_lm g g.handler W.host rfl (as_cons (e_local (v := tabV i (fnV P i)) (by rfl) (by rfl) (as_cons (e_byt (as_nil ⟨rfl, c_handler_t (d := d) g ?_⟩)))))))
  refine ss_cons (s_if (b_not (b_val (e_call g.is_function (g.gl' (by decide +kernel)) (by rfl) rfl (as_cons (e_local (v := fnV P i) (by rfl) (by rfl) (as_nil ⟨rfl, c_is_function (d := d + 3) g (.func (v := fnV P i) rfl) ⟨true, rfl, ss_nil ?_⟩⟩)))))))
  exact ss_cons (s_ret (e_lm g g.call W.host rfl (as_cons (e_local (v := fnV P i) (by rfl) (by rfl) (as_cons (e_addl (e_list (as_cons (e_local (v := tabV i (fnV P i)) (by rfl) (by rfl) (as_nil ⟨(show 1 ≤ 1000 by decide), e_local (v := .lst row) (by rfl) (by rfl) ⟨_, row, rfl, rfl, (by simp only [List.length_cons, List.length_nil]; omega), as_cons (e_byt (as_nil ⟨rfl, h S hst (by omega) hN hK hX⟩))⟩⟩))))))))))
theorem call_no (g : Gr G) {N a} : CallK G fx base most P (fun _ s => (.err (.tx false), s)) 7 N fd_call xCall (vCall P .no a) := by
  suffices q : CallK G fx base most P (fun _ s => (.err (.tx false), s)) 6 N fd_call_other xCall (vCall P .no a) from call_to g q
  intro σ st s d K X S hst hd hN hK hX
  obtain ⟨d, rfl⟩ : ∃ e, d = e + 4 := ⟨d - 4, by omega⟩
  have hW := S
  obtain ⟨⟨fi, W⟩, hl⟩ := hW
  refine ss_cons (s_if (b_isi g (by rfl) (fun q => e_local (v := .int 4) (by rfl) (by rfl) q) (fun q => e_glob (g.gl' (a := cBuiltin) (by decide +kernel)) (by rfl) rfl q) rfl kit_ib (ss_nil ?_)))
  refine ss_cons (s_set (by rfl) (e_lm g g.handler W.host rfl (as_cons (e_local (v := .int 4) (by rfl) (by rfl) (as_cons (e_byt (as_nil ⟨rfl, c_handler_i g ?_⟩)))))))
  refine ss_cons (s_if (b_not (b_val (e_call g.is_function (g.gl' (by decide +kernel)) (by rfl) rfl (as_cons (e_local (v := .none) (by rfl) (by rfl) (as_nil ⟨rfl, c_is_function (d := d + 2) g .none ⟨false, rfl, ?_⟩⟩)))))))
  exact ss_cons (s_expr (e_lm g g.fail_type W.host rfl (as_cons (e_local (v := .int 4) (by rfl) (by rfl) (as_cons (e_byt (as_cons (e_local (v := .byt #[]) (by rfl) (by rfl) (as_nil ⟨rfl, c_fail_type (d := d) g W (frsAt_ok (by omega)) .int (by decide) (by decide) (hX _ _ rfl _ (S.bs (by omega)))⟩)))))))))
end
end Mine
end
section
open PySem PySem.W PyProof.Rows PySem.Calls PySem.Spec PySem.SeqAt
set_option maxRecDepth 10000
namespace Mine
section
variable {G : Gd} {fx : Nat → Option Cell} {base most : Int} {P : Plans}
theorem rsH_handed (P r) : handed (rsH P r) = true := by
  cases r with
  | tx b => cases b <;> rfl
  | _ => rfl
theorem frsAt_take (base : Int) (n : Nat) (ex : List V) : (frsAt base n ++ ex).take n = frsAt base n := by
  have := List.take_left (l₁ := frsAt base n) (l₂ := ex)
  rwa [frsAt_len] at this
theorem pcall_run (g : Gr G) {R D N t r} (IH : CallK G fx base most P R D N fd_call xCall (vCall P t r)) (hr : r.length ≤ 5) (hlen : ∀ st s f s', R st s = (.ok f, s') → f.length ≤ 50) {σ : AS} {st : Nat} {s : Sp} {d : Nat} {K X : V → AS → Prop}
    (S : GS fx base most (st + 1) s σ) (hst : st + 1 ≤ 102) (hd : D ≤ d) (hN : s.notes.length + N ≤ 100000)
    (hK : ∀ f s', R (st + 1) s = (.ok f, s') → ∀ σ', GS fx base most (st + 1) s' σ' → K (.lst (.bool true :: f.map (rsH P))) σ')
    (hE : ∀ e s', R (st + 1) s = (.err e, s') → ∀ σ', GS fx base most (st + 1) s' σ' → K (.lst [.bool false, rsH P e]) σ') :
    FT G fd_pcall ["runner", "args"] [.w 3, .lst (thH P t :: r.map (arH P))] σ (d + 1) true K X := by
  have hW := S
  obtain ⟨⟨fi, W⟩, hl⟩ := hW
  refine ss_cons (s_expr (e_call g.need (g.gl' (by decide +kernel)) (by rfl) rfl (as_cons (e_local (v := .w 3) (by rfl) (by rfl) (as_cons (e_byt (as_cons (e_local (v := .lst (thH P t :: r.map (arH P))) (by rfl) (by rfl) (as_cons (e_int (as_nil ⟨rfl, c_need1 g (by rw [List.length_map]; omega) ?_⟩)))))))))))
  refine ss_cons (s_set (by rfl) (e_len (g.blt (v := .builtin "len")) (by rfl) (e_la g W.host rfl ⟨st + 1, by omega, .inl ⟨_, W.lst, frsAt_len _ _⟩, ?_⟩) (by decide +kernel)))
  refine ss_cons (s_try g.cExc (by rw [g.ec]; exact g.gl' (by decide +kernel)) (by rfl) (by rfl) ?_)
  refine ss_cons <| s_set (by rfl) <| e_addl <| e_list <| as_cons <| e_bool <| as_nil ⟨(show 1 ≤ 1000 by decide), e_lm g g.call W.host rfl <| as_cons <| e_item <| e_local (v := .lst (thH P t :: r.map (arH P))) (by rfl) (by rfl) <| e_int ⟨0, _, thH P t, rfl, rfl, by decide, by decide, rfl,
    as_cons <| e_from <| e_local (v := .lst (thH P t :: r.map (arH P))) (by rfl) (by rfl) <| e_int ⟨1, _, rfl, rfl, by decide, by simp only [List.length_cons, List.length_map]; omega, as_cons <| e_byt <| as_nil ⟨rfl, IH S hst hd hN (fun f s' e σ' S' => ⟨_, _, rfl, rfl, by rw [List.length_map]; have := hlen _ _ _ _ e; simp only [List.length_cons, List.length_nil]; omega, ?_⟩) fun e s' q σ' S' => ?_⟩⟩⟩⟩
  · exact ss_nil (ss_cons (s_ret (e_local (v := V.lst (V.bool true :: f.map (rsH P))) (by rfl) (by rfl) (hK f s' e σ' S'))))
  · obtain ⟨⟨dp, fi', ex, F, W'⟩, hl'⟩ := S'
    have hk : ((frsAt base (st + 1) ++ ex).take (st + 1)).getLast? = some (frV (base + 8 * ((st : Int) + 1))) := by rw [frsAt_take, frsAt_succ, List.getLast?_concat]
    refine ss_cons (s_expr (e_lm g g.cut_frames W'.host rfl (as_cons (e_local (v := .int ((st + 1 : Nat) : Int)) (by rfl) (by rfl) (as_nil ⟨rfl, c_cut_frames g W' F hk fun σ2 W2 l2 => ?_⟩)))))
    refine ss_cons (s_set (by rfl) (e_list (as_cons (e_bool (as_cons (e_errval g (u := rsH P e) (by rfl) (by rfl) (rsH_handed P e) (as_nil ⟨(show 2 ≤ 1000 by decide), ?_⟩)))))))
    dsimp only at W2
    rw [frsAt_take] at W2
    exact ss_nil (ss_cons (s_ret (e_local (v := .lst [.bool false, rsH P e]) (by rfl) (by rfl) (hE e s' q σ2 ⟨⟨_, W2⟩, l2.trans hl'⟩))))
theorem pcV_inst (σ : AS) : instOf σ pcV = some (cBuiltin, ([("number", .int (-20)), ("name", .byt #[112, 99, 97, 108, 108]), ("work", .cst (.ref 399))] : List (Str × V))) := rfl
theorem host_pc (g : Gr G) {R' R : Nat → Sp → Out × Sp} {D N : Nat} {row : List V} {B : Nat → Sp → AS → Prop} (hb : 0 ≤ base) (lr : ∀ v ∈ row, LF v)
    (hBm : ∀ st s σ, st ≤ 102 → GS fx base most st s σ → B st s σ) (hBo : ∀ (st : Nat) s σ, base + 8 * ((st : Int) + 1) > 820 → BS fx base most st s σ → B st s σ) (hBe : ∀ st s e s', R st s = (.err e, s') → ∀ st s σ, BS fx base most st s σ → B st s σ)
    (hm : ∀ (st : Nat) (s : Sp), s.steps + 1 > most → R' st s = (.err .many, { s with steps := s.steps + 1 })) (ho : ∀ (st : Nat) (s : Sp), ¬s.steps + 1 > most → base + 8 * ((st : Int) + 1) > 820 → R' st s = (.err .over, { s with steps := s.steps + 1 }))
    (hr : ∀ (st : Nat) (s : Sp), ¬s.steps + 1 > most → ¬base + 8 * ((st : Int) + 1) > 820 → R' st s = R (st + 1) { s with steps := s.steps + 1 })
    (h : ∀ ⦃σ : AS⦄ ⦃st : Nat⦄ ⦃s : Sp⦄ ⦃d : Nat⦄ ⦃K X : V → AS → Prop⦄, GS fx base most (st + 1) s σ → st + 1 ≤ 102 → D ≤ d → s.notes.length + N ≤ 100000 →
      (∀ r s', R (st + 1) s = (.ok r, s') → ∀ σ', GS fx base most (st + 1) s' σ' → K (.lst (r.map (rsH P))) σ') → (∀ e s', R (st + 1) s = (.err e, s') → ∀ σ', BS fx base most (st + 1) s' σ' → X (rsH P e) σ') → FT G fd_pcall ["runner", "args"] [.w 3, .lst row] σ d true K X) :
    CallB G fx base most P R' (D + 4) N fd_call_host ["self", "function", "args"] [.w 3, pcV, .lst row] B := by
  intro σ st s d K X S hst hd hN hK hX
  obtain ⟨d, rfl⟩ : ∃ e, d = e + 4 := ⟨d - 4, by omega⟩
  refine c_call_host g S hst hb pcV_lf lr (fun q σ' S' => hX _ _ (hm _ _ q) _ (hBm _ _ _ hst S')) (fun q q' σ' S' => hX _ _ (ho _ _ q q') _ (hBo _ _ _ q' S')) fun q q' m σ1 h1 h2 h3 S1 => ?_
  refine e_fldfn g.pcall rfl (e_local (v := pcV) h2 (by rfl) ⟨⟨_, _, pcV_inst σ1, g.at' (by decide +kernel), rfl, by decide +kernel⟩, as_cons (e_local (v := .w 3) h1 (by rfl) (as_cons (e_local (v := .lst row) h3 (by rfl) (as_nil ⟨rfl, h S1 (by omega) (by omega) hN (fun r s' e σ' S' => ?_) fun e s' e' σ' S' => ?_⟩))))⟩)
  · exact ⟨s', S', fun σ3 S3 => hK r s' (by rw [hr _ _ q q']; exact e) σ3 S3⟩
  · exact hX e s' (by rw [hr _ _ q q']; exact e') σ' (hBe _ _ _ _ e' _ _ _ S'.down)
end
end Mine
end
section
open PySem PySem.W PyProof.Rows PySem.Calls PySem.Spec PySem.SeqAt
set_option maxRecDepth 10000
namespace Mine
noncomputable def plansV (P : Plans) : V := .lst (([0, 1, 2] : List Nat).map fun i => .tup [deedsV (P.deeds i), .int (P.last i)])
noncomputable def worldE (P : Plans) : List (Str × V) := [("plans", plansV P), ("notes", .w 5), ("catcher", pcV), ("functions", .w 6), ("tables", .w 7)]
structure Fx (P : Plans) (fx : Nat → Option Cell) : Prop where
  f6 : fx 6 = some (.list (([0, 1, 2] : List Nat).map fun i => fnV P i))
  f7 : fx 7 = some (.list (([0, 1, 2] : List Nat).map fun (i : Nat) => tabV i (fnV P i)))
  f8 : fx 8 = some (.map (worldE P))
theorem at3 {α : Type} (f : Nat → α) {l : Nat} (h : l < 3) : (([0, 1, 2] : List Nat).map f)[((l : Nat) : Int).toNat]? = some (f l) := by
  have : l = 0 ∨ l = 1 ∨ l = 2 := by omega
  rcases this with rfl | rfl | rfl <;> rfl
structure WM (P : Plans) (i : Nat) (f : V) (m : Loc) : Prop where
  host : m.lookup ("host" : Str) = some (.w 3)
  at_ : m.lookup ("at" : Str) = some (.int i)
  world : m.lookup ("world" : Str) = some (.w 8)
  last : m.lookup ("last" : Str) = some (.int (P.last i))
  found : m.lookup ("found" : Str) = some f
theorem look_cons {x y : Str} {v : V} {m : Loc} {u} (e : m.lookup x = some u) (h : (x == y) = false) : ((y, v) :: m).lookup x = some u := by rw [List.lookup_cons, h]; exact e
theorem WM.push {P i f m y v} (h : WM P i f m) (hy : (([("host" : Str), "at", "world", "last", "found"]).all fun x => !(x == y)) = true := by decide) : WM P i f ((y, v) :: m) := by
  simp only [List.all_cons, List.all_nil, Bool.and_true, Bool.and_eq_true, Bool.not_eq_true'] at hy
  exact ⟨look_cons h.host hy.1, look_cons h.at_ hy.2.1, look_cons h.world hy.2.2.1, look_cons h.last hy.2.2.2.1, look_cons h.found hy.2.2.2.2⟩
theorem WM.setF {P i f m f'} (h : WM P i f m) : WM P i f' (("found", f') :: m) :=
  ⟨look_cons h.host (by decide), look_cons h.at_ (by decide), look_cons h.world (by decide), look_cons h.last (by decide), rfl⟩
noncomputable def workTgt : Expr := match nthS fd_work.body 2 with | .For t _ _ _ _ => t | _ => .Constant .none 0 ⟨0, 0, 0, 0⟩
noncomputable def workFor : List Stmt := match nthS fd_work.body 2 with | .For _ _ b _ _ => b | _ => []
noncomputable abbrev wkC (d : Nat) : Cx := ⟨fd_work.qual, fd_work.scope, 0, d, true, none⟩
theorem coV_callOf (P : Plans) (w l : Nat) : coV w (fnV P l) (tabV l (fnV P l)) pcV (.int 4) = (thH P (callOf w l).1, (callOf w l).2.map (arH P)) := by
  unfold coV callOf
  split
  · rfl
  split
  · rfl
  split
  · rfl
  split
  · rfl
  · show (_, [_, _]) = (_, [_, _])
    split
    · rfl
    split <;> rfl
section
variable {G : Gd} {fx : Nat → Option Cell} {base most : Int} {P : Plans}
theorem e_wkey {c : Cx} {m : Loc} {σ : AS} {K : V → AS → Prop} {X : V → AS → Prop} {px kk kp pos x k u} (F : Fx P fx) (W : Wo fx x σ) (hk : (worldE P).lookup k = some u) (h : K u σ) (hx : m.lookup ("world" : Str) = some (.w 8)) (hf : c.scope.names.lookup ("world" : Str) = some .free) :
    AE G c (.Subscript (.Name "world" px) (.Constant (.str k) kk kp) pos) m σ K X :=
  e_key (e_free hx hf (e_str ⟨k, worldE P, u, rfl, (W.fx 8 (by decide) (by decide) (by decide) (by decide)).trans F.f8, hk, h⟩))
theorem callOf_len (w l : Nat) : (callOf w l).2.length ≤ 3 := by
  unfold callOf
  split
  · simp
  split
  · simp
  split
  · simp
  split <;> simp
theorem GS.addN {st s σ} {v : V} (S : GS fx base most st s σ) (lv : LF v) : GS fx base most st { s with notes := s.notes ++ [v] } (putCell σ (.w 5) (.list (s.notes ++ [v]))) := by
  obtain ⟨⟨fi, W⟩, hl⟩ := S
  refine ⟨⟨fi, W.setN (s.notes ++ [v]) fun u hu => ?_⟩, hl⟩
  rcases List.mem_append.mp hu with hu | hu
  · exact W.bel _ (List.mem_of_getElem? W.notes) u hu
  · rw [List.mem_singleton.mp hu]; exact lv.n
theorem noteIn_lf {i st deep a} : LF (noteIn i st deep a) := .tup fun v hv => by
  simp only [List.mem_cons, List.not_mem_nil, or_false] at hv
  rcases hv with rfl | rfl | rfl | rfl
  · exact .int
  · exact .int
  · exact .int
  · exact .lst fun u hu => by
      obtain ⟨x, _, rfl⟩ := List.mem_map.mp hu
      exact arM_lf x
theorem noteOut_lf {i st deep n f} : LF (noteOut i st deep n f) := .tup fun v hv => by
  simp only [List.mem_cons, List.not_mem_nil, or_false] at hv
  rcases hv with rfl | rfl | rfl | rfl | rfl
  · exact .int
  · exact .int
  · exact .int
  · exact .int
  · exact .lst fun u hu => by
      obtain ⟨x, _, rfl⟩ := List.mem_map.mp hu
      exact rsM_lf x
theorem Fx.l6 {x σ} (F : Fx P fx) (W : Wo fx x σ) : lstOf σ (.w 6) = some (([0, 1, 2] : List Nat).map fun i => fnV P i) := by
  show (match σ.w[6]? with | some (.list xs) => some xs | _ => Option.none) = _
  rw [W.fx 6 (by decide) (by decide) (by decide) (by decide), F.f6]
theorem Fx.l7 {x σ} (F : Fx P fx) (W : Wo fx x σ) : lstOf σ (.w 7) = some (([0, 1, 2] : List Nat).map fun (i : Nat) => tabV i (fnV P i)) := by
  show (match σ.w[7]? with | some (.list xs) => some xs | _ => Option.none) = _
  rw [W.fx 7 (by decide) (by decide) (by decide) (by decide), F.f7]
noncomputable abbrev Lvl (G : Gd) (fx : Nat → Option Cell) (base most : Int) (P : Plans) (k : Nat) : Prop := ∀ t a, Wf k t a → CallK G fx base most P (runC base most (runLv base most P k) t a) (12 + 8 * a.length + 30 * k) (NB k) fd_call xCall (vCall P t a)
theorem work_loop (g : Gr G) (F : Fx P fx) (hP : P.Ok) {k : Nat} (hc : Lvl G fx base most P k) {i st d : Nat} (hst : st ≤ 102) (hd : 36 + 30 * k ≤ d) {Kf : Fl → Loc → AS → Prop} {Xf : V → Loc → AS → Prop} :
    ∀ (ds : List (Nat × Nat)) (f : List Rs) (s : Sp) (σ : AS) (m : Loc), (∀ p ∈ ds, p.1 < 7 ∧ p.2 < 3 ∧ Wf k (callOf p.1 p.2).1 (callOf p.1 p.2).2) → WM P i (.lst (f.map (rsH P))) m → GS fx base most st s σ → s.notes.length + ds.length * (NB k + 1) ≤ 100000 → f.length ≤ 50 →
      (∀ f' s' σ' m', runDeeds (fun t a s => runC base most (runLv base most P k) t a st s) (noteOut i st (base + 8 * st)) ds f s = (.ok f', s') → f'.length ≤ 50 → WM P i (.lst (f'.map (rsH P))) m' → GS fx base most st s' σ' → Kf .next m' σ') →
      (∀ e s' σ' m', runDeeds (fun t a s => runC base most (runLv base most P k) t a st s) (noteOut i st (base + 8 * st)) ds f s = (.err e, s') → BS fx base most st s' σ' → Xf (rsH P e) m' σ') →
      FB G (wkC (d + 1)) (assign workTgt) workFor (ds.map fun p => .tup [.int p.1, .int p.2]) m σ Kf Xf := by
  intro ds
  induction ds with
  | nil => intro f s σ m _ hm S _ hf hK _; exact hK f s σ m rfl hf hm S
  | cons p r ih =>
    intro f s σ m hp hm S hN hf hK hX
    obtain ⟨w, l⟩ := p
    obtain ⟨hw, hl3, hwf⟩ := hp _ (.head _)
    dsimp only at hw hl3 hwf
    have hN' : s.notes.length + (r.length * (NB k + 1) + (NB k + 1)) ≤ 100000 := by rw [List.length_cons, Nat.succ_mul] at hN; exact hN
    have S0 := S
    obtain ⟨⟨fi, W⟩, hl⟩ := S0
    rw [List.map_cons]
    have m1 : WM P i (.lst (f.map (rsH P))) (("lesser", .int l) :: ("way", .int w) :: m) := hm.push.push
    refine ta_tup (ta_loc (by rfl) (ta_loc (by rfl) ?_)) (fun v hv => ?_) rfl rfl (fun env => by rfl)
    · refine ss_cons <| s_tup <| e_call g.callof (g.gl' (by decide +kernel)) (by rfl) rfl <| as_cons <| e_local (v := .int w) (by rfl) (by rfl) <| as_cons <| e_item <| e_wkey F W (hx := m1.world) (hf := by rfl) rfl <| e_local (v := .int l) (by rfl) (by rfl) ⟨_, _, _, rfl, F.l6 W, by omega, by omega, at3 _ hl3,
        as_cons <| e_item <| e_wkey F W (hx := m1.world) (hf := by rfl) rfl <| e_local (v := .int l) (by rfl) (by rfl) ⟨_, _, _, rfl, F.l7 W, by omega, by omega, at3 _ hl3,
        as_cons <| e_wkey F W (hx := m1.world) (hf := by rfl) rfl <| as_cons <| e_int <| as_nil ⟨rfl, c_callof g hw (fnV_lf P l) (tabV_lf (fnV_lf P l)) .int fun u row hu => ta_tup (ta_loc (by rfl) (ta_loc (by rfl) ?_)) (fun v hv => ?_) rfl rfl (fun env => by rfl)⟩⟩⟩
      · rw [coV_callOf] at hu
        cases hu
        have m2 : WM P i (.lst (f.map (rsH P))) (("args", .lst ((callOf w l).2.map (arH P))) :: ("thing", thH P (callOf w l).1) :: ("lesser", .int l) :: ("way", .int w) :: m) := m1.push.push
        have h3 := callOf_len w l
        refine ss_cons <| s_set (by rfl) <| e_lm g g.call W.host rfl (hx := m2.host) <| as_cons <| e_local (v := thH P (callOf w l).1) (by rfl) (by rfl) <| as_cons <| e_local (v := .lst ((callOf w l).2.map (arH P))) (by rfl) (by rfl) <| as_cons <| e_byt <| as_nil ⟨rfl, hc _ _ hwf S hst (by omega) (by omega) (fun f' s' e σ' S' => ?_) fun e s' q σ' S' => ?_⟩
        · have hn := runC_notes (base := base) (most := most) (F := runLv base most P k) (k := NB k) ?_ (callOf w l).2 (callOf w l).1 st s
          have hf' := runC_len (base := base) (most := most) (F := runLv base most P k) (runLv_len k) (callOf w l).2 (callOf w l).1 st s f' s' e
          · rw [e] at hn
            have hn' : s'.notes.length ≤ s.notes.length + NB k := hn
            have m3 : WM P i (.lst (f'.map (rsH P))) (("found", .lst (f'.map (rsH P))) :: ("args", .lst ((callOf w l).2.map (arH P))) :: ("thing", thH P (callOf w l).1) :: ("lesser", .int l) :: ("way", .int w) :: m) := m2.setF
            have S1 := S'
            obtain ⟨⟨fi', W'⟩, hl'⟩ := S1
            refine ss_cons <| s_expr <| e_append <| e_wkey F W' (hx := m3.world) (hf := by rfl) rfl ⟨⟨_, W'.notes⟩, as_cons <| e_tup <| as_cons <| e_free m3.at_ (by rfl) <| as_cons <| e_len (g.blt (v := .builtin "len")) (by rfl) (hv := by decide +kernel) <| e_la g W'.host rfl (hx := m3.host) ⟨st, by omega, .inl ⟨_, W'.lst, frsAt_len _ _⟩, as_cons <| e_la g W'.host rfl (hx := m3.host) <| as_cons <| e_la g W'.host rfl (hx := m3.host) <| as_cons <|
              e_comp rfl rfl g.said rfl rfl rfl (g.gl' (by decide +kernel)) (by rfl) (by rfl) (by decide +kernel) (by decide +kernel) (by decide +kernel) <| e_local (v := .lst (f'.map (rsH P))) (by rfl) (by rfl) ⟨_, rfl, ?_, ?_, ce_said g (rsH P) rsM rsM_lf f' [] (fun a _ K X q => c_said_rs g a q) ?_⟩⟩⟩
            · intro v hv
              obtain ⟨x, _, rfl⟩ := List.mem_map.mp hv
              exact rsH_lf P x
            · rw [List.length_map]; omega
            · refine as_nil ⟨(show 5 ≤ 1000 by decide), as_nil ⟨_, _, rfl, W'.notes, by show s'.notes.length ≤ _; omega, ?_⟩⟩
              have S2 := S'.addN (v := noteOut i st (base + 8 * st) s'.steps f') noteOut_lf
              refine ss_nil (ih f' _ _ _ (fun p hp' => hp p (.tail _ hp')) m3 S2 ?_ (by omega) (fun f2 s2 σ2 m2' e2 => ?_) fun e2 s2 σ2 m2' q2 => ?_)
              · simp only [List.length_append, List.length_singleton]; omega
              · exact hK f2 s2 σ2 m2' (by unfold runDeeds; rw [e]; exact e2)
              · exact hX e2 s2 σ2 m2' (by unfold runDeeds; rw [e]; exact q2)
          · exact fun i a st s => runLv_notes hP k i a st s
        · exact hX e s' σ' _ (by unfold runDeeds; rw [q]) S'
      · simp only [List.mem_cons, List.not_mem_nil, or_false] at hv
        rw [coV_callOf] at hu
        cases hu
        rcases hv with rfl | rfl
        · exact thH_lf P _
        · exact .lst fun v hv => by
            obtain ⟨x, _, rfl⟩ := List.mem_map.mp hv
            exact arH_lf P x
    · simp only [List.mem_cons, List.not_mem_nil, or_false] at hv
      rcases hv with rfl | rfl <;> exact .int
end
end Mine
end
section
open PySem PySem.W PyProof.Rows PySem.Calls PySem.Spec PySem.SeqAt
set_option maxRecDepth 10000
namespace Mine
section
variable {G : Gd} {fx : Nat → Option Cell} {base most : Int} {P : Plans}
theorem last_at (P : Plans) (n : Int) {l : Nat} (h : l < 2) : [V.int (100 + n), tabV 0 (fnV P 0)][((l : Nat) : Int).toNat]? = some (rsH P (if l = 0 then .i (100 + n) else .tb)) := by
  have : l = 0 ∨ l = 1 := by omega
  rcases this with rfl | rfl <;> rfl
theorem cloK_work (P : Plans) (i : Nat) : CloK fd_work ["host", "row"] (workE P i) := by
  refine ⟨fun s cl doc pm an cdv ct vals hl => ?_, by decide, by decide +kernel, fun x v e => ?_, by decide +kernel, by rfl, by rfl, by rfl⟩
  · match vals, hl with
    | [a, b], _ => exact .of_eq rfl
  · have := mem_of_lookup e
    simp only [workE, List.mem_cons, List.not_mem_nil, or_false, Prod.mk.injEq] at this
    rcases this with ⟨rfl, _⟩ | ⟨rfl, _⟩ | ⟨rfl, _⟩ | ⟨rfl, _⟩ <;> rfl
theorem work_run (g : Gr G) (F : Fx P fx) (hP : P.Ok) {k : Nat} (hc : Lvl G fx base most P k) {i st : Nat} (hi3 : i < 3) (hik : i ≤ k) (hst : st ≤ 102) {d : Nat} (hd : 37 + 30 * k ≤ d) {a : List Ar} (pl : ∀ x ∈ a, plainA x) (ha : a.length ≤ 6) {σ : AS} {s : Sp} (S : GS fx base most st s σ) (hN : s.notes.length + NB (k + 1) ≤ 100000) {K X : V → AS → Prop}
    (hK : ∀ r s', fin i (P.last i) (runDeeds (fun t a s => runC base most (runLv base most P k) t a st s) (noteOut i st (base + 8 * st)) (P.deeds i) [] { s with notes := s.notes ++ [noteIn i st (base + 8 * st) a] }) = (.ok r, s') → ∀ σ', GS fx base most st s' σ' → K (.lst (r.map (rsH P))) σ')
    (hX : ∀ e s', fin i (P.last i) (runDeeds (fun t a s => runC base most (runLv base most P k) t a st s) (noteOut i st (base + 8 * st)) (P.deeds i) [] { s with notes := s.notes ++ [noteIn i st (base + 8 * st) a] }) = (.err e, s') → ∀ σ', BS fx base most st s' σ' → X (rsH P e) σ') :
    FTe G fd_work ["host", "row"] [.w 3, .lst (a.map (arH P))] (workE P i) σ d true K X := by
  obtain ⟨d, rfl⟩ : ∃ e, d = e + 2 := ⟨d - 2, by omega⟩
  have S0 := S
  obtain ⟨⟨fi, W⟩, hl⟩ := S0
  obtain ⟨w, l⟩ := σ
  cases hl
  have hnb : NB (k + 1) = 3 + 2 * NB k := rfl
  have hw8 : ((["host", "row"] : List Str).zip [V.w 3, .lst (a.map (arH P))] ++ workE P i).lookup ("world" : Str) = some (.w 8) := rfl
  have hat : ((["host", "row"] : List Str).zip [V.w 3, .lst (a.map (arH P))] ++ workE P i).lookup ("at" : Str) = some (.int i) := rfl
  refine ss_cons <| s_expr <| e_append <| e_wkey F W (hx := hw8) (hf := by rfl) rfl ⟨⟨_, W.notes⟩, as_cons <| e_tup <| as_cons <| e_free hat (by rfl) <| as_cons <| e_len (g.blt (v := .builtin "len")) (by rfl) (hv := by decide +kernel) <| e_la g W.host rfl ⟨st, by omega, .inl ⟨_, W.lst, frsAt_len _ _⟩, as_cons <| e_la g W.host rfl <| as_cons <|
    e_comp rfl rfl g.said rfl rfl rfl (g.gl' (by decide +kernel)) (by rfl) (by rfl) (by decide +kernel) (by decide +kernel) (by decide +kernel) <| e_local (v := .lst (a.map (arH P))) (by rfl) (by rfl) ⟨_, rfl, ?_, ?_, ce_said g (arH P) arM arM_lf a [] (fun x hx K X q => c_said_ar g x (pl x hx) q) ?_⟩⟩⟩
  · intro v hv
    obtain ⟨x, _, rfl⟩ := List.mem_map.mp hv
    exact arH_lf P x
  · rw [List.length_map]; omega
  refine as_nil ⟨(show 4 ≤ 1000 by decide), as_nil ⟨_, _, rfl, W.notes, by show s.notes.length ≤ _; omega, ?_⟩⟩
  have S2 := S.addN (v := noteIn i st (base + 8 * st) a) noteIn_lf
  refine ss_cons <| s_set (by rfl) <| e_list0f ?_
  have m0 : WM P i (.lst (([] : List Rs).map (rsH P))) (("found", .lst []) :: ((["host", "row"] : List Str).zip [V.w 3, .lst (a.map (arH P))] ++ workE P i)) := ⟨rfl, rfl, rfl, rfl, rfl⟩
  have hlen := hP.len i
  have hmul : (P.deeds i).length * (NB k + 1) ≤ 2 * (NB k + 1) := Nat.mul_le_mul_right _ hlen
  refine ss_cons <| s_forl rfl (.inr ⟨_, _, _, rfl⟩) <| e_free (v := deedsV (P.deeds i)) (by rfl) (by rfl) ⟨_, rfl, ?_, work_loop g F hP hc (d := d + 1) hst (by omega) (P.deeds i) [] _ _ _ ?_ m0 S2 ?_ (by decide) (fun f' s' σ' m' e hf' m1 S' => ?_) fun e s' σ' m' q S' => ?_⟩
  · intro x hx
    obtain ⟨p, _, rfl⟩ := List.mem_map.mp hx
    exact .tup fun y hy => by
      simp only [List.mem_cons, List.not_mem_nil, or_false] at hy
      rcases hy with rfl | rfl <;> exact .int
  · intro p hp
    have h1 := hP.wf hik p hp
    refine ⟨h1.1, ?_, h1.2.2⟩
    cases i with
    | zero => have := (hP.zero p hp).2; omega
    | succ i => have := (hP.succ _ (Nat.succ_pos i) p hp).2; omega
  · simp only [List.length_append, List.length_singleton]; omega
  · rw [e] at hK hX
    have S1 := S'
    obtain ⟨⟨fi', W'⟩, hl'⟩ := S1
    by_cases q : P.last i < 2
    · refine ss_cons <| s_if <| b_cmpb .lt <| e_free m1.last (by rfl) <| e_int ⟨_, _, true, rfl, rfl, decide_eq_true (by omega), ?_⟩
      refine ss_cons <| s_err g rfl rfl (by rfl) <| e_item <| e_list <| as_cons <| e_bin .add <| e_int <| e_la g W'.host rfl (hx := m1.host) ⟨_, _, rfl, rfl, as_cons <| e_item <| e_wkey F W' (hx := m1.world) (hf := by rfl) rfl <| e_int ⟨_, _, _, rfl, F.l7 W', by decide, by decide, at3 (l := 0) _ (by decide), as_nil ⟨(show 2 ≤ 1000 by decide), e_free m1.last (by rfl) ⟨_, _, _, rfl, rfl, by omega, by omega, last_at P _ q, rsH_lf P _, ?_⟩⟩⟩⟩
      refine hX _ s' ?_ σ' (S'.bs (by omega))
      simp only [fin]; rw [if_pos q]
    · refine ss_cons <| s_if <| b_cmpb .lt <| e_free m1.last (by rfl) <| e_int ⟨_, _, false, rfl, rfl, decide_eq_false (by omega), ss_nil <| ss_cons <| s_ret <| e_addl <| e_list <| as_cons <| e_bin .add <| e_int <| e_free m1.at_ (by rfl) ⟨_, _, rfl, rfl, as_nil ⟨(show 1 ≤ 1000 by decide), e_upto <| e_local m1.found (by rfl) <| e_int ⟨_, _, rfl, rfl, by decide, by rw [List.length_map]; omega, _, _, rfl, rfl, ?_, ?_⟩⟩⟩⟩
      · simp only [List.length_cons, List.length_nil, List.length_take, List.length_map]; omega
      · have := hK (.i (10 + i) :: f'.take 3) s' (by simp only [fin]; rw [if_neg q]) σ' S'
        rw [List.map_cons, List.map_take] at this
        exact this
  · rw [q] at hX
    exact hX e s' rfl σ' S'
end
end Mine
end
section
open PySem PySem.W PyProof.Rows PySem.Calls PySem.Spec PySem.SeqAt
set_option maxRecDepth 10000
namespace Mine
section
variable {G : Gd} {fx : Nat → Option Cell} {base most : Int} {P : Plans}
noncomputable abbrev Hst (G : Gd) (fx : Nat → Option Cell) (base most : Int) (P : Plans) (k : Nat) : Prop := ∀ i a, i < k → (∀ x ∈ a, plainA x) → a.length ≤ 6 → CallK G fx base most P (runLv base most P k i a) (8 + 30 * k) (NB k) fd_call_host ["self", "function", "args"] [.w 3, fnV P i, .lst (a.map (arH P))]
theorem fnV_inst (P i) (σ : AS) : instOf σ (fnV P i) = some (cBuiltin, ([("number", .int (-10 - i)), ("name", .byt #[102]), ("work", .clo fd_work (workE P i))] : List (Str × V))) := rfl
theorem host_fn (g : Gr G) (F : Fx P fx) (hP : P.Ok) (hb : 0 ≤ base) {k : Nat} (hk : k < 3) (hc : Lvl G fx base most P k) : Hst G fx base most P (k + 1) := by
  intro i a hi pl ha σ st s d K X S hst hd hN hK hX
  obtain ⟨d, rfl⟩ : ∃ e, d = e + 4 := ⟨d - 4, by omega⟩
  refine c_call_host g S hst hb (fnV_lf P i) (fun v hv => ?_) (fun q σ' S' => ?_) (fun q q' σ' S' => ?_) fun q q' m σ1 h1 h2 h3 S1 => ?_
  · obtain ⟨x, _, rfl⟩ := List.mem_map.mp hv
    exact arH_lf P x
  · exact hX .many _ (by simp only [runLv]; rw [if_pos q]) _ (S'.bs (by omega))
  · exact hX .over _ (by simp only [runLv]; rw [if_neg q, if_pos q']) _ S'
  · have e0 : runLv base most P (k + 1) i a st s = fin i (P.last i) (runDeeds (fun t a s => runC base most (runLv base most P k) t a (st + 1) s) (noteOut i (st + 1) (base + 8 * ((st + 1 : Nat) : Int))) (P.deeds i) [] { steps := s.steps + 1, notes := s.notes ++ [noteIn i (st + 1) (base + 8 * ((st + 1 : Nat) : Int)) a] }) := by
      simp only [runLv]; rw [if_neg q, if_neg q']; rfl
    refine e_fldclo (cloK_work P i) rfl (e_local (v := fnV P i) h2 (by rfl) ⟨⟨_, _, fnV_inst P i σ1, g.at' (by decide +kernel), rfl⟩, as_cons (e_local (v := .w 3) h1 (by rfl) (as_cons (e_local (v := .lst (a.map (arH P))) h3 (by rfl) (as_nil ⟨rfl, work_run g F hP hc (st := st + 1) (by omega) (by omega) (by omega) (by omega) pl ha S1 hN (fun r s' e σ' S' => ?_) fun e s' e' σ' S' => ?_⟩))))⟩)
    · exact ⟨s', S', fun σ3 S3 => hK r s' (e0.trans e) σ3 S3⟩
    · exact hX e s' (e0.trans e') σ' S'.down
theorem CallB.mono {R R' : Nat → Sp → Out × Sp} {D D' N fd xs vs B} (h : CallB G fx base most P R D N fd xs vs B) (hD : D ≤ D') (e : ∀ st s, R' st s = R st s) : CallB G fx base most P R' D' N fd xs vs B := fun σ st s d K X S hst hd hN hK hX =>
  h S hst (Nat.le_trans hD hd) hN (fun r s' q => hK r s' ((e st s).trans q)) fun x s' q => hX x s' ((e st s).trans q)
theorem ar_lf (P : Plans) (a : List Ar) : ∀ v ∈ a.map (arH P), LF v := fun v hv => by
  obtain ⟨x, _, rfl⟩ := List.mem_map.mp hv
  exact arH_lf P x
theorem lvl_of (g : Gr G) (hb : 0 ≤ base) {k : Nat} (hf : Hst G fx base most P k) : Lvl G fx base most P k := by
  intro t a
  induction a generalizing t with
  | nil =>
    intro hw
    cases hw with
    | no => exact (call_no g).mono (by omega) fun _ _ => rfl
    | fn hi pl => exact (call_bui g (fnV_inst P _) (hf _ _ hi pl (by simp))).mono (by omega) fun _ _ => rfl
    | tb hi pl => exact (call_tab g (by simp) (by omega) (call_bui g (fnV_inst P _) (hf _ (.th (.tb _) :: []) hi (fun x hx => by rw [List.mem_singleton.mp hx]; trivial) (by simp)))).mono (by omega) fun _ _ => rfl
    | pc0 =>
      refine (call_bui g pcV_inst (host_pc (R := fun _ s => (.err (.tx true), s)) (D := 5) g hb (ar_lf P []) (fun _ _ _ h S => S.bs (by omega)) (fun _ _ _ _ S => S) (fun _ _ _ _ _ _ _ _ S => S) (fun st s q => ?_) (fun st s q q' => ?_) (fun st s q q' => ?_) fun σ st s d K X S hst hd hN hK hX => ?_)).mono (by omega) fun _ _ => rfl
      · simp only [runC]; rw [if_pos q]
      · simp only [runC]; rw [if_neg q, if_pos q']
      · simp only [runC]; rw [if_neg q, if_neg q']
      · obtain ⟨d, rfl⟩ : ∃ e, d = e + 5 := ⟨d - 5, by omega⟩
        have S0 := S
        obtain ⟨⟨fi, W⟩, hl⟩ := S0
        exact ss_cons (s_expr (e_call g.need (g.gl' (by decide +kernel)) (by rfl) rfl (as_cons (e_local (v := .w 3) (by rfl) (by rfl) (as_cons (e_byt (as_cons (e_local (v := .lst []) (by rfl) (by rfl) (as_cons (e_int (as_nil ⟨rfl, c_need0 (d := d) g W hl (frsAt_ok (by omega)) (hX _ _ rfl _ (S.bs (by omega)))⟩)))))))))))
  | cons x r ih =>
    intro hw
    cases hw with
    | no => exact (call_no g).mono (by omega) fun _ _ => rfl
    | fn hi pl hl => exact (call_bui g (fnV_inst P _) (hf _ _ hi pl (by omega))).mono (by omega) fun _ _ => rfl
    | tb hi pl hl => exact (call_tab g (by rw [List.length_map]; omega) (by omega) (call_bui g (fnV_inst P _) (hf _ (.th (.tb _) :: x :: r) hi (fun y hy => by
        rcases List.mem_cons.mp hy with rfl | hy
        · trivial
        · exact pl y hy) (by simp only [List.length_cons] at hl ⊢; omega)))).mono (by omega) fun _ _ => rfl
    | @pc t' _ hw' hl =>
      have IH := ih t' hw'
      refine (call_bui g pcV_inst (host_pc (R := fun st s => wrap (runC base most (runLv base most P k) t' r st s)) (D := 13 + 8 * r.length + 30 * k) g hb (ar_lf P (.th t' :: r)) (fun _ _ _ h S => S.bs (by omega)) (fun _ _ _ _ S => S) (fun _ _ _ _ _ _ _ _ S => S) (fun st s q => ?_) (fun st s q q' => ?_) (fun st s q q' => ?_) fun σ st s d K X S hst hd hN hK hX => ?_)).mono (by rw [List.length_cons]; omega) fun _ _ => rfl
      · simp only [runC]; rw [if_pos q]
      · simp only [runC]; rw [if_neg q, if_pos q']
      · simp only [runC]; rw [if_neg q, if_neg q']
      · obtain ⟨d, rfl⟩ : ∃ e, d = e + 1 := ⟨d - 1, by omega⟩
        refine pcall_run g IH hl (fun st s f s' e => ?_) S hst (by omega) hN (fun f s' e σ' S' => hK (.b true :: f) s' (by rw [e]; rfl) σ' S') fun e s' q σ' S' => hK [.b false, e] s' (by rw [q]; rfl) σ' S'
        have := runC_len (base := base) (most := most) (F := runLv base most P k) (runLv_len k) r t' st s f s' e
        omega
theorem top_call (g : Gr G) (hb : 0 ≤ base) {k : Nat} (hc : Lvl G fx base most P k) {t : Th} {r : List Ar} (hw : Wf k t r) (hr5 : r.length ≤ 5) :
    CallB G fx base most P (runC base most (runLv base most P k) .pc (.th t :: r)) (19 + 8 * r.length + 30 * k) (NB k) fd_call xCall (vCall P .pc (.th t :: r)) (fun st s σ => base + 8 * ((st : Int) + 1) ≤ 820 → GS fx base most st s σ) := by
  have IH := hc t r hw
  have := call_bui (P := P) (N := NB k) g (B := fun st s σ => base + 8 * ((st : Int) + 1) ≤ 820 → GS fx base most st s σ) pcV_inst (host_pc (R' := runC base most (runLv base most P k) .pc (.th t :: r)) (R := fun st s => wrap (runC base most (runLv base most P k) t r st s)) (D := 13 + 8 * r.length + 30 * k) g hb (ar_lf P (.th t :: r)) (fun _ _ _ _ S _ => S) (fun _ _ _ q _ q' => absurd q (by omega)) (fun st s e s' q => ?_) (fun st s q => ?_) (fun st s q q' => ?_) (fun st s q q' => ?_) fun σ st s d K X S hst hd hN hK hX => ?_)
  · intro σ st s d K X S hst hd hN hK hX
    exact this S hst (by omega) hN hK hX
  · revert q
    cases runC base most (runLv base most P k) t r st s with
    | mk o s2 => cases o <;> exact fun q => by cases q
  · simp only [runC]; rw [if_pos q]
  · simp only [runC]; rw [if_neg q, if_pos q']
  · simp only [runC]; rw [if_neg q, if_neg q']
  · obtain ⟨d, rfl⟩ : ∃ e, d = e + 1 := ⟨d - 1, by omega⟩
    refine pcall_run g IH hr5 (fun st s f s' e => ?_) S hst (by omega) hN (fun f s' e σ' S' => hK (.b true :: f) s' (by rw [e]; rfl) σ' S') fun e s' q σ' S' => hK [.b false, e] s' (by rw [q]; rfl) σ' S'
    have := runC_len (base := base) (most := most) (F := runLv base most P k) (runLv_len k) r t st s f s' e
    omega
theorem lvl_all (g : Gr G) (F : Fx P fx) (hP : P.Ok) (hb : 0 ≤ base) : ∀ k, k ≤ 3 → Lvl G fx base most P k
  | 0, _ => lvl_of g hb fun i a hi => absurd hi (Nat.not_lt_zero i)
  | k + 1, h => lvl_of g hb (host_fn g F hP hb (by omega) (lvl_all g F hP hb k (by omega)))
end
end Mine
end
section
open PySem PySem.W PyProof.Rows PySem.Calls PySem.Spec PySem.SeqAt
set_option maxRecDepth 10000
namespace Mine
noncomputable def stE (P : Plans) (base most steps : Int) : List (Str × V) := [("plans", plansV P), ("notes", .w 9), ("base", .int base), ("most", .int most), ("steps", .int steps)]
noncomputable def MSt (w0 : List Cell) (P : Plans) (base most : Int) (s : Sp) : AS := ⟨(w0.set 9 (.list s.notes)).set 10 (.map (stE P base most s.steps)), []⟩
section
variable {w0 : List Cell} {P : Plans} {base most : Int} {s : Sp}
theorem mst_10 (h : 11 ≤ w0.length) : cellOf (MSt w0 P base most s) (.w 10) = some (.map (stE P base most s.steps)) := by
  show ((w0.set 9 _).set 10 _)[10]? = _
  rw [List.getElem?_set_self (by rw [List.length_set]; omega)]
theorem mst_9 (h : 11 ≤ w0.length) : cellOf (MSt w0 P base most s) (.w 9) = some (.list s.notes) := by
  show ((w0.set 9 _).set 10 _)[9]? = _
  rw [List.getElem?_set_ne (by decide), List.getElem?_set_self (by omega)]
theorem mst_p10 (n : Int) : putCell (MSt w0 P base most s) (.w 10) (.map (putA "steps" (.int n) (stE P base most s.steps))) = MSt w0 P base most { s with steps := n } := by
  show (⟨((w0.set 9 _).set 10 _).set 10 _, []⟩ : AS) = ⟨_, []⟩
  rw [List.set_set]
  rfl
theorem mst_p9 (ns : List V) : putCell (MSt w0 P base most s) (.w 9) (.list ns) = MSt w0 P base most { s with notes := ns } := by
  show (⟨((w0.set 9 _).set 10 _).set 9 _, []⟩ : AS) = ⟨_, []⟩
  rw [List.set_comm _ _ (show 10 ≠ 9 by decide), List.set_set]
end
noncomputable def outM : Out → V
  | .ok r => .tup [.bool true, .lst (r.map rsM)]
  | .err e => .tup [.bool false, rsM e]
noncomputable def xM : List Str := ["state", "thing", "args", "standing"]
section
variable {G : Gd} {w0 : List Cell} {P : Plans} {base most : Int} {d : Nat} {K X : V → AS → Prop}
theorem e_mkey {c : Cx} {m : Loc} {s : Sp} {K : V → AS → Prop} {X : V → AS → Prop} {px kk kp pos k u} (h11 : 11 ≤ w0.length) (hk : (stE P base most s.steps).lookup k = some u) (h : K u (MSt w0 P base most s)) (hx : m.lookup ("state" : Str) = some (.w 10) := by rfl) (hf : c.scope.names.lookup ("state" : Str) = some .local := by rfl) :
    AE G c (.Subscript (.Name "state" px) (.Constant (.str k) kk kp) pos) m (MSt w0 P base most s) K X :=
  e_key (e_local hx hf (e_str ⟨k, _, u, rfl, mst_10 h11, hk, h⟩))
theorem mul8 {n : Nat} (h : n ≤ 1000) : IntMulOk 8 ((n : Int) + 1) := .of_le (m := 64) (n := 64) (intBits_le_iff.mpr (by decide)) (intBits_le_iff.mpr (by show ((n : Int) + 1).natAbs < 18446744073709551616; omega)) (by decide)
theorem known_at (b : Bool) : [V.byt bMany, .byt bOver][((if b = true then 1 else 0 : Int)).toNat]? = some (.byt (if b = true then bOver else bMany)) := by cases b <;> rfl
theorem meant_head (g : Gr G) (h11 : 11 ≤ w0.length) {v : V} {t} (h1 : ∀ c σ, CV G c σ .Eq v (.str "none") false) (h2 : ∀ σ, tyV G.K σ v = some t) (h3 : (t, .type "tuple", false) ∈ kits) {args : List V} {st : Nat} {s : Sp} (hst : st ≤ 103)
    (hm : s.steps + 1 > most → K (outM (.err .many)) (MSt w0 P base most { s with steps := s.steps + 1 })) (ho : ¬s.steps + 1 > most → base + 8 * ((st : Int) + 1) > 820 → K (outM (.err .over)) (MSt w0 P base most { s with steps := s.steps + 1 }))
    (hr : ¬s.steps + 1 > most → ¬base + 8 * ((st : Int) + 1) > 820 → SS G ⟨fd_meant.qual, fd_meant.scope, 0, d, true, none⟩ (fd_meant.body.drop 5) (("deep", .int (base + 8 * ((st : Int) + 1))) :: xM.zip [.w 10, v, .lst args, .int st]) (MSt w0 P base most { s with steps := s.steps + 1 }) (fun fl _ σ' => K (fv fl) σ') (fun v _ σ' => X v σ')) :
    FT G fd_meant xM [.w 10, v, .lst args, .int st] (MSt w0 P base most s) d true K X := by
  refine ss_cons <| s_if <| b_cv <| e_local (v := v) (by rfl) (by rfl) <| e_str ⟨false, h1 _ _, ss_nil ?_⟩
  refine ss_cons <| s_if <| b_isi g (by rfl) (fun q => e_local (v := v) (by rfl) (by rfl) q) (fun q => e_blt (v := .type "tuple") (g.blt (v := .type "tuple")) (by decide +kernel) (by rfl) q) (h2 _) h3 (ss_nil ?_)
  refine ss_cons <| s_setkey <| e_bin .add <| e_mkey h11 rfl <| e_int ⟨_, _, rfl, rfl, e_local (v := .w 10) (by rfl) (by rfl) <| e_str ⟨_, _, rfl, mst_10 h11, by show 5 < 1000; decide, ?_⟩⟩
  rw [mst_p10]
  obtain ⟨t8, hc8⟩ := g.hcall
  obtain ⟨tm, hmd⟩ := g.deep
  refine ss_cons <| s_set (by rfl) <| e_bin .add <| e_mkey h11 rfl <| e_mul <| e_glob hc8 (by rfl) rfl <| e_bin .add <| e_local (v := .int st) (by rfl) (by rfl) <| e_int ⟨_, _, rfl, rfl, _, _, rfl, rfl, mul8 (by omega), _, _, rfl, rfl, ?_⟩
  have hret : ∀ b : Bool, decide (s.steps + 1 ≤ most) = b → K (.tup [.bool false, .byt (if b = true then bOver else bMany)]) (MSt w0 P base most { s with steps := s.steps + 1 }) →
      SS G ⟨fd_meant.qual, fd_meant.scope, 0, d, true, none⟩ (match nthS fd_meant.body 4 with | .If _ b _ _ => b | _ => []) (("deep", .int (base + 8 * ((st : Int) + 1))) :: xM.zip [.w 10, v, .lst args, .int st]) (MSt w0 P base most { s with steps := s.steps + 1 }) (fun fl m1 σ1 => match fl with | .next => SS G ⟨fd_meant.qual, fd_meant.scope, 0, d, true, none⟩ (fd_meant.body.drop 5) m1 σ1 (fun fl _ σ' => K (fv fl) σ') (fun v _ σ' => X v σ') | fl => K (fv fl) σ1) (fun v _ σ' => X v σ') := fun b hb hk => by
    obtain ⟨a, n, t, u, k3, k4⟩ := g.known
    exact ss_cons <| s_ret <| e_tup <| as_cons <| e_bool <| as_cons <| e_titem <| e_globtup (bs := [bMany, bOver]) (ts := [t, u]) k3 k4 rfl (by rfl) <| e_intb (hv := by decide +kernel) (g.blt (v := .type "int")) (by rfl) <| e_cmp .le <| e_mkey h11 rfl <| e_mkey h11 rfl ⟨_, _, rfl, rfl, b, by rw [← hb], _, _, _, rfl, rfl, by cases b <;> decide, by cases b <;> decide, known_at b, as_nil ⟨(show 2 ≤ 1000 by decide), hk⟩⟩
  by_cases q1 : s.steps + 1 > most
  · refine ss_cons <| s_if <| b_or <| b_cmpb .gt <| e_mkey h11 rfl <| e_mkey h11 rfl ⟨_, _, true, rfl, rfl, decide_eq_true q1, hret false (decide_eq_false (by omega)) (hm q1)⟩
  by_cases q2 : base + 8 * ((st : Int) + 1) > 820
  · refine ss_cons <| s_if <| b_or <| b_cmpb .gt <| e_mkey h11 rfl <| e_mkey h11 rfl ⟨_, _, false, rfl, rfl, decide_eq_false q1, b_or <| b_cmpb .gt <| e_local (v := .int (base + 8 * ((st : Int) + 1))) (by rfl) (by rfl) <| e_glob hmd (by rfl) rfl ⟨_, _, true, rfl, rfl, decide_eq_true q2, hret true (decide_eq_true (by omega)) (ho q1 q2)⟩⟩
  · refine ss_cons <| s_if <| b_or <| b_cmpb .gt <| e_mkey h11 rfl <| e_mkey h11 rfl ⟨_, _, false, rfl, rfl, decide_eq_false q1, b_or <| b_cmpb .gt <| e_local (v := .int (base + 8 * ((st : Int) + 1))) (by rfl) (by rfl) <| e_glob hmd (by rfl) rfl ⟨_, _, false, rfl, rfl, decide_eq_false q2, b_or0 <| ss_nil (hr q1 q2)⟩⟩
end
end Mine
end
section
open PySem PySem.W PyProof.Rows PySem.Calls PySem.Spec PySem.SeqAt
set_option maxRecDepth 10000
namespace Mine
section
variable {G : Gd} {w0 : List Cell} {P : Plans} {base most : Int}
noncomputable def MeantK (G : Gd) (w0 : List Cell) (P : Plans) (base most : Int) (R : Nat → Sp → Out × Sp) (D N : Nat) (v : V) (args : List V) : Prop :=
  ∀ ⦃st : Nat⦄ ⦃s : Sp⦄ ⦃d : Nat⦄ ⦃K X : V → AS → Prop⦄, st ≤ 103 → D ≤ d → s.notes.length + N ≤ 100000 → (∀ o s', R st s = (o, s') → K (outM o) (MSt w0 P base most s')) → FT G fd_meant xM [.w 10, v, .lst args, .int st] (MSt w0 P base most s) d true K X
theorem MeantK.mono {R R' : Nat → Sp → Out × Sp} {D D' N v args} (h : MeantK G w0 P base most R D N v args) (hD : D ≤ D') (e : ∀ st s, R' st s = R st s) : MeantK G w0 P base most R' D' N v args := fun st s d K X hst hd hN hK =>
  h hst (Nat.le_trans hD hd) hN fun o s' q => hK o s' ((e st s).trans q)
theorem cv_str {c : Cx} {σ : AS} {x y : Str} {b} (h : (x == y) = b) : CV G c σ .Eq (.str x) (.str y) b := h ▸ cv_seq
theorem meant_no (g : Gr G) {N args} : MeantK G w0 P base most (fun _ s => (.err (.tx false), s)) 0 N (thM .no) args := fun st s d K X _ _ _ hK =>
  ss_cons <| s_if <| b_cv <| e_local (v := .str "none") (by rfl) (by rfl) <| e_str ⟨true, cv_str (by decide), ss_cons <| s_ret <| e_tup <| as_cons <| e_bool <| as_cons <| e_byt <| as_nil ⟨(show 2 ≤ 1000 by decide), hK _ _ rfl⟩⟩
theorem meant_tb (g : Gr G) {R D N} {i : Nat} {args : List V} (ha : args.length ≤ 1000) (h : MeantK G w0 P base most R D N (.int i) (thM (.tb i) :: args)) : MeantK G w0 P base most R (D + 1) N (thM (.tb i)) args := fun st s d K X hst hd hN hK => by
  obtain ⟨d, rfl⟩ : ∃ e, d = e + 1 := ⟨d - 1, by omega⟩
  refine ss_cons <| s_if <| b_cv <| e_local (v := thM (.tb i)) (by rfl) (by rfl) <| e_str ⟨false, cv_tups, ss_nil ?_⟩
  refine ss_cons <| s_if <| b_isi g (by rfl) (fun q => e_local (v := thM (.tb i)) (by rfl) (by rfl) q) (fun q => e_blt (v := .type "tuple") (g.blt (v := .type "tuple")) (by decide +kernel) (by rfl) q) (t := .type "tuple") rfl (b := true) (by decide +kernel) ?_
  refine ss_cons <| s_ret <| e_call g.meant (g.gl' (by decide +kernel)) (by rfl) rfl <| as_cons <| e_local (v := .w 10) (by rfl) (by rfl) <| as_cons <| e_bin .sub <| e_neg <| e_int ⟨30, rfl, e_titem <| e_local (v := thM (.tb i)) (by rfl) (by rfl) <| e_int ⟨1, _, _, rfl, rfl, by decide, by decide, rfl, _, _, rfl, rfl,
    as_cons <| e_addl <| e_list <| as_cons <| e_local (v := thM (.tb i)) (by rfl) (by rfl) <| as_nil ⟨(show 1 ≤ 1000 by decide), e_local (v := .lst args) (by rfl) (by rfl) ⟨_, _, rfl, rfl, by simp only [List.length_cons, List.length_nil]; omega, as_cons <| e_local (v := .int st) (by rfl) (by rfl) <| as_nil ⟨rfl, ?_⟩⟩⟩⟩⟩
  have e : (-30 - (-30 - (i : Int)) : Int) = i := by omega
  show FT G fd_meant xM [.w 10, .int (-30 - (-30 - (i : Int))), .lst (thM (.tb i) :: args), .int st] _ d true K X
  rw [e]
  exact h hst (by omega) hN hK
theorem meant_pc0 (g : Gr G) (h11 : 11 ≤ w0.length) {R N} (hm : ∀ (st : Nat) (s : Sp), s.steps + 1 > most → R st s = (.err .many, { s with steps := s.steps + 1 })) (ho : ∀ (st : Nat) (s : Sp), ¬s.steps + 1 > most → base + 8 * ((st : Int) + 1) > 820 → R st s = (.err .over, { s with steps := s.steps + 1 }))
    (hr : ∀ (st : Nat) (s : Sp), ¬s.steps + 1 > most → ¬base + 8 * ((st : Int) + 1) > 820 → R st s = (.err (.tx true), { s with steps := s.steps + 1 })) : MeantK G w0 P base most R 0 N (thM .pc) [] := fun st s d K X hst hd hN hK => by
  refine meant_head g h11 (fun _ _ => cv_str (by decide)) (t := .type "str") (fun _ => rfl) (by decide +kernel) hst (fun q => hK _ _ (hm _ _ q)) (fun q q' => hK _ _ (ho _ _ q q')) fun q q' => ?_
  exact ss_cons <| s_if <| b_cv <| e_local (v := thM .pc) (by rfl) (by rfl) <| e_str ⟨true, cv_str (by decide), ss_cons <| s_if <| b_cv <| e_local (v := .lst []) (by rfl) (by rfl) <| e_list0f ⟨true, cv_lnil (xs := []) rfl, ss_cons <| s_ret <| e_tup <| as_cons <| e_bool <| as_cons <| e_byt <| as_nil ⟨(show 2 ≤ 1000 by decide), hK _ _ (hr _ _ q q')⟩⟩⟩
theorem meant_pc (g : Gr G) (h11 : 11 ≤ w0.length) (hb : 0 ≤ base) {R R1 : Nat → Sp → Out × Sp} {D N} {v : V} {r : List V} (hr5 : r.length ≤ 5) (IH : MeantK G w0 P base most R1 D N v r) (hlen : ∀ st s f s', R1 st s = (.ok f, s') → f.length ≤ 50)
    (hm : ∀ (st : Nat) (s : Sp), s.steps + 1 > most → R st s = (.err .many, { s with steps := s.steps + 1 })) (ho : ∀ (st : Nat) (s : Sp), ¬s.steps + 1 > most → base + 8 * ((st : Int) + 1) > 820 → R st s = (.err .over, { s with steps := s.steps + 1 }))
    (hr : ∀ (st : Nat) (s : Sp), ¬s.steps + 1 > most → ¬base + 8 * ((st : Int) + 1) > 820 → R st s = wrap (R1 (st + 1) { s with steps := s.steps + 1 })) : MeantK G w0 P base most R (D + 1) N (thM .pc) (v :: r) := fun st s d K X hst hd hN hK => by
  obtain ⟨d, rfl⟩ : ∃ e, d = e + 1 := ⟨d - 1, by omega⟩
  refine meant_head g h11 (fun _ _ => cv_str (by decide)) (t := .type "str") (fun _ => rfl) (by decide +kernel) hst (fun q => hK _ _ (hm _ _ q)) (fun q q' => hK _ _ (ho _ _ q q')) fun q q' => ?_
  refine ss_cons <| s_if <| b_cv <| e_local (v := thM .pc) (by rfl) (by rfl) <| e_str ⟨true, cv_str (by decide), ss_cons <| s_if <| b_cv <| e_local (v := .lst (v :: r)) (by rfl) (by rfl) <| e_list0f ⟨false, cv_lnil (xs := v :: r) rfl, ss_nil ?_⟩⟩
  refine ss_cons <| s_tup <| e_call g.meant (g.gl' (by decide +kernel)) (by rfl) rfl <| as_cons <| e_local (v := .w 10) (by rfl) (by rfl) <| as_cons <| e_item <| e_local (v := .lst (v :: r)) (by rfl) (by rfl) <| e_int ⟨0, _, v, rfl, rfl, by decide, by decide, rfl, as_cons <| e_from <| e_local (v := .lst (v :: r)) (by rfl) (by rfl) <| e_int ⟨1, _, rfl, rfl, by decide, by simp only [List.length_cons]; omega,
    as_cons <| e_bin .add <| e_local (v := .int st) (by rfl) (by rfl) <| e_int ⟨_, _, rfl, rfl, as_nil ⟨rfl, IH (st := st + 1) (by omega) (by omega) hN fun o s' e => ?_⟩⟩⟩⟩
  cases o with
  | ok f =>
    have hf := hlen _ _ _ _ e
    refine ta_tup (ta_loc (by rfl) (ta_loc (by rfl) ?_)) (fun u hu => ?_) rfl rfl (fun env => by rfl)
    · exact ss_cons <| s_ret <| e_tup <| as_cons <| e_bool <| as_cons <| e_ite <| b_val (e_local (v := .bool true) (by rfl) (by rfl) ⟨true, rfl, e_addl <| e_list <| as_cons <| e_bool <| as_nil ⟨(show 1 ≤ 1000 by decide), e_local (v := .lst (f.map rsM)) (by rfl) (by rfl) ⟨_, _, rfl, rfl, by simp only [List.length_cons, List.length_nil, List.length_map]; omega, as_nil ⟨(show 2 ≤ 1000 by decide), hK (.ok (.b true :: f)) s' (by rw [hr _ _ q q', e]; rfl)⟩⟩⟩⟩)
    · simp only [List.mem_cons, List.not_mem_nil, or_false] at hu
      rcases hu with rfl | rfl
      · exact .bool
      · exact .lst fun y hy => by
          obtain ⟨x, _, rfl⟩ := List.mem_map.mp hy
          exact rsM_lf x
  | err x =>
    refine ta_tup (ta_loc (by rfl) (ta_loc (by rfl) ?_)) (fun u hu => ?_) rfl rfl (fun env => by rfl)
    · exact ss_cons <| s_ret <| e_tup <| as_cons <| e_bool <| as_cons <| e_ite <| b_val (e_local (v := .bool false) (by rfl) (by rfl) ⟨false, rfl, e_list <| as_cons <| e_bool <| as_cons <| e_local (v := rsM x) (by rfl) (by rfl) <| as_nil ⟨(show 2 ≤ 1000 by decide), as_nil ⟨(show 2 ≤ 1000 by decide), hK (.ok [.b false, x]) s' (by rw [hr _ _ q q', e]; rfl)⟩⟩⟩)
    · simp only [List.mem_cons, List.not_mem_nil, or_false] at hu
      rcases hu with rfl | rfl
      · exact .bool
      · exact rsM_lf x
end
end Mine
end
section
open PySem PySem.W PyProof.Rows PySem.Calls PySem.Spec PySem.SeqAt
set_option maxRecDepth 10000
namespace Mine
structure MM (P : Plans) (i st : Nat) (deep : Int) (f : V) (m : Loc) : Prop where
  state : m.lookup ("state" : Str) = some (.w 10)
  thing : m.lookup ("thing" : Str) = some (.int i)
  standing : m.lookup ("standing" : Str) = some (.int st)
  deep : m.lookup ("deep" : Str) = some (.int deep)
  last : m.lookup ("last" : Str) = some (.int (P.last i))
  found : m.lookup ("found" : Str) = some f
theorem MM.push {P i st deep f m y v} (h : MM P i st deep f m) (hy : (([("state" : Str), "thing", "standing", "deep", "last", "found"]).all fun x => !(x == y)) = true := by decide) : MM P i st deep f ((y, v) :: m) := by
  simp only [List.all_cons, List.all_nil, Bool.and_true, Bool.and_eq_true, Bool.not_eq_true'] at hy
  exact ⟨look_cons h.state hy.1, look_cons h.thing hy.2.1, look_cons h.standing hy.2.2.1, look_cons h.deep hy.2.2.2.1, look_cons h.last hy.2.2.2.2.1, look_cons h.found hy.2.2.2.2.2⟩
theorem MM.setF {P i st deep f m f'} (h : MM P i st deep f m) : MM P i st deep f' (("found", f') :: m) :=
  ⟨look_cons h.state (by decide), look_cons h.thing (by decide), look_cons h.standing (by decide), look_cons h.deep (by decide), look_cons h.last (by decide), rfl⟩
noncomputable def meantTgt : Expr := match nthS fd_meant.body 9 with | .For t _ _ _ _ => t | _ => .Constant .none 0 ⟨0, 0, 0, 0⟩
noncomputable def meantFor : List Stmt := match nthS fd_meant.body 9 with | .For _ _ b _ _ => b | _ => []
noncomputable abbrev mtC (d : Nat) : Cx := ⟨fd_meant.qual, fd_meant.scope, 0, d, true, none⟩
theorem coM_callOf (w l : Nat) : coV w (.int l) (thM (.tb l)) (thM .pc) (thM .no) = (thM (callOf w l).1, (callOf w l).2.map arM) := by
  unfold coV callOf
  split
  · rfl
  split
  · rfl
  split
  · rfl
  split
  · rfl
  · show (_, [_, _]) = (_, [_, _])
    split
    · rfl
    split <;> rfl
theorem thM_lf (t) : LF (thM t) := arM_lf (.th t)
theorem outM_lf2 (o : Out) : ∃ b x, outM o = .tup [.bool b, x] ∧ LF x := by
  cases o with
  | ok f =>
    exact ⟨true, _, rfl, .lst fun y hy => by
      obtain ⟨x, _, rfl⟩ := List.mem_map.mp hy
      exact rsM_lf x⟩
  | err e => exact ⟨false, _, rfl, rsM_lf e⟩
theorem lf2 {b : Bool} {x : V} (h : LF x) : ∀ v ∈ [V.bool b, x], LF v := fun v hv => by
  simp only [List.mem_cons, List.not_mem_nil, or_false] at hv
  rcases hv with rfl | rfl
  · exact .bool
  · exact h
section
variable {G : Gd} {w0 : List Cell} {P : Plans} {base most : Int}
noncomputable abbrev LvM (G : Gd) (w0 : List Cell) (P : Plans) (base most : Int) (k : Nat) : Prop := ∀ t a, Wf k t a → MeantK G w0 P base most (runC base most (runLv base most P k) t a) (20 + 2 * a.length + 20 * k) (NB k) (thM t) (a.map arM)
theorem meant_loop (g : Gr G) (h11 : 11 ≤ w0.length) (hP : P.Ok) {k : Nat} (hc : LvM G w0 P base most k) {i st d : Nat} (hst : st + 1 ≤ 103) (hd : 26 + 20 * k ≤ d) {Kf : Fl → Loc → AS → Prop} {Xf : V → Loc → AS → Prop} :
    ∀ (ds : List (Nat × Nat)) (f : List Rs) (s : Sp) (m : Loc), (∀ p ∈ ds, p.1 < 7 ∧ Wf k (callOf p.1 p.2).1 (callOf p.1 p.2).2) → MM P i st (base + 8 * ((st : Int) + 1)) (.lst (f.map rsM)) m → s.notes.length + ds.length * (NB k + 1) ≤ 100000 → f.length ≤ 50 →
      (∀ f' s' m', runDeeds (fun t a s => runC base most (runLv base most P k) t a (st + 1) s) (noteOut i (st + 1) (base + 8 * ((st : Int) + 1))) ds f s = (.ok f', s') → f'.length ≤ 50 → MM P i st (base + 8 * ((st : Int) + 1)) (.lst (f'.map rsM)) m' → Kf .next m' (MSt w0 P base most s')) →
      (∀ e s' m', runDeeds (fun t a s => runC base most (runLv base most P k) t a (st + 1) s) (noteOut i (st + 1) (base + 8 * ((st : Int) + 1))) ds f s = (.err e, s') → Kf (.ret (outM (.err e))) m' (MSt w0 P base most s')) →
      FB G (mtC (d + 1)) (assign meantTgt) meantFor (ds.map fun p => .tup [.int p.1, .int p.2]) m (MSt w0 P base most s) Kf Xf := by
  intro ds
  induction ds with
  | nil => intro f s m _ hm _ hf hK _; exact hK f s m rfl hf hm
  | cons p r ih =>
    intro f s m hp hm hN hf hK hX
    obtain ⟨w, l⟩ := p
    obtain ⟨hw, hwf⟩ := hp _ (.head _)
    dsimp only at hw hwf
    have hN' : s.notes.length + (r.length * (NB k + 1) + (NB k + 1)) ≤ 100000 := by rw [List.length_cons, Nat.succ_mul] at hN; exact hN
    rw [List.map_cons]
    have m1 : MM P i st (base + 8 * ((st : Int) + 1)) (.lst (f.map rsM)) (("lesser", .int l) :: ("way", .int w) :: m) := hm.push.push
    refine ta_tup (ta_loc (by rfl) (ta_loc (by rfl) ?_)) (fun v hv => ?_) rfl rfl (fun env => by rfl)
    · refine ss_cons <| s_tup <| e_call g.callof (g.gl' (by decide +kernel)) (by rfl) rfl <| as_cons <| e_local (v := .int w) (by rfl) (by rfl) <| as_cons <| e_local (v := .int l) (by rfl) (by rfl) <| as_cons <| e_tup <| as_cons <| e_str <| as_cons <| e_bin .sub <| e_neg <| e_int ⟨30, rfl, e_local (v := .int l) (by rfl) (by rfl) ⟨_, _, rfl, rfl,
        as_nil ⟨(show 2 ≤ 1000 by decide), as_cons <| e_str <| as_cons <| e_str <| as_nil ⟨rfl, c_callof g hw .int (thM_lf (.tb l)) .str fun u row hu => ta_tup (ta_loc (by rfl) (ta_loc (by rfl) ?_)) (fun v hv => ?_) rfl rfl (fun env => by rfl)⟩⟩⟩⟩
      · have hu := hu.symm.trans (coM_callOf w l)
        cases hu
        have m2 : MM P i st (base + 8 * ((st : Int) + 1)) (.lst (f.map rsM)) (("row", .lst ((callOf w l).2.map arM)) :: ("other", thM (callOf w l).1) :: ("lesser", .int l) :: ("way", .int w) :: m) := m1.push.push
        have h3 := callOf_len w l
        refine ss_cons <| s_tup <| e_call g.meant (g.gl' (by decide +kernel)) (by rfl) rfl <| as_cons <| e_local m2.state (by rfl) <| as_cons <| e_local (v := thM (callOf w l).1) (by rfl) (by rfl) <| as_cons <| e_local (v := .lst ((callOf w l).2.map arM)) (by rfl) (by rfl) <| as_cons <| e_bin .add <| e_local m2.standing (by rfl) <| e_int ⟨_, _, rfl, rfl, as_nil ⟨rfl, hc _ _ hwf (st := st + 1) (by omega) (by omega) (by omega) fun o s' e => ?_⟩⟩
        cases o with
        | err x =>
          refine ta_tup (vs := [.bool false, rsM x]) (ta_loc (by rfl) (ta_loc (by rfl) ?_)) (lf2 (rsM_lf x)) rfl rfl (fun env => by rfl)
          exact ss_cons <| s_if <| b_not <| b_val (e_local (v := .bool false) (by rfl) (by rfl) ⟨false, rfl, ss_cons <| s_ret <| e_tup <| as_cons <| e_bool <| as_cons <| e_local (v := rsM x) (by rfl) (by rfl) <| as_nil ⟨(show 2 ≤ 1000 by decide), hX x s' _ (by unfold runDeeds; rw [e])⟩⟩)
        | ok f' =>
          have hn := runC_notes (base := base) (most := most) (F := runLv base most P k) (k := NB k) (fun i a st s => runLv_notes hP k i a st s) (callOf w l).2 (callOf w l).1 (st + 1) s
          have hf' := runC_len (base := base) (most := most) (F := runLv base most P k) (runLv_len k) (callOf w l).2 (callOf w l).1 (st + 1) s f' s' e
          rw [e] at hn
          have hn' : s'.notes.length ≤ s.notes.length + NB k := hn
          refine ta_tup (vs := [.bool true, .lst (f'.map rsM)]) (ta_loc (by rfl) (ta_loc (by rfl) ?_)) (lf2 (.lst fun y hy => ?_)) rfl rfl (fun env => by rfl)
          · have m3 : MM P i st (base + 8 * ((st : Int) + 1)) (.lst (f'.map rsM)) (("found", .lst (f'.map rsM)) :: ("is_well", .bool true) :: ("row", .lst ((callOf w l).2.map arM)) :: ("other", thM (callOf w l).1) :: ("lesser", .int l) :: ("way", .int w) :: m) := m2.push.setF
            refine ss_cons <| s_if <| b_not <| b_val (e_local (v := .bool true) (by rfl) (by rfl) ⟨true, rfl, ss_nil ?_⟩)
            refine ss_cons <| s_expr <| e_append <| e_mkey h11 (hx := m3.state) (hf := by rfl) rfl ⟨⟨_, mst_9 h11⟩, as_cons <| e_tup <| as_cons <| e_local m3.thing (by rfl) <| as_cons <| e_bin .add <| e_local m3.standing (by rfl) <| e_int ⟨_, _, rfl, rfl, as_cons <| e_local m3.deep (by rfl) <| as_cons <| e_mkey h11 (hx := m3.state) (hf := by rfl) rfl <| as_cons <| e_local m3.found (by rfl) <| as_nil ⟨(show 5 ≤ 1000 by decide), as_nil ⟨_, _, rfl, mst_9 h11, by omega, ?_⟩⟩⟩⟩
            rw [mst_p9]
            refine ss_nil (ih f' { s' with notes := s'.notes ++ [noteOut i (st + 1) (base + 8 * ((st : Int) + 1)) s'.steps f'] } _ (fun p hp' => hp p (.tail _ hp')) m3 ?_ (by omega) (fun f2 s2 m2' e2 => ?_) fun e2 s2 m2' q2 => ?_)
            · simp only [List.length_append, List.length_singleton]; omega
            · exact hK f2 s2 m2' (by unfold runDeeds; rw [e]; exact e2)
            · exact hX e2 s2 m2' (by unfold runDeeds; rw [e]; exact q2)
          · obtain ⟨x, _, rfl⟩ := List.mem_map.mp hy
            exact rsM_lf x
      · have hu := hu.symm.trans (coM_callOf w l)
        cases hu
        simp only [List.mem_cons, List.not_mem_nil, or_false] at hv
        rcases hv with rfl | rfl
        · exact thM_lf _
        · exact .lst fun v hv => by
            obtain ⟨x, _, rfl⟩ := List.mem_map.mp hv
            exact arM_lf x
    · simp only [List.mem_cons, List.not_mem_nil, or_false] at hv
      rcases hv with rfl | rfl <;> exact .int
end
end Mine
end
section
open PySem PySem.W PyProof.Rows PySem.Calls PySem.Spec PySem.SeqAt
set_option maxRecDepth 10000
namespace Mine
section
variable {G : Gd} {w0 : List Cell} {P : Plans} {base most : Int}
theorem last_m (P : Plans) (n : Int) {l : Nat} (h : l < 2) : [V.int (100 + n), .tup [.str "table", .int (-30)]][((l : Nat) : Int).toNat]? = some (rsM (if l = 0 then .i (100 + n) else .tb)) := by
  have : l = 0 ∨ l = 1 := by omega
  rcases this with rfl | rfl <;> rfl
theorem meant_fn (g : Gr G) (h11 : 11 ≤ w0.length) (hb : 0 ≤ base) (hP : P.Ok) {k : Nat} (hc : LvM G w0 P base most k) {i : Nat} (hi3 : i < 3) (hik : i ≤ k) {a : List Ar} (ha : a.length ≤ 6) :
    MeantK G w0 P base most (runLv base most P (k + 1) i a) (27 + 20 * k) (NB (k + 1)) (.int i) (a.map arM) := fun st s d K X hst hd hN hK => by
  obtain ⟨d, rfl⟩ : ∃ e, d = e + 1 := ⟨d - 1, by omega⟩
  refine meant_head g h11 (fun _ _ => cv_ints) (t := .type "int") (fun _ => rfl) (by decide +kernel) hst (fun q => hK (.err .many) _ (by simp only [runLv]; rw [if_pos q])) (fun q q' => hK (.err .over) _ (by simp only [runLv]; rw [if_neg q, if_pos q'])) fun q q' => ?_
  have e0 : ∀ o s', fin i (P.last i) (runDeeds (fun t a s => runC base most (runLv base most P k) t a (st + 1) s) (noteOut i (st + 1) (base + 8 * ((st : Int) + 1))) (P.deeds i) [] { steps := s.steps + 1, notes := s.notes ++ [noteIn i (st + 1) (base + 8 * ((st : Int) + 1)) a] }) = (o, s') → runLv base most P (k + 1) i a st s = (o, s') := fun o s' e => by
    simp only [runLv]; rw [if_neg q, if_neg q']; exact e
  have hnb : NB (k + 1) = 3 + 2 * NB k := rfl
  refine ss_cons <| s_if <| b_cv <| e_local (v := .int i) (by rfl) (by rfl) <| e_str ⟨false, cv_ints, ss_nil ?_⟩
  refine ss_cons <| s_expr <| e_append <| e_mkey h11 rfl ⟨⟨_, mst_9 h11⟩, as_cons <| e_tup <| as_cons <| e_local (v := .int i) (by rfl) (by rfl) <| as_cons <| e_bin .add <| e_local (v := .int st) (by rfl) (by rfl) <| e_int ⟨_, _, rfl, rfl, as_cons <| e_local (v := .int (base + 8 * ((st : Int) + 1))) (by rfl) (by rfl) <| as_cons <| e_local (v := .lst (a.map arM)) (by rfl) (by rfl) <| as_nil ⟨(show 4 ≤ 1000 by decide), as_nil ⟨_, _, rfl, mst_9 h11, by show s.notes.length ≤ _; omega, ?_⟩⟩⟩⟩
  rw [mst_p9]
  refine ss_cons <| s_tup <| e_item <| e_mkey h11 rfl <| e_local (v := .int i) (by rfl) (by rfl) ⟨_, _, _, rfl, rfl, by omega, by omega, at3 _ hi3, ta_tup (ta_loc (by rfl) (ta_loc (by rfl) ?_)) (fun v hv => ?_) rfl rfl (fun env => by rfl)⟩
  · refine ss_cons <| s_set (by rfl) <| e_list0f ?_
    have hlen := hP.len i
    have hmul : (P.deeds i).length * (NB k + 1) ≤ 2 * (NB k + 1) := Nat.mul_le_mul_right _ hlen
    have hst' : st + 1 ≤ 103 := by omega
    refine ss_cons <| s_forl rfl (.inr ⟨_, _, _, rfl⟩) <| e_local (v := deedsV (P.deeds i)) (by rfl) (by rfl) ⟨_, rfl, ?_, meant_loop g h11 hP hc (i := i) (st := st) (d := d) hst' (by omega) (P.deeds i) [] { steps := s.steps + 1, notes := s.notes ++ [noteIn i (st + 1) (base + 8 * ((st : Int) + 1)) a] } _ ?_ ⟨rfl, rfl, rfl, rfl, rfl, rfl⟩ ?_ (by decide) (fun f' s' m' e hf' m1 => ?_) fun e s' m' q => ?_⟩
    · intro x hx
      obtain ⟨p, _, rfl⟩ := List.mem_map.mp hx
      exact .tup fun y hy => by
        simp only [List.mem_cons, List.not_mem_nil, or_false] at hy
        rcases hy with rfl | rfl <;> exact .int
    · exact fun p hp => have h1 := hP.wf hik p hp; ⟨h1.1, h1.2.2⟩
    · simp only [List.length_append, List.length_singleton]; omega
    · rw [e] at e0
      by_cases q : P.last i < 2
      · refine ss_cons <| s_ret <| e_ite <| b_cmpb .gt <| e_local m1.last (by rfl) <| e_int ⟨_, _, false, rfl, rfl, decide_eq_false (by omega), e_tup <| as_cons <| e_bool <| as_cons <| e_item <| e_list <| as_cons <| e_bin .add <| e_int <| e_mkey h11 (hx := m1.state) (hf := by rfl) rfl ⟨_, _, rfl, rfl, as_cons <| e_tup <| as_cons <| e_str <| as_cons <| e_neg <| e_int ⟨30, rfl,
          as_nil ⟨(show 2 ≤ 1000 by decide), as_nil ⟨(show 2 ≤ 1000 by decide), e_local m1.last (by rfl) ⟨_, _, _, rfl, rfl, by omega, by omega, last_m P _ q, as_nil ⟨(show 2 ≤ 1000 by decide), hK (.err (if P.last i = 0 then .i (100 + s'.steps) else .tb)) s' (e0 _ _ ?_)⟩⟩⟩⟩⟩⟩⟩
        simp only [fin]; rw [if_pos q]
      · refine ss_cons <| s_ret <| e_ite <| b_cmpb .gt <| e_local m1.last (by rfl) <| e_int ⟨_, _, true, rfl, rfl, decide_eq_true (by omega), e_tup <| as_cons <| e_bool <| as_cons <| e_addl <| e_list <| as_cons <| e_bin .add <| e_int <| e_local m1.thing (by rfl) ⟨_, _, rfl, rfl, as_nil ⟨(show 1 ≤ 1000 by decide), e_upto <| e_local m1.found (by rfl) <| e_int ⟨_, _, rfl, rfl, by decide, by rw [List.length_map]; omega, _, _, rfl, rfl, ?_, as_nil ⟨(show 2 ≤ 1000 by decide), ?_⟩⟩⟩⟩⟩
        · simp only [List.length_cons, List.length_nil, List.length_take, List.length_map]; omega
        · have := hK (.ok (.i (10 + i) :: f'.take 3)) s' (e0 _ _ (by simp only [fin]; rw [if_neg q]))
          have e3 : outM (.ok (.i (10 + i) :: f'.take 3)) = .tup [.bool true, .lst (.int (10 + i) :: (f'.map rsM).take 3)] := by rw [← List.map_take]; rfl
          rw [e3] at this
          exact this
    · rw [q] at e0
      exact hK (.err e) s' (e0 _ _ rfl)
  · simp only [List.mem_cons, List.not_mem_nil, or_false] at hv
    rcases hv with rfl | rfl
    · exact deeds_lf _
    · exact .int
theorem lvm_of (g : Gr G) (h11 : 11 ≤ w0.length) (hb : 0 ≤ base) {k : Nat} (hf : ∀ i a, i < k → (a : List Ar).length ≤ 6 → MeantK G w0 P base most (runLv base most P k i a) (7 + 20 * k) (NB k) (.int i) (a.map arM)) : LvM G w0 P base most k := by
  intro t a
  induction a generalizing t with
  | nil =>
    intro hw
    cases hw with
    | no => exact (meant_no g).mono (by omega) fun _ _ => rfl
    | fn hi pl => exact (hf _ _ hi (by simp)).mono (by omega) fun _ _ => rfl
    | tb hi pl => exact (meant_tb g (by simp) (hf _ (.th (.tb _) :: []) hi (by simp))).mono (by omega) fun _ _ => rfl
    | pc0 =>
      refine (meant_pc0 g h11 (fun st s q => ?_) (fun st s q q' => ?_) (fun st s q q' => ?_)).mono (Nat.zero_le _) fun _ _ => rfl
      · simp only [runC]; rw [if_pos q]
      · simp only [runC]; rw [if_neg q, if_pos q']
      · simp only [runC]; rw [if_neg q, if_neg q']
  | cons x r ih =>
    intro hw
    cases hw with
    | no => exact (meant_no g).mono (by omega) fun _ _ => rfl
    | fn hi pl hl => exact (hf _ _ hi (by omega)).mono (by omega) fun _ _ => rfl
    | tb hi pl hl => exact (meant_tb g (by rw [List.length_map]; omega) (hf _ (.th (.tb _) :: x :: r) hi (by simp only [List.length_cons] at hl ⊢; omega))).mono (by omega) fun _ _ => rfl
    | @pc t' _ hw' hl =>
      refine (meant_pc (R1 := runC base most (runLv base most P k) t' r) g h11 hb (by rw [List.length_map]; exact hl) (ih t' hw') (fun st s f s' e => ?_) (fun st s q => ?_) (fun st s q q' => ?_) (fun st s q q' => ?_)).mono (by rw [List.length_cons]; omega) fun _ _ => rfl
      · have := runC_len (base := base) (most := most) (F := runLv base most P k) (runLv_len k) r t' st s f s' e
        omega
      · simp only [runC]; rw [if_pos q]
      · simp only [runC]; rw [if_neg q, if_pos q']
      · simp only [runC]; rw [if_neg q, if_neg q']
theorem lvm_all (g : Gr G) (h11 : 11 ≤ w0.length) (hP : P.Ok) (hb : 0 ≤ base) : ∀ k, k ≤ 3 → LvM G w0 P base most k
  | 0, _ => lvm_of g h11 hb fun i a hi => absurd hi (Nat.not_lt_zero i)
  | k + 1, h => lvm_of g h11 hb fun i a hi ha => (meant_fn g h11 hb hP (lvm_all g h11 hP hb k (by omega)) (by omega) (by omega) ha).mono (by omega) fun _ _ => rfl
end
end Mine
end
section
open PySem PySem.W PyProof.Rows PySem.Calls PySem.Spec PySem.SeqAt
set_option maxRecDepth 10000
namespace Mine
noncomputable def spS (w0 : List Cell) (ns : List Int) (n : Nat) (l : List Cell) : AS := ⟨w0.set 1 (.list [.lst (ns.map .int), .int n]), l⟩
section
variable {G : Gd} {w0 : List Cell} {ns : List Int} {n d : Nat} {l : List Cell} {hn : Bool} {K X : V → AS → Prop}
theorem sp_1 (h : 2 ≤ w0.length) : cellOf (spS w0 ns n l) (.w 1) = some (.list [.lst (ns.map .int), .int n]) := by
  show (w0.set 1 _)[1]? = _
  rw [List.getElem?_set_self (by omega)]
theorem sp_l (h : 2 ≤ w0.length) : lstOf (spS w0 ns n l) (.w 1) = some [.lst (ns.map .int), .int n] := by
  show (match cellOf (spS w0 ns n l) (.w 1) with | some (.list xs) => some xs | _ => Option.none) = _
  rw [sp_1 h]
theorem sp_p (u : Nat) : putCell (spS w0 ns n l) (.w 1) (.list ([V.lst (ns.map .int), .int n].set (1 : Int).toNat (.int u))) = spS w0 ns u l := by
  show (⟨(w0.set 1 _).set 1 _, l⟩ : AS) = ⟨_, l⟩
  rw [List.set_set]
  rfl
theorem mul_small {a b : Int} (h1 : a.natAbs < 18446744073709551616) (h2 : b.natAbs < 18446744073709551616) : IntMulOk a b := .of_le (m := 64) (n := 64) (intBits_le_iff.mpr h1) (intBits_le_iff.mpr h2) (by decide)
theorem rem_nat {a b : Int} (hb : 0 < b) : ∃ r : Nat, a.fmod b = r ∧ (r : Int) < b := by
  have h1 := Int.fmod_nonneg_of_pos a hb
  have h2 := Int.fmod_lt_of_pos a hb
  exact ⟨(a.fmod b).toNat, (Int.toNat_of_nonneg h1).symm, by rw [Int.toNat_of_nonneg h1]; exact h2⟩
theorem c_draw (g : Gr G) (h2 : 2 ≤ w0.length) (hns : ns.length ≤ 63) (hn' : n ≤ 1000) {b : Nat} (hb : 0 < b) (h : ∀ r : Nat, r < b → K (.int r) (spS w0 ns (n + 1) l)) : FT G fd_draw ["spool", "below"] [.w 1, .int b] (spS w0 ns n l) d hn K X := by
  refine ss_cons <| s_setitem <| e_bin .add <| e_item <| e_local (v := .w 1) (by rfl) (by rfl) <| e_int ⟨1, _, .int n, rfl, sp_l h2, by decide, by decide, rfl, e_int ⟨_, _, rfl, rfl, e_local (v := .w 1) (by rfl) (by rfl) <| e_int ⟨1, _, rfl, sp_1 h2, by decide, (show (1 : Int) < ((2 : Nat) : Int) by decide), (show 2 < 1000000 by decide), ?_⟩⟩⟩
  show SS G _ _ _ (putCell (spS w0 ns n l) (.w 1) (.list ([V.lst (ns.map .int), .int n].set (1 : Int).toNat (.int ((n + 1 : Nat) : Int))))) _ _
  rw [sp_p]
  refine ss_cons <| s_set (by rfl) <| e_item <| e_local (v := .w 1) (by rfl) (by rfl) <| e_int ⟨1, _, .int ((n + 1 : Nat) : Int), rfl, sp_l h2, by decide, by decide, rfl, ?_⟩
  have fin : ∀ a : Int, ∃ i j, V.int a = .int i ∧ V.int b = .int j ∧ j ≠ 0 ∧ K (.int (i.fmod j)) (spS w0 ns (n + 1) l) := fun a => by
    obtain ⟨r, e, hr⟩ := rem_nat (a := a) (b := b) (by omega)
    exact ⟨a, b, rfl, rfl, by omega, by rw [e]; exact h r (by omega)⟩
  have hb' : ∀ a : Int, AE G ⟨fd_draw.qual, fd_draw.scope, l.length, d, hn, none⟩ (match nthS fd_draw.body 2 with | .Return (some (.BinOp _ _ e _)) _ => e | _ => .Constant .none 0 ⟨0, 0, 0, 0⟩) (("turn", .int ((n + 1 : Nat) : Int)) :: (["spool", "below"] : List Str).zip [.w 1, .int b]) (spS w0 ns (n + 1) l) (fun v2 σ2 => ∃ i j, V.int a = .int i ∧ v2 = .int j ∧ j ≠ 0 ∧ K (.int (i.fmod j)) σ2) (fun v σ' => X v σ') := fun a => by
    obtain ⟨i, j, h1, h2, h3, h4⟩ := fin a
    exact e_local (v := .int b) (by rfl) (by rfl) ⟨i, j, h1, h2, h3, h4⟩
  by_cases q : ((n + 1 : Nat) : Int) ≤ ns.length
  · obtain ⟨x, hx⟩ : ∃ x, ns[n]? = some x := ⟨_, List.getElem?_eq_getElem (by omega)⟩
    refine ss_cons <| s_ret <| e_mod <| e_ite <| b_cmpb .le <| e_local (v := .int ((n + 1 : Nat) : Int)) (by rfl) (by rfl) <| e_len (g.blt (v := .builtin "len")) (by rfl) (hv := by decide +kernel) <| e_item <| e_local (v := .w 1) (by rfl) (by rfl) <| e_int ⟨0, _, .lst (ns.map .int), rfl, sp_l h2, by decide, by decide, rfl, ns.length, by omega, .inl ⟨_, rfl, List.length_map ..⟩, _, _, true, rfl, rfl, decide_eq_true q, ?_⟩
    refine e_item <| e_item <| e_local (v := .w 1) (by rfl) (by rfl) <| e_int ⟨0, _, .lst (ns.map .int), rfl, sp_l h2, by decide, by decide, rfl, e_bin .sub <| e_local (v := .int ((n + 1 : Nat) : Int)) (by rfl) (by rfl) <| e_int ⟨_, _, rfl, rfl, _, _, .int x, rfl, rfl, by omega, by omega, ?_, hb' x⟩⟩
    rw [List.getElem?_map, show (((n + 1 : Nat) : Int) - 1).toNat = n by omega, hx]; rfl
  · refine ss_cons <| s_ret <| e_mod <| e_ite <| b_cmpb .le <| e_local (v := .int ((n + 1 : Nat) : Int)) (by rfl) (by rfl) <| e_len (g.blt (v := .builtin "len")) (by rfl) (hv := by decide +kernel) <| e_item <| e_local (v := .w 1) (by rfl) (by rfl) <| e_int ⟨0, _, .lst (ns.map .int), rfl, sp_l h2, by decide, by decide, rfl, ns.length, by omega, .inl ⟨_, rfl, List.length_map ..⟩, _, _, false, rfl, rfl, decide_eq_false q, ?_⟩
    exact e_bin .add <| e_mul <| e_int <| e_local (v := .int ((n + 1 : Nat) : Int)) (by rfl) (by rfl) ⟨_, _, rfl, rfl, mul_small (by decide) (by omega), e_fdiv <| e_mul <| e_local (v := .int ((n + 1 : Nat) : Int)) (by rfl) (by rfl) <| e_local (v := .int ((n + 1 : Nat) : Int)) (by rfl) (by rfl) ⟨_, _, rfl, rfl, mul_small (by omega) (by omega), e_int ⟨_, _, rfl, rfl, by decide, PyProof.noPylong_small (by decide), _, _, rfl, rfl, hb' _⟩⟩⟩
end
end Mine
end
section
open PySem PySem.W PyProof.Rows PySem.Calls PySem.Spec PySem.SeqAt
set_option maxRecDepth 10000
namespace Mine
noncomputable def GoodD (i : Nat) (ds : List (Nat × Nat)) : Prop := (i = 0 → ∀ p ∈ ds, (p.1 = 5 ∨ p.1 = 6) ∧ p.2 = 0) ∧ (0 < i → ∀ p ∈ ds, p.1 < 7 ∧ p.2 < i)
noncomputable def dV (p : Nat × Nat) : V := .tup [.int p.1, .int p.2]
theorem GoodD.snoc {i ds p} (h : GoodD i ds) (h0 : i = 0 → (p.1 = 5 ∨ p.1 = 6) ∧ p.2 = 0) (h1 : 0 < i → p.1 < 7 ∧ p.2 < i) : GoodD i (ds ++ [p]) :=
  ⟨fun e q hq => by
    rcases List.mem_append.mp hq with hq | hq
    · exact h.1 e q hq
    · rw [List.mem_singleton.mp hq]; exact h0 e, fun e q hq => by
    rcases List.mem_append.mp hq with hq | hq
    · exact h.2 e q hq
    · rw [List.mem_singleton.mp hq]; exact h1 e⟩
structure MD (i : Nat) (m : Loc) : Prop where
  spool : m.lookup ("spool" : Str) = some (.w 1)
  at_ : m.lookup ("at" : Str) = some (.int i)
  deeds : m.lookup ("deeds" : Str) = some (.l 0)
theorem MD.push {i m y v} (h : MD i m) (hy : (([("spool" : Str), "at", "deeds"]).all fun x => !(x == y)) = true := by decide) : MD i ((y, v) :: m) := by
  simp only [List.all_cons, List.all_nil, Bool.and_true, Bool.and_eq_true, Bool.not_eq_true'] at hy
  exact ⟨look_cons h.spool hy.1, look_cons h.at_ hy.2.1, look_cons h.deeds hy.2.2⟩
noncomputable def deedsTgt : Expr := match nthS fd_deeds.body 1 with | .For t _ _ _ _ => t | _ => .Constant .none 0 ⟨0, 0, 0, 0⟩
noncomputable def deedsFor : List Stmt := match nthS fd_deeds.body 1 with | .For _ _ b _ _ => b | _ => []
section
variable {G : Gd} {w0 : List Cell} {ns : List Int} {d : Nat} {K X : V → AS → Prop}
theorem deeds_loop (g : Gr G) (h2 : 2 ≤ w0.length) (hns : ns.length ≤ 63) {i : Nat} {Kf : Fl → Loc → AS → Prop} {Xf : V → Loc → AS → Prop} : ∀ (xs : List V) (ds : List (Nat × Nat)) (n : Nat) (m : Loc), MD i m → GoodD i ds → n + 2 * xs.length ≤ 900 → ds.length + xs.length ≤ 2 →
    (∀ ds' n' m', MD i m' → GoodD i ds' → n' ≤ n + 2 * xs.length → ds'.length ≤ 2 → Kf .next m' (spS w0 ns n' [.list (ds'.map dV)])) →
    FB G ⟨fd_deeds.qual, fd_deeds.scope, 0, d + 1, true, none⟩ (assign deedsTgt) deedsFor xs m (spS w0 ns n [.list (ds.map dV)]) Kf Xf := by
  intro xs
  induction xs with
  | nil => intro ds n m hm hg hn hl h; exact h ds n m hm hg (by omega) (by simpa using hl)
  | cons x r ih =>
    intro ds n m hm hg hn hl h
    rw [List.length_cons] at hn hl h
    have m1 : MD i (("turn", x) :: m) := hm.push
    refine ta_loc (by rfl) ?_
    refine ss_cons <| s_set (by rfl) <| e_call g.draw (g.gl' (by decide +kernel)) (by rfl) rfl <| as_cons <| e_local m1.spool (by rfl) <| as_cons <| e_int <| as_nil ⟨rfl, c_draw (b := 7) g h2 hns (by omega) (by decide) fun way hway => ?_⟩
    have m2 : MD i (("way", .int way) :: ("turn", x) :: m) := m1.push
    have next : ∀ (p : Nat × Nat) (n' : Nat), n' ≤ n + 2 → (i = 0 → (p.1 = 5 ∨ p.1 = 6) ∧ p.2 = 0) → (0 < i → p.1 < 7 ∧ p.2 < i) → FB G ⟨fd_deeds.qual, fd_deeds.scope, 0, d + 1, true, none⟩ (assign deedsTgt) deedsFor r (("way", .int way) :: ("turn", x) :: m) (spS w0 ns n' [.list (ds.map dV ++ [dV p])]) Kf Xf := fun p n' hn' q0 q1 => by
      have e : ds.map dV ++ [dV p] = (ds ++ [p]).map dV := by rw [List.map_append]; rfl
      rw [e]
      exact ih (ds ++ [p]) n' _ m2 (hg.snoc q0 q1) (by omega) (by rw [List.length_append, List.length_singleton]; omega) fun ds' n2 m' a b c' e' => h ds' n2 m' a b (by omega) e'
    by_cases q : i = 0
    · refine ss_cons <| s_if <| b_cmpb .eq <| e_local m2.at_ (by rfl) <| e_int ⟨_, _, true, rfl, rfl, eq_i q, ?_⟩
      by_cases q3 : (way : Int).fmod 3 = 0
      · exact ss_cons <| s_expr <| e_append <| e_local m2.deeds (by rfl) ⟨⟨_, rfl⟩, as_cons <| e_tup <| as_cons <| e_ite <| b_cmpb .eq <| e_mod <| e_local (v := .int way) (by rfl) (by rfl) <| e_int ⟨_, _, rfl, rfl, by decide, e_int ⟨_, _, true, rfl, rfl, by rw [q3]; rfl, e_int <| as_cons <| e_int <| as_nil ⟨(show 2 ≤ 1000 by decide), as_nil ⟨_, _, rfl, rfl, by rw [List.length_map]; omega, ss_nil <| ss_nil <| next (6, 0) (n + 1) (by omega) (fun _ => ⟨.inr rfl, rfl⟩) (fun z => by omega)⟩⟩⟩⟩⟩
      · exact ss_cons <| s_expr <| e_append <| e_local m2.deeds (by rfl) ⟨⟨_, rfl⟩, as_cons <| e_tup <| as_cons <| e_ite <| b_cmpb .eq <| e_mod <| e_local (v := .int way) (by rfl) (by rfl) <| e_int ⟨_, _, rfl, rfl, by decide, e_int ⟨_, _, false, rfl, rfl, beq_eq_false_iff_ne.mpr q3, e_int <| as_cons <| e_int <| as_nil ⟨(show 2 ≤ 1000 by decide), as_nil ⟨_, _, rfl, rfl, by rw [List.length_map]; omega, ss_nil <| ss_nil <| next (5, 0) (n + 1) (by omega) (fun _ => ⟨.inl rfl, rfl⟩) (fun z => by omega)⟩⟩⟩⟩⟩
    · refine ss_cons <| s_if <| b_cmpb .eq <| e_local m2.at_ (by rfl) <| e_int ⟨_, _, false, rfl, rfl, ne_i q, ?_⟩
      exact ss_cons <| s_expr <| e_append <| e_local m2.deeds (by rfl) ⟨⟨_, rfl⟩, as_cons <| e_tup <| as_cons <| e_local (v := .int way) (by rfl) (by rfl) <| as_cons <| e_call g.draw (g.gl' (by decide +kernel)) (by rfl) rfl <| as_cons <| e_local m2.spool (by rfl) <| as_cons <| e_local m2.at_ (by rfl) <| as_nil ⟨rfl, c_draw (b := i) g h2 hns (by omega) (by omega) fun j hj => as_nil ⟨(show 2 ≤ 1000 by decide), as_nil ⟨_, _, rfl, rfl, by rw [List.length_map]; omega, ss_nil <| ss_nil <| next (way, j) (n + 1 + 1) (by omega) (fun z => absurd z q) (fun _ => ⟨hway, hj⟩)⟩⟩⟩⟩
theorem sp_bel (bel : ∀ cc ∈ w0, CFn 0 cc) {n : Nat} {l : List Cell} : ∀ cc ∈ (spS w0 ns n l).w, CFn 0 cc := fun cc hc => by
  rcases mem_set hc with hc | rfl
  · exact bel cc hc
  · intro v hv
    simp only [List.mem_cons, List.not_mem_nil, or_false] at hv
    rcases hv with rfl | rfl
    · exact (LF.lst fun x hx => by obtain ⟨i, _, rfl⟩ := List.mem_map.mp hx; exact .int).n
    · exact LF.int.n
theorem c_deeds (g : Gr G) (h2 : 2 ≤ w0.length) (bel : ∀ cc ∈ w0, CFn 0 cc) (hns : ns.length ≤ 63) {i n : Nat} (hn : n ≤ 500)
    (h : ∀ ds last n', GoodD i ds → ds.length ≤ 2 → last < 4 → n' ≤ n + 6 → K (.tup [deedsV ds, .int (last : Nat)]) (spS w0 ns n' [])) : FT G fd_deeds ["spool", "at"] [.w 1, .int i] (spS w0 ns n []) (d + 1) true K X := by
  refine ft_end rfl ?_ g.deeds.cell
  refine ss_cons <| s_set (by rfl) <| e_list0 ?_
  have m0 : MD i (("deeds", .l 0) :: (["spool", "at"] : List Str).zip [.w 1, .int i]) := ⟨rfl, rfl, rfl⟩
  refine ss_cons <| s_forr (hv := by decide +kernel) rfl (g.blt (v := .type "range")) (by rfl) <| e_bin .add <| e_int <| e_call g.draw (g.gl' (by decide +kernel)) (by rfl) rfl <| as_cons <| e_local (v := .w 1) (by rfl) (by rfl) <| as_cons <| e_int <| as_nil ⟨rfl, c_draw (b := 2) g h2 hns (by omega) (by decide) fun j hj => ⟨_, _, rfl, rfl, 1 + j, by push_cast; rfl, by omega, ?_⟩⟩
  have hu : (upto (1 + j)).length = 1 + j := by simp [upto]
  refine deeds_loop g h2 hns (upto (1 + j)) [] (n + 1) _ m0 ⟨fun _ p hp => (by cases hp), fun _ p hp => (by cases hp)⟩ (by rw [hu]; omega) (by rw [hu, List.length_nil]; omega) fun ds' n' m' hm hg hn' hl => ?_
  rw [hu] at hn'
  refine ss_cons <| s_ret <| e_tup <| as_cons <| e_local hm.deeds (by rfl) <| as_cons <| e_call g.draw (g.gl' (by decide +kernel)) (by rfl) rfl <| as_cons <| e_local hm.spool (by rfl) <| as_cons <| e_int <| as_nil ⟨rfl, c_draw (b := 4) g h2 hns (by omega) (by decide) fun last hlast => as_nil ⟨(show 2 ≤ 1000 by decide), sp_bel bel, .tup [deedsV ds', .int last], ?_, (fun q => by cases q), h ds' last (n' + 1) hg hl hlast (by omega)⟩⟩
  refine .tup rfl fun k x y e1 e2 => ?_
  match k with
  | 0 =>
    cases e1; cases e2
    refine .lst (xs := ds'.map dV) rfl (Nat.zero_le _) rfl fun k x y e1 e2 => ?_
    have : x = y := by
      have e3 : (ds'.map dV)[k]? = some y := e2
      rw [e1] at e3; exact Option.some.inj e3
    subst this
    obtain ⟨p, _, rfl⟩ := List.mem_map.mp (List.mem_of_getElem? e1)
    exact .keep (LF.tup fun v hv => by
      simp only [List.mem_cons, List.not_mem_nil, or_false] at hv
      rcases hv with rfl | rfl <;> exact .int).n
  | 1 => cases e1; cases e2; exact .keep LF.int.n
  | k + 2 => cases e1
end
end Mine
end
section
open PySem PySem.W PyProof.Rows PySem.Calls PySem.Spec PySem.SeqAt
set_option maxRecDepth 10000
namespace Mine
noncomputable def bLaw : List UInt8 := [61, 108, 97, 119]
noncomputable def ctBody : List Stmt := match nthS fd_c_text.body 1 with | .While _ b _ _ => b | _ => []
noncomputable def ctTest : Expr := match nthS fd_c_text.body 1 with | .While t _ _ _ => t | _ => .Constant .none 0 ⟨0, 0, 0, 0⟩
section
variable {G : Gd} {σ : AS} {d : Nat} {hn : Bool} {K X : V → AS → Prop}
theorem ct_loop (g : Gr G) {c : Cx} (hs : c.scope = fd_c_text.scope) {Kf : Fl → Loc → AS → Prop} {Xf : V → Loc → AS → Prop} : ∀ (j k : Nat) (m : Loc), k + j = 4 → m.lookup ("at" : Str) = some (.int k) → m.lookup ("text" : Str) = some (.byt bLaw.toArray) →
    (∀ m', m'.lookup ("at" : Str) = some (.int (4 : Nat)) → m'.lookup ("text" : Str) = some (.byt bLaw.toArray) → Kf .next m' σ) → WB G c ctTest ctBody (j + 1) m σ Kf Xf := by
  obtain ⟨qu, sc, n, dd, h1, cd⟩ := c
  cases hs
  intro j
  induction j with
  | zero =>
    intro k m hk ha ht h
    obtain rfl : k = 4 := by omega
    exact b_and <| b_cmpb .lt <| e_local ha (by rfl) <| e_len (g.blt (v := .builtin "len")) (by rfl) (hv := by decide +kernel) <| e_local ht (by rfl) ⟨4, by decide, .inr ⟨_, rfl, rfl⟩, _, _, false, rfl, rfl, rfl, h m ha ht⟩
  | succ j ih =>
    intro k m hk ha ht h
    refine b_and <| b_cmpb .lt <| e_local ha (by rfl) <| e_len (g.blt (v := .builtin "len")) (by rfl) (hv := by decide +kernel) <| e_local ht (by rfl) ⟨4, by decide, .inr ⟨_, rfl, rfl⟩, _, _, true, rfl, rfl, decide_eq_true (by omega), ?_⟩
    have hb : (((bLaw.getD k 0).toNat : Int) != 0) = true := by
      have : k = 0 ∨ k = 1 ∨ k = 2 ∨ k = 3 := by omega
      rcases this with rfl | rfl | rfl | rfl <;> decide
    refine b_and <| b_cmpb .ne <| e_bitem <| e_local ht (by rfl) <| e_local ha (by rfl) ⟨k, bLaw, rfl, rfl, by show k < 4; omega, by decide, e_int ⟨_, _, true, rfl, rfl, hb, b_and0 ?_⟩⟩
    refine ss_cons <| s_set (by rfl) <| e_bin .add <| e_local ha (by rfl) <| e_int ⟨_, _, rfl, rfl, ss_nil ?_⟩
    exact ih (k + 1) _ (by omega) rfl (look_cons ht (by decide)) h
theorem law_cut : KBy.picked bLaw.toArray none (some ((4 : Nat) : Int)) = bLaw.toArray := by decide +kernel
theorem law_head : KBy.picked bLaw.toArray none (some 1) = #[61] := by decide +kernel
theorem c_chunk (g : Gr G) (h : ∀ b, K (.byt b) σ) : FT G fd_chunk_id ["source", "size"] [.byt bLaw.toArray, .int 60] σ (d + 1) hn K X := by
  refine ss_cons <| s_set (by rfl) <| e_call g.c_text (g.gl' (by decide +kernel)) (by rfl) rfl <| as_cons <| e_local (v := .byt bLaw.toArray) (by rfl) (by rfl) <| as_nil ⟨rfl, ?_⟩
  · refine ss_cons <| s_set (by rfl) <| e_int <| ss_cons <| s_while 5 <| ct_loop g rfl 4 0 _ rfl rfl rfl fun m' ha ht => ?_
    refine ss_cons <| s_ret <| e_bupto <| e_local ht (by rfl) <| e_local ha (by rfl) ⟨_, _, rfl, rfl, by decide, ?_⟩
    rw [law_cut]
    refine ss_cons <| s_if <| b_cv <| e_bupto <| e_local (v := .byt bLaw.toArray) (by rfl) (by rfl) <| e_int ⟨_, _, rfl, rfl, by decide, ?_⟩
    rw [law_head]
    exact e_byt ⟨true, cv_beq, ss_cons <| s_ret <| e_bcut <| e_local (v := .byt bLaw.toArray) (by rfl) (by rfl) <| e_int <| e_local (v := .int 60) (by rfl) (by rfl) ⟨_, _, _, rfl, rfl, rfl, by decide, h _⟩⟩
theorem c_bi (g : Gr G) {w : List Cell} {n b v : V} (h : K (.l 1) ⟨w, [.dict [("number", n), ("name", b), ("work", v)], .inst cBuiltin (.l 0)]⟩) : MK G cBuiltin fd_bi_init ["self", "number", "name", "work"] [n, b, v] ⟨w, []⟩ d hn K X := by
  refine ss_cons <| s_setattr <| e_local (v := n) (by rfl) (by rfl) <| e_local (v := .l 1) (by rfl) (by rfl) ⟨cBuiltin, .l 0, [], rfl, rfl, g.set' (by decide +kernel), by decide, ?_⟩
  refine ss_cons <| s_setattr <| e_local (v := b) (by rfl) (by rfl) <| e_local (v := .l 1) (by rfl) (by rfl) ⟨cBuiltin, .l 0, _, rfl, rfl, g.set' (by decide +kernel), (show 1 < 1000 by decide), ?_⟩
  refine ss_cons <| s_setattr <| e_local (v := v) (by rfl) (by rfl) <| e_local (v := .l 1) (by rfl) (by rfl) ⟨cBuiltin, .l 0, _, rfl, rfl, g.set' (by decide +kernel), (show 2 < 1000 by decide), ?_⟩
  exact ss_nil ⟨rfl, h⟩
theorem tl_get {w l t : List Cell} (k : Nat) {c : Cell} (h : t[k]? = some c) : cellOf ⟨w, l ++ t⟩ (.l (l.length + k)) = some c := by
  show (l ++ t)[l.length + k]? = _
  rw [List.getElem?_append_right (Nat.le_add_right ..), Nat.add_sub_cancel_left, h]
theorem tl_put {w l t : List Cell} (k : Nat) {c : Cell} : putCell ⟨w, l ++ t⟩ (.l (l.length + k)) c = ⟨w, l ++ t.set k c⟩ := by
  show (⟨w, (l ++ t).set (l.length + k) c⟩ : AS) = _
  rw [List.set_append_right _ _ (Nat.le_add_right ..), Nat.add_sub_cancel_left]
theorem tl_add {w l t : List Cell} {c : Cell} : ({ (⟨w, l ++ t⟩ : AS) with l := (l ++ t) ++ [c] } : AS) = ⟨w, l ++ (t ++ [c])⟩ := by rw [List.append_assoc]
theorem c_tt (g : Gr G) {w l : List Cell} {n : V} (h : K (.l (l.length + 1)) ⟨w, l ++ [.dict [("number", n), ("keys", .l (l.length + 2)), ("values", .l (l.length + 3)), ("meta", .none)], .inst cTable (.l (l.length + 0)), .list [], .list []]⟩) :
    MK G cTable fd_tt_init ["self", "number"] [n] ⟨w, l⟩ d hn K X := by
  refine ss_cons <| s_setattr <| e_local (v := n) (by rfl) (by rfl) <| e_local (v := .l (l.length + 1)) (by rfl) (by rfl) ⟨cTable, .l (l.length + 0), [], tl_get 1 rfl, tl_get 0 rfl, g.set' (by decide +kernel), by decide, ?_⟩
  rw [tl_put 0]
  refine ss_cons <| s_setattr <| e_list0 ?_
  rw [tl_add]
  refine e_local (v := .l (l.length + 1)) (by rfl) (by rfl) ⟨cTable, .l (l.length + 0), _, tl_get 1 rfl, tl_get 0 rfl, g.set' (by decide +kernel), (show 1 < 1000 by decide), ?_⟩
  rw [tl_put 0]
  refine ss_cons <| s_setattr <| e_list0 ?_
  rw [tl_add]
  refine e_local (v := .l (l.length + 1)) (by rfl) (by rfl) ⟨cTable, .l (l.length + 0), _, tl_get 1 rfl, tl_get 0 rfl, g.set' (by decide +kernel), (show 2 < 1000 by decide), ?_⟩
  rw [tl_put 0]
  refine ss_cons <| s_setattr <| e_none <| e_local (v := .l (l.length + 1)) (by rfl) (by rfl) ⟨cTable, .l (l.length + 0), _, tl_get 1 rfl, tl_get 0 rfl, g.set' (by decide +kernel), (show 3 < 1000 by decide), ?_⟩
  rw [tl_put 0]
  refine ss_nil ⟨rfl, ?_⟩
  simp only [List.length_append, List.length_cons, List.length_nil, List.set_cons_zero, Nat.reduceAdd, List.cons_append, List.nil_append] at h ⊢
  exact h
end
end Mine
end
section
open PySem PySem.W PyProof.Rows PySem.Calls PySem.Spec PySem.SeqAt
set_option maxRecDepth 10000
namespace Mine
section
variable {G : Gd} {d : Nat} {hn : Bool} {K X : V → AS → Prop}
theorem c_limits (g : Gr G) {w : List Cell} {n : Int} {K : AS → Prop} (h : K ⟨w, [.dict (limD n), .inst cLimits (.l 0)]⟩) :
    FT G fd_limits ["self", "width", "registers", "upvalues", "local_names", "ccalls", "frames", "stack", "flush", "steps", "text"] [.l 1, .int 64, .int 250, .int 60, .int 200, .int 40, .int 200, .int 2000, .int 50, .int n, .int 1000000] ⟨w, [.dict [], .inst cLimits (.l 0)]⟩ d hn (fun v σ2 => v = .none ∧ K σ2) X := by
  refine ss_cons <| s_setattr <| e_local (v := .int 64) (by rfl) (by rfl) <| e_local (v := .l 1) (by rfl) (by rfl) ⟨cLimits, .l 0, [], rfl, rfl, g.set' (by decide +kernel), by decide, ?_⟩
  refine ss_cons <| s_setattr <| e_local (v := .int 250) (by rfl) (by rfl) <| e_local (v := .l 1) (by rfl) (by rfl) ⟨cLimits, .l 0, [("width", .int 64)], rfl, rfl, g.set' (by decide +kernel), by decide, ?_⟩
  refine ss_cons <| s_setattr <| e_local (v := .int 60) (by rfl) (by rfl) <| e_local (v := .l 1) (by rfl) (by rfl) ⟨cLimits, .l 0, (limD n).take 2, rfl, rfl, g.set' (by decide +kernel), (show 2 < 1000 by decide), ?_⟩
  refine ss_cons <| s_setattr <| e_local (v := .int 200) (by rfl) (by rfl) <| e_local (v := .l 1) (by rfl) (by rfl) ⟨cLimits, .l 0, (limD n).take 3, rfl, rfl, g.set' (by decide +kernel), (show 3 < 1000 by decide), ?_⟩
  refine ss_cons <| s_setattr <| e_local (v := .int 40) (by rfl) (by rfl) <| e_local (v := .l 1) (by rfl) (by rfl) ⟨cLimits, .l 0, (limD n).take 4, rfl, rfl, g.set' (by decide +kernel), (show 4 < 1000 by decide), ?_⟩
  refine ss_cons <| s_setattr <| e_local (v := .int 200) (by rfl) (by rfl) <| e_local (v := .l 1) (by rfl) (by rfl) ⟨cLimits, .l 0, (limD n).take 5, rfl, rfl, g.set' (by decide +kernel), (show 5 < 1000 by decide), ?_⟩
  refine ss_cons <| s_setattr <| e_local (v := .int 2000) (by rfl) (by rfl) <| e_local (v := .l 1) (by rfl) (by rfl) ⟨cLimits, .l 0, (limD n).take 6, rfl, rfl, g.set' (by decide +kernel), (show 6 < 1000 by decide), ?_⟩
  refine ss_cons <| s_setattr <| e_local (v := .int 50) (by rfl) (by rfl) <| e_local (v := .l 1) (by rfl) (by rfl) ⟨cLimits, .l 0, (limD n).take 7, rfl, rfl, g.set' (by decide +kernel), (show 7 < 1000 by decide), ?_⟩
  refine ss_cons <| s_setattr <| e_local (v := .int n) (by rfl) (by rfl) <| e_local (v := .l 1) (by rfl) (by rfl) ⟨cLimits, .l 0, (limD n).take 8, rfl, rfl, g.set' (by decide +kernel), (show 8 < 1000 by decide), ?_⟩
  refine ss_cons <| s_setattr <| e_local (v := .int 1000000) (by rfl) (by rfl) <| e_local (v := .l 1) (by rfl) (by rfl) ⟨cLimits, .l 0, (limD n).take 9, rfl, rfl, g.set' (by decide +kernel), (show 9 < 1000 by decide), ?_⟩
  exact ss_nil ⟨rfl, h⟩
noncomputable def hostD0 (lim tx : V) (b : Array UInt8) : List (Str × V) := [("limits", lim), ("chunk", .byt b), ("out", .lst []), ("steps", .int 0), ("made", .int 0), ("frames", .w 4), ("deep", .int 0), ("texts", tx)]
theorem c_host (g : Gr G) {a b : Cell} {n : Int} (h : ∀ t, K (.w 3) ⟨[a, b, .dict (hostD0 (.l 1) (.l 3) t), .inst cHost (.w 2), .list []], [.dict (limD n), .inst cLimits (.l 0), .dict [("number", .int (-60)), ("keys", .l 4), ("values", .l 5), ("meta", .none)], .inst cTable (.l 2), .list [], .list []]⟩) :
    MKw G cHost fd_host_init ["self", "limits", "source"] [.l 1, .byt bLaw.toArray] ⟨[a, b], [.dict (limD n), .inst cLimits (.l 0)]⟩ (d + 2) hn K X := by
  refine ss_cons <| s_setattr <| e_local (v := .l 1) (by rfl) (by rfl) <| e_local (v := .w 3) (by rfl) (by rfl) ⟨cHost, .w 2, [], rfl, rfl, g.set' (by decide +kernel), by decide, ?_⟩
  refine ss_cons <| s_setattr <| e_call g.chunk_id (g.gl' (by decide +kernel)) (by rfl) rfl <| as_cons <| e_local (v := .byt bLaw.toArray) (by rfl) (by rfl) <| as_cons <| e_int <| as_nil ⟨rfl, c_chunk (d := d) g fun t => e_local (v := .w 3) (by rfl) (by rfl) ⟨cHost, .w 2, (hostD0 (.l 1) (.l 3) t).take 1, rfl, rfl, g.set' (by decide +kernel), (show 1 < 1000 by decide), ?_⟩⟩
  refine ss_cons <| s_setattr <| e_list0f <| e_local (v := .w 3) (by rfl) (by rfl) ⟨cHost, .w 2, (hostD0 (.l 1) (.l 3) t).take 2, rfl, rfl, g.set' (by decide +kernel), (show 2 < 1000 by decide), ?_⟩
  refine ss_cons <| s_setattr <| e_int <| e_local (v := .w 3) (by rfl) (by rfl) ⟨cHost, .w 2, (hostD0 (.l 1) (.l 3) t).take 3, rfl, rfl, g.set' (by decide +kernel), (show 3 < 1000 by decide), ?_⟩
  refine ss_cons <| s_setattr <| e_int <| e_local (v := .w 3) (by rfl) (by rfl) ⟨cHost, .w 2, (hostD0 (.l 1) (.l 3) t).take 4, rfl, rfl, g.set' (by decide +kernel), (show 4 < 1000 by decide), ?_⟩
  refine ss_cons <| s_setattr <| e_list0W <| e_local (v := .w 3) (by rfl) (by rfl) ⟨cHost, .w 2, (hostD0 (.l 1) (.l 3) t).take 5, rfl, rfl, g.set' (by decide +kernel), (show 5 < 1000 by decide), ?_⟩
  refine ss_cons <| s_setattr <| e_int <| e_local (v := .w 3) (by rfl) (by rfl) ⟨cHost, .w 2, (hostD0 (.l 1) (.l 3) t).take 6, rfl, rfl, g.set' (by decide +kernel), (show 6 < 1000 by decide), ?_⟩
  refine ss_cons <| s_setattr <| e_cls g.cTab (g.gl' (by decide +kernel)) (by rfl) rfl <| as_cons <| e_neg <| e_int ⟨60, rfl, as_nil ⟨rfl, c_tt g <| e_local (v := .w 3) (by rfl) (by rfl) ⟨cHost, .w 2, (hostD0 (.l 1) (.l 3) t).take 7, rfl, rfl, g.set' (by decide +kernel), (show 7 < 1000 by decide), ?_⟩⟩⟩
  exact ss_nil ⟨rfl, h t⟩
theorem c_set (g : Gr G) {w : List Cell} {d0 d1 d2 d3 : Cell} {n f : V} (hf : isN f = some false)
    (h : K .none ⟨w, [d0, d1, d2, d3, .dict [("number", n), ("keys", .l 6), ("values", .l 7), ("meta", .none)], .inst cTable (.l 4), .list [.byt bCall], .list [f]]⟩) :
    FT G fd_set ["self", "key", "value"] [.l 5, .byt bCall, f] ⟨w, [d0, d1, d2, d3, .dict [("number", n), ("keys", .l 6), ("values", .l 7), ("meta", .none)], .inst cTable (.l 4), .list [], .list []]⟩ (d + 1) true K X := by
  refine ss_cons <| s_set (by rfl) <| e_lm g (v := .l 5) (C := cTable) g.find rfl rfl <| as_cons <| e_local (v := .byt bCall) (by rfl) (by rfl) <| as_nil ⟨rfl, c_find0 g (v := .l 5) (es := [("number", n), ("keys", .l 6), ("values", .l 7), ("meta", .none)]) (kv := .l 6) rfl rfl rfl rfl ?_⟩
  refine ss_cons <| s_if <| b_cmpb .ge <| e_local (v := .int (-1)) (by rfl) (by rfl) <| e_int ⟨_, _, false, rfl, rfl, rfl, ss_cons <| s_if <| b_cv <| e_local (v := f) (by rfl) (by rfl) <| e_none ⟨_, cv_isnn hf, ?_⟩⟩
  refine ss_cons <| s_expr <| e_append <| e_la g (v := .l 5) (C := cTable) (u := .l 6) rfl rfl ⟨⟨[], rfl⟩, as_cons <| e_local (v := .byt bCall) (by rfl) (by rfl) <| as_nil ⟨_, [], rfl, rfl, by decide, ?_⟩⟩
  exact ss_cons <| s_expr <| e_append <| e_la g (v := .l 5) (C := cTable) (u := .l 7) (es := [("number", n), ("keys", .l 6), ("values", .l 7), ("meta", .none)]) rfl rfl ⟨⟨[], rfl⟩, as_cons <| e_local (v := f) (by rfl) (by rfl) <| as_nil ⟨_, [], rfl, rfl, by decide, ss_nil <| ss_nil <| ss_nil h⟩⟩
end
end Mine
end
section
open PySem PySem.W PyProof.Rows PySem.Calls PySem.Spec PySem.SeqAt
set_option maxRecDepth 10000
namespace Mine
noncomputable def workPos : Pos := match nthS fd_function.body 1 with | .FunctionDef _ _ _ _ _ _ _ _ _ p => p | _ => ⟨0, 0, 0, 0⟩
noncomputable def tabC (made : Bool) : Cell := .tab 430 workPos (fd_function.qual ++ ".<locals>." ++ "work") made
theorem work_free : ∀ x ∈ fd_work.scope.names, x.2 = .free → fd_function.scope.names.lookup x.1 = some .cell := by decide +kernel
theorem fun_cells : ∀ p ∈ fd_function.scope.names, p.2 = .cell → p.1 ∈ ([("world" : Str), "at", "deeds", "last"]) := by decide +kernel
theorem work_mem : ∀ x ∈ ([("world" : Str), "at", "deeds", "last"]), (x, NameKind.free) ∈ fd_work.scope.names := by decide +kernel
section
variable {G : Gd} {d : Nat} {K X : V → AS → Prop} {P : Plans}
theorem c_function (g : Gr G) {w : List Cell} {es : List (Str × V)} {made : Bool} {i : Nat} (hi : i < 3) (h0 : w[0]? = some (tabC made)) (h8 : w[8]? = some (.map es)) (hp : es.lookup ("plans" : Str) = some (plansV P))
    (h : K (.l 1) ⟨w.set 0 (tabC true), [.dict [("number", .int (-10 - i)), ("name", .byt #[102]), ("work", .clo fd_work (workE P i))], .inst cBuiltin (.l 0)]⟩) :
    FTc G fd_function 434 ["world", "at"] [.w 8, .int i] ⟨w, []⟩ (d + 2) true K X := by
  refine ss_cons <| s_tup <| e_item <| e_key <| e_cell (v := .w 8) (by rfl) (by rfl) <| e_str ⟨_, es, plansV P, rfl, h8, hp, e_cell (v := .int i) (by rfl) (by rfl) ⟨_, _, _, rfl, rfl, by omega, by omega, at3 _ hi, ta_tup (ta_cel (by rfl) (by rfl) (ta_cel (by rfl) (by rfl) ?_)) (fun v hv => ?_) rfl rfl (fun env => by rfl)⟩⟩
  · refine ss_cons <| s_def (es := workE P i) rfl g.code h0 rfl rfl (fun env => by rfl) (by rfl) (fun x hx => ?_) work_free (fun x v e => ?_) ?_
    · have := fun_cells _ (mem_of_lookup hx) rfl
      simp only [List.mem_cons, List.not_mem_nil, or_false] at this
      rcases this with rfl | rfl | rfl | rfl <;> exact fun q => by cases q
    · have := mem_of_lookup e
      simp only [workE, List.mem_cons, List.not_mem_nil, or_false, Prod.mk.injEq] at this
      rcases this with ⟨rfl, rfl⟩ | ⟨rfl, rfl⟩ | ⟨rfl, rfl⟩ | ⟨rfl, rfl⟩ <;> exact ⟨work_mem _ (by decide), by rfl⟩
    · refine ss_cons <| s_ret <| e_cls g.cBui (g.gl' (by decide +kernel)) (by rfl) rfl <| as_cons <| e_bin .sub <| e_neg <| e_int ⟨10, rfl, e_cell (v := .int i) (by rfl) (by rfl) ⟨_, _, rfl, rfl, as_cons <| e_byt <| as_cons <| e_local (v := .clo fd_work (workE P i)) (by rfl) (by rfl) <| as_nil ⟨rfl, c_bi g h⟩⟩⟩
  · simp only [List.mem_cons, List.not_mem_nil, or_false] at hv
    rcases hv with rfl | rfl
    · exact deeds_lf _
    · exact .int
end
end Mine
end
section
open PySem PySem.W PyProof.Rows PySem.Calls PySem.Spec PySem.SeqAt
set_option maxRecDepth 10000
namespace Mine
noncomputable def AllC (σ : AS) : List Cell → List Cell → Prop
  | [], [] => True
  | a :: as, b :: bs => CFz σ 0 a b ∧ AllC σ as bs
  | _, _ => False
theorem AllC.get {σ} : ∀ {as bs : List Cell}, AllC σ as bs → bs.length = as.length ∧ ∀ (i : Nat) a b, as[i]? = some a → bs[i]? = some b → CFz σ 0 a b
  | [], [], _ => ⟨rfl, fun i a b e => by simp at e⟩
  | a :: as, b :: bs, h => by
    have ih := h.2.get
    refine ⟨by simp [ih.1], fun i x y e1 e2 => ?_⟩
    cases i with
    | zero => cases e1; cases e2; exact h.1
    | succ i => exact ih.2 i x y e1 e2
theorem AllFz.get {σ n} : ∀ {es fs : List (Str × V)}, AllFz σ n es fs → es.length = fs.length ∧ ∀ (i : Nat) e f, es[i]? = some e → fs[i]? = some f → e.1 = f.1 ∧ Fz σ n e.2 f.2
  | [], [], _ => ⟨rfl, fun i a b e => by simp at e⟩
  | (x, u) :: as, (y, v) :: bs, h => by
    have ih := h.2.2.get
    refine ⟨by simp [ih.1], fun i x y e1 e2 => ?_⟩
    cases i with
    | zero => cases e1; cases e2; exact ⟨h.1, h.2.1⟩
    | succ i => exact ih.2 i x y e1 e2
theorem cfz_snoc {σ : AS} {xs : List V} {u v : V} (hx : ∀ x ∈ xs, LFn 0 x) (h : Fz σ 0 u v) : CFz σ 0 (.list (xs ++ [u])) (.list (xs ++ [v])) := by
  refine ⟨by simp, fun j x y e1 e2 => ?_⟩
  by_cases q : j < xs.length
  · rw [List.getElem?_append_left q] at e1 e2
    rw [e1] at e2; cases e2
    exact .keep (hx _ (List.mem_of_getElem? e1))
  · rw [List.getElem?_append_right (Nat.le_of_not_lt q)] at e1 e2
    cases z : j - xs.length with
    | zero => rw [z] at e1 e2; cases e1; cases e2; exact h
    | succ k => rw [z] at e1; simp at e1
noncomputable abbrev lwC (d : Nat) : Cx := ⟨fd_law.qual, fd_law.scope, 0, d, true, none⟩
theorem law_cells : ∀ p ∈ fd_law.scope.names, p.2 = .cell → p.1 = ("spool" : Str) := by decide +kernel
section
variable {G : Gd} {d : Nat} {K : Fl → Loc → AS → Prop} {X : V → Loc → AS → Prop}
theorem law_frz {t : Env → Sem Flow} {m m' : Loc} {w w' l : List Cell} (hs : m'.lookup ("spool" : Str) ≠ none) (fm : ∀ p ∈ m', ∃ v, m.lookup p.1 = some v ∧ Fz ⟨w, l⟩ 0 v p.2) (hA : AllC ⟨w, l⟩ w w') (h : SX G (lwC d) t m' ⟨w', []⟩ K X) : SX G (lwC d) t m ⟨w, l⟩ K X :=
  sx_frz (n := 0) ⟨fm_of fm, fun x q e => absurd q (by have e' := law_cells _ (mem_of_lookup e) rfl; dsimp only at e'; rw [e']; exact hs), hA.get.1, fun i c c' e1 e2 => hA.get.2 i c c' e1 e2, rfl, fun i c c' hi => absurd hi (Nat.not_lt_zero i)⟩ (Nat.le_refl 0) (Nat.zero_le _) h
noncomputable def spC (ns : List Int) (n : Nat) : Cell := .list [.lst (ns.map .int), .int n]
theorem sp_cfn (ns : List Int) (n : Nat) : CFn 0 (spC ns n) := fun v hv => by
  simp only [List.mem_cons, List.not_mem_nil, or_false] at hv
  rcases hv with rfl | rfl
  · exact (LF.lst fun x hx => by obtain ⟨i, _, rfl⟩ := List.mem_map.mp hx; exact .int).n
  · exact LF.int.n
noncomputable def mkP (d0 d1 d2 : List (Nat × Nat)) (l0 l1 l2 : Nat) : Plans := ⟨fun i => match i with | 0 => d0 | 1 => d1 | _ => d2, fun i => match i with | 0 => l0 | 1 => l1 | _ => l2⟩
theorem mkP_ok {d0 d1 d2 l0 l1 l2} (h0 : GoodD 0 d0) (h1 : GoodD 1 d1) (h2 : GoodD 2 d2) (e0 : d0.length ≤ 2) (e1 : d1.length ≤ 2) (e2 : d2.length ≤ 2) (f0 : l0 < 4) (f1 : l1 < 4) (f2 : l2 < 4) : (mkP d0 d1 d2 l0 l1 l2).Ok where
  len i := match i with | 0 => e0 | 1 => e1 | _ + 2 => e2
  zero := h0.1 rfl
  succ i hi p hp := match i, hi, hp with
    | 1, _, hp => h1.2 (by decide) p hp
    | j + 2, _, hp => have := h2.2 (by decide) p hp; ⟨this.1, by omega⟩
  last i := match i with | 0 => f0 | 1 => f1 | _ + 2 => f2
noncomputable def mL1 (ns : List Int) : Loc := [("spool", .w 1), ("script", .lst (ns.map .int))]
noncomputable def mL2 (P : Plans) (ns : List Int) : Loc := ("plans", plansV P) :: mL1 ns
noncomputable def mL3 (base most : Int) (P : Plans) (ns : List Int) : Loc := ("base", .int base) :: ("most", .int most) :: mL2 P ns
theorem ce_cons {fd : FD} {ps : List Str} {d : Nat} {hn : Bool} {ar : V → List V} {x : V} {r acc : List V} {σ : AS} {K : List V → AS → Prop} (h : FT G fd ps (ar x) σ d hn (fun v σ1 => LF v ∧ CE G fd ps d hn ar r (acc ++ [v]) σ1 K) (fun _ _ => False)) : CE G fd ps d hn ar (x :: r) acc σ K := h
theorem upto3 : upto 3 = [.int (0 : Nat), .int (1 : Nat), .int (2 : Nat)] := rfl
set_option maxHeartbeats 2000000 in
theorem law01 (g : Gr G) {ns : List Int} (hns : ns.length ≤ 63) (h : ∀ P n, P.Ok → n ≤ 18 → SS G (lwC (d + 2)) (fd_law.body.drop 2) (mL2 P ns) (spS [tabC false, .list []] (ns.take 63) n []) K X) :
    SS G (lwC (d + 2)) fd_law.body [("script", .lst (ns.map .int))] ⟨[tabC false], []⟩ K X := by
  refine ss_cons <| s_setc (by rfl) (by rfl) <| e_listW <| as_cons <| e_upto <| e_local (v := .lst (ns.map .int)) (by rfl) (by rfl) <| e_int ⟨_, _, rfl, rfl, by decide, by rw [List.length_map]; omega, as_cons <| e_int <| as_nil ⟨(show 2 ≤ 1000 by decide), ?_⟩⟩
  have e63 : (ns.map V.int).take (63 : Int).toNat = (ns.take 63).map .int := List.map_take.symm
  rw [e63]
  have hns' : (ns.take 63).length ≤ 63 := List.length_take_le ..
  generalize ns.take 63 = ns' at *
  have bel : ∀ cc ∈ [tabC false, .list []], CFn 0 cc := fun cc hc => by
    simp only [List.mem_cons, List.not_mem_nil, or_false] at hc
    rcases hc with rfl | rfl
    · trivial
    · exact fun v hv => by cases hv
  have lf : ∀ ds (l : Nat), LF (.tup [deedsV ds, .int l]) := fun ds l => .tup fun v hv => by
    simp only [List.mem_cons, List.not_mem_nil, or_false] at hv
    rcases hv with rfl | rfl
    · exact deeds_lf _
    · exact .int
  refine ss_cons <| s_comp (vy := .w 1) (y := "spool") (hv := by decide +kernel) rfl rfl g.deeds rfl rfl rfl (g.gl' (by decide +kernel)) (by rfl) (by rfl) (by rfl) (by rfl) (by rfl) (by rfl) (g.blt (v := .type "range")) (by rfl) (by decide +kernel) (by decide +kernel) (by decide +kernel) (by decide) ?_
  rw [upto3]
  refine ce_cons (c_deeds (w0 := [tabC false, .list []]) (n := 0) g (by decide) bel hns' (by decide) fun d0 l0 n0 g0 e0 f0 h0 => ⟨lf _ _, ?_⟩)
  refine ce_cons (c_deeds g (by decide) bel hns' (by omega) fun d1 l1 n1 g1 e1 f1 h1 => ⟨lf _ _, ?_⟩)
  refine ce_cons (c_deeds g (by decide) bel hns' (by omega) fun d2 l2 n2 g2 e2 f2 h2 => ⟨lf _ _, ?_⟩)
  exact h (mkP d0 d1 d2 l0 l1 l2) n2 (mkP_ok g0 g1 g2 e0 e1 e2 f0 f1 f2) (by omega)
theorem base_at {r : Nat} (h : r < 5) : ∃ b : Int, [V.int 740, .int 780, .int 796, .int 803, .int 0][((r : Nat) : Int).toNat]? = some (.int b) ∧ 0 ≤ b ∧ b ≤ 803 := by
  have : r = 0 ∨ r = 1 ∨ r = 2 ∨ r = 3 ∨ r = 4 := by omega
  rcases this with rfl | rfl | rfl | rfl | rfl <;> exact ⟨_, rfl, by decide, by decide⟩
set_option maxHeartbeats 2000000 in
theorem law2 (g : Gr G) {ns ns' : List Int} (hns' : ns'.length ≤ 63) {P n} (hn : n ≤ 18) (h : ∀ base most, 0 ≤ base → base ≤ 803 → SS G (lwC (d + 1)) (fd_law.body.drop 3) (mL3 base most P ns) (spS [tabC false, .list []] ns' (n + 1 + 1) []) K X) :
    SS G (lwC (d + 1)) (fd_law.body.drop 2) (mL2 P ns) (spS [tabC false, .list []] ns' n []) K X := by
  refine ss_cons <| s_swap (x := "base") (y := "most") (by rfl) (by rfl) rfl <| e_tup <| as_cons <| e_item <| e_list <| as_cons <| e_int <| as_cons <| e_int <| as_cons <| e_int <| as_cons <| e_int <| as_cons <| e_int <| as_nil ⟨(show 5 ≤ 1000 by decide), e_call g.draw (g.gl' (by decide +kernel)) (by rfl) rfl <| as_cons <| e_cell (v := .w 1) (by rfl) (by rfl) <| as_cons <| e_int <| as_nil ⟨rfl, c_draw (b := 5) g (by decide) hns' (by omega) (by decide) fun r hr => ?_⟩⟩
  obtain ⟨b, hb, b0, b1⟩ := base_at hr
  exact ⟨_, _, _, rfl, rfl, by omega, by omega, hb, as_cons <| e_bin .add <| e_int <| e_call g.draw (g.gl' (by decide +kernel)) (by rfl) rfl <| as_cons <| e_cell (v := .w 1) (by rfl) (by rfl) <| as_cons <| e_int <| as_nil ⟨rfl, c_draw (b := 29) g (by decide) hns' (by omega) (by decide) fun r2 hr2 => ⟨_, _, rfl, rfl, as_nil ⟨(show 2 ≤ 1000 by decide), _, _, rfl, h b (6 + r2) b0 b1⟩⟩⟩⟩
end
end Mine
end
section
open PySem PySem.W PyProof.Rows PySem.Calls PySem.Spec PySem.SeqAt
set_option maxRecDepth 10000
namespace Mine
noncomputable def hW (deep most : Int) : HW := ⟨0, deep, most, 4, [], []⟩
noncomputable def w5 (a s : Cell) (deep most : Int) : List Cell := [a, s, .dict (hostD (hW deep most)), .inst cHost (.w 2), .list []]
noncomputable def mL4 (base most : Int) (P : Plans) (ns : List Int) : Loc := ("host", .w 3) :: mL3 base most P ns
section
variable {G : Gd} {d : Nat}
theorem c_go0 (g : Gr G) {a s : Cell} {most b : Int} {hn : Bool} {K X : V → AS → Prop} (hb : b ≤ 820) (h : K .none ⟨w5 a s b most, []⟩) : FT G fd_go_deeper ["self", "many"] [.w 3, .int b] ⟨w5 a s 0 most, []⟩ d hn K X := by
  refine ss_cons <| s_augattr .add <| e_local (v := .w 3) (by rfl) (by rfl) ⟨cHost, .w 2, hostD (hW 0 most), 0, rfl, rfl, g.at' (by decide +kernel), rfl, e_local (v := .int b) (by rfl) (by rfl) ⟨rfl, b, rfl, g.set' (by decide +kernel), (show (8:Nat) < 1000 from by decide), ?_⟩⟩
  have e : putCell ⟨w5 a s 0 most, []⟩ (.w 2) (.dict (putA "deep" (.int (0 + b)) (hostD (hW 0 most)))) = ⟨w5 a s b most, []⟩ := by rw [Int.zero_add]; rfl
  rw [e]
  obtain ⟨t, hdeep⟩ := g.deep
  exact ss_cons <| s_if <| b_cmpb .gt <| e_la g (v := .w 3) (C := cHost) (es := hostD (hW b most)) rfl rfl <| e_glob hdeep (by rfl) rfl ⟨_, _, false, rfl, rfl, decide_eq_false (show ¬b > 820 by omega), ss_nil <| ss_nil h⟩
variable {K : Fl → Loc → AS → Prop} {X : V → Loc → AS → Prop}
theorem keep_mem {σ : AS} {m : Loc} (hm : ∀ p ∈ m, LF p.2 ∧ m.lookup p.1 = some p.2) : ∀ p ∈ m, ∃ v, m.lookup p.1 = some v ∧ Fz σ 0 v p.2 := fun p hp => ⟨p.2, (hm p hp).2, .keep (hm p hp).1.n⟩
theorem plans_lf (P : Plans) : LF (plansV P) := .lst fun x hx => by
  obtain ⟨i, _, rfl⟩ := List.mem_map.mp hx
  exact .tup fun v hv => by
    simp only [List.mem_cons, List.not_mem_nil, or_false] at hv
    rcases hv with rfl | rfl
    · exact deeds_lf _
    · exact .int
theorem script_lf (ns : List Int) : LF (.lst (ns.map .int)) := .lst fun x hx => by obtain ⟨i, _, rfl⟩ := List.mem_map.mp hx; exact .int
theorem mL4_ok (base most : Int) (P ns) : ∀ p ∈ mL4 base most P ns, LF p.2 ∧ (mL4 base most P ns).lookup p.1 = some p.2 := fun p hp => by
  simp only [mL4, mL3, mL2, mL1, List.mem_cons, List.not_mem_nil, or_false] at hp
  rcases hp with rfl | rfl | rfl | rfl | rfl | rfl
  · exact ⟨.w, rfl⟩
  · exact ⟨.int, rfl⟩
  · exact ⟨.int, rfl⟩
  · exact ⟨plans_lf P, rfl⟩
  · exact ⟨.w, rfl⟩
  · exact ⟨script_lf ns, rfl⟩
set_option maxHeartbeats 2000000 in
theorem law34 (g : Gr G) {ns ns' : List Int} {P n base most} (hb : base ≤ 820) (h : SS G (lwC (d + 4)) (fd_law.body.drop 5) (mL4 base most P ns) ⟨w5 (tabC false) (spC ns' n) base most, []⟩ K X) :
    SS G (lwC (d + 4)) (fd_law.body.drop 3) (mL3 base most P ns) (spS [tabC false, .list []] ns' n []) K X := by
  obtain ⟨pre, post, F, h1, h2⟩ := g.cLim
  refine ss_cons <| s_set (by rfl) <| e_clsW g.cHos (g.gl' (by decide +kernel)) (by rfl) rfl <| as_cons <| e_clsk F (g.gl' (by decide +kernel)) (by rfl) rfl <| e_local (v := .int most) (by rfl) (by rfl) ?_
  rw [h1, h2]
  refine c_limits g <| as_cons <| e_byt <| as_nil ⟨rfl, c_host (d := d) g fun t => ?_⟩
  refine law_frz (m' := mL4 base most P ns) (w' := w5 (tabC false) (spC ns' n) 0 most) (fun q => by cases q) (keep_mem (mL4_ok _ _ _ _)) ⟨.keep trivial, .keep (sp_cfn ns' n), ⟨?_, .keep LF.w.n, .keep (fun v hv => by cases hv), trivial⟩⟩ ?_
  · refine AllFz.get (fs := hostD (hW 0 most)) ⟨rfl, AllFz.ins (j := 0) (es := limD most) (fs := limD most) ?_ rfl rfl (Nat.zero_le _) (Nat.zero_le _), rfl, .any, rfl, .any, rfl, .keep LF.int.n, rfl, .keep LF.int.n, rfl, .keep LF.w.n, rfl, .keep LF.int.n, rfl, .any, trivial⟩
    exact ⟨rfl, .keep LF.int.n, rfl, .keep LF.int.n, rfl, .keep LF.int.n, rfl, .keep LF.int.n, rfl, .keep LF.int.n, rfl, .keep LF.int.n, rfl, .keep LF.int.n, rfl, .keep LF.int.n, rfl, .keep LF.int.n, rfl, .keep LF.int.n, trivial⟩
  · exact ss_cons <| s_expr <| e_lm g (v := .w 3) (C := cHost) (es := hostD (hW 0 most)) g.go_deeper rfl rfl <| as_cons <| e_local (v := .int base) (by rfl) (by rfl) <| as_nil ⟨rfl, c_go0 g hb h⟩
noncomputable def w9 (a s h : Cell) (fs ts : List V) (P : Plans) : List Cell := [a, s, h, .inst cHost (.w 2), .list [], .list [], .list fs, .list ts, .map (worldE P)]
noncomputable def mL5 (base most : Int) (P : Plans) (ns : List Int) : Loc := ("world", .w 8) :: mL4 base most P ns
theorem mL5_ok (base most : Int) (P ns) : ∀ p ∈ mL5 base most P ns, LF p.2 ∧ (mL5 base most P ns).lookup p.1 = some p.2 := fun p hp => by
  rcases List.mem_cons.mp hp with rfl | hp
  · exact ⟨.w, rfl⟩
  · simp only [mL4, mL3, mL2, mL1, List.mem_cons, List.not_mem_nil, or_false] at hp
    rcases hp with rfl | rfl | rfl | rfl | rfl | rfl
    · exact ⟨.w, rfl⟩
    · exact ⟨.int, rfl⟩
    · exact ⟨.int, rfl⟩
    · exact ⟨plans_lf P, rfl⟩
    · exact ⟨.w, rfl⟩
    · exact ⟨script_lf ns, rfl⟩
set_option maxHeartbeats 2000000 in
theorem law5 (g : Gr G) {ns ns' : List Int} {P n base most} (h : SS G (lwC (d + 4)) (fd_law.body.drop 6) (mL5 base most P ns) ⟨w9 (tabC false) (spC ns' n) (.dict (hostD (hW base most))) [] [] P, []⟩ K X) :
    SS G (lwC (d + 4)) (fd_law.body.drop 5) (mL4 base most P ns) ⟨w5 (tabC false) (spC ns' n) base most, []⟩ K X := by
  refine ss_cons <| s_set (by rfl) <| e_dictW (ks := ["plans", "notes", "catcher", "functions", "tables"]) (nd := by decide +kernel) (hall := rfl) (hl := rfl) (h0 := by exact fun q => by cases q) (hlen := by decide) <| dp_cons (kx := ("plans" : Str)) (fun _ _ _ _ _ _ _ q => key_str q) <| e_local (v := plansV P) (by rfl) (by rfl) <| dp_cons (kx := ("notes" : Str)) (fun _ _ _ _ _ _ _ q => key_str q) <| e_list0W <|
    dp_cons (kx := ("catcher" : Str)) (fun _ _ _ _ _ _ _ q => key_str q) <| e_cls g.cBui (g.gl' (by decide +kernel)) (by rfl) rfl <| as_cons <| e_neg <| e_int ⟨20, rfl, as_cons <| e_byt <| as_cons <| e_glob (g.gl' (x := "base_pcall") (a := 399) (by decide +kernel)) (by rfl) rfl <| as_nil ⟨rfl, c_bi g <|
    dp_cons (kx := ("functions" : Str)) (fun _ _ _ _ _ _ _ q => key_str q) <| e_list0W <| dp_cons (kx := ("tables" : Str)) (fun _ _ _ _ _ _ _ q => key_str q) <| e_list0W <| dp_nil ?_⟩⟩
  refine law_frz (m' := mL5 base most P ns) (w' := w9 (tabC false) (spC ns' n) (.dict (hostD (hW base most))) [] [] P) (fun q => by cases q) (keep_mem (mL5_ok _ _ _ _)) ⟨.keep trivial, .keep (sp_cfn ns' n), .keep (host_cfn (hW base most)), .keep LF.w.n, .keep (fun v hv => by cases hv), .keep (fun v hv => by cases hv), .keep (fun v hv => by cases hv), .keep (fun v hv => by cases hv), ?_, trivial⟩ h
  refine AllFz.get (fs := worldE P) ⟨rfl, .keep (plans_lf P).n, rfl, .keep LF.w.n, rfl, ?_, rfl, .keep LF.w.n, rfl, .keep LF.w.n, trivial⟩
  exact AllFz.ins (i := 1) (j := 0) (es := [("number", .int (-20)), ("name", .byt #[112, 99, 97, 108, 108]), ("work", .cst (.ref 399))]) ⟨rfl, .keep LF.int.n, rfl, .keep LF.byt.n, rfl, .keep LF.cst.n, trivial⟩ rfl rfl (Nat.zero_le _) (Nat.zero_le _)
end
end Mine
end
section
open PySem PySem.W PyProof.Rows PySem.Calls PySem.Spec PySem.SeqAt
set_option maxRecDepth 10000
namespace Mine
noncomputable def lawTgt6 : Expr := match nthS fd_law.body 6 with | .For t _ _ _ _ => t | _ => .Constant .none 0 ⟨0, 0, 0, 0⟩
noncomputable def lawFor6 : List Stmt := match nthS fd_law.body 6 with | .For _ _ b _ _ => b | _ => []
theorem fz_l0 {σ : AS} {i : Nat} (e : σ.l[i]? = some (.list [])) : Fz σ 0 (.l i) (.lst []) := .lst e (Nat.zero_le _) rfl fun j x y e1 => by simp at e1
theorem fz_l1 {σ : AS} {i : Nat} {u : V} (e : σ.l[i]? = some (.list [u])) (h : LF u) : Fz σ 0 (.l i) (.lst [u]) := .lst e (Nat.zero_le _) rfl fun j x y e1 e2 => by
  cases j with
  | zero => cases e1; cases e2; exact .keep h.n
  | succ => simp at e1
theorem world_lf (P : Plans) : CFn 0 (.map (worldE P)) := fun p hp => by
  simp only [worldE, List.mem_cons, List.not_mem_nil, or_false] at hp
  rcases hp with rfl | rfl | rfl | rfl | rfl
  · exact (plans_lf P).n
  · exact LF.w.n
  · exact pcV_lf.n
  · exact LF.w.n
  · exact LF.w.n
theorem nil_cfn : CFn 0 (.list []) := fun v hv => by cases hv
theorem mL5_ne {base most : Int} {P ns} : ∀ p ∈ mL5 base most P ns, (p.1 == ("at" : Str)) = false ∧ (p.1 == ("table" : Str)) = false := fun p hp => by
  simp only [mL5, mL4, mL3, mL2, mL1, List.mem_cons, List.not_mem_nil, or_false] at hp
  rcases hp with rfl | rfl | rfl | rfl | rfl | rfl | rfl <;> (dsimp only; decide)
section
variable {G : Gd} {d : Nat} {K : Fl → Loc → AS → Prop} {X : V → Loc → AS → Prop}
set_option maxHeartbeats 2000000 in
theorem law_turn (g : Gr G) {base most : Int} {P : Plans} {ns : List Int} {i : Nat} (hi : i < 3) {mk : Bool} {sp h : Cell} {fs ts r : List V} (hsp : CFn 0 sp) (hh : CFn 0 h) (hfs : ∀ v ∈ fs, LF v) (hts : ∀ v ∈ ts, LF v) (hlf : fs.length = i) (hlt : ts.length = i)
    (hn : FB G (lwC (d + 6)) (assign lawTgt6) lawFor6 r (mL5 base most P ns) ⟨w9 (tabC true) sp h (fs ++ [fnV P i]) (ts ++ [tabV i (fnV P i)]) P, []⟩ K X) :
    FB G (lwC (d + 6)) (assign lawTgt6) lawFor6 (.int i :: r) (mL5 base most P ns) ⟨w9 (tabC mk) sp h fs ts P, []⟩ K X := by
  refine ta_loc (x := "at") (by rfl) ?_
  refine ss_cons <| s_expr <| e_append <| e_key <| e_local (v := .w 8) (by rfl) (by rfl) <| e_str ⟨_, worldE P, .w 6, rfl, rfl, rfl, ⟨fs, rfl⟩, as_cons <| e_callC g.function (g.gl' (by decide +kernel)) (by rfl) rfl <| as_cons <| e_local (v := .w 8) (by rfl) (by rfl) <| as_cons <| e_local (v := .int i) (by rfl) (by rfl) <|
    as_nil ⟨rfl, c_function (P := P) (i := i) (made := mk) (es := worldE P) g hi rfl rfl rfl <| as_nil ⟨_, fs, rfl, rfl, by omega, ?_⟩⟩⟩
  have hm5 : ∀ p ∈ (("at", .int i) :: mL5 base most P ns : Loc), LF p.2 ∧ (("at", .int i) :: mL5 base most P ns : Loc).lookup p.1 = some p.2 := fun p hp => by
    rcases List.mem_cons.mp hp with rfl | hp
    · exact ⟨.int, rfl⟩
    · have := mL5_ok base most P ns p hp
      exact ⟨this.1, look_cons this.2 (mL5_ne p hp).1⟩
  refine law_frz (m' := ("at", .int i) :: mL5 base most P ns) (w' := w9 (tabC true) sp h (fs ++ [fnV P i]) ts P) (fun q => by cases q) (keep_mem hm5) ⟨.keep trivial, .keep hsp, .keep hh, .keep LF.w.n, .keep nil_cfn, .keep nil_cfn, cfz_snoc (fun x hx => (hfs x hx).n) ?_, .keep (fun v hv => (hts v hv).n), .keep (world_lf P), trivial⟩ ?_
  · exact AllFz.ins (i := 1) (j := 0) (es := [("number", .int (-10 - i)), ("name", .byt #[102]), ("work", .clo fd_work (workE P i))]) ⟨rfl, .keep LF.int.n, rfl, .keep LF.byt.n, rfl, .keep (LF.clo <| lf_mem fun p hp => by
      simp only [workE, List.mem_cons, List.not_mem_nil, or_false] at hp
      rcases hp with rfl | rfl | rfl | rfl
      · exact .int
      · exact deeds_lf _
      · exact .int
      · exact .w).n, trivial⟩ rfl rfl (Nat.zero_le _) (Nat.zero_le _)
  refine ss_cons <| s_set (by rfl) <| e_cls g.cTab (g.gl' (by decide +kernel)) (by rfl) rfl <| as_cons <| e_bin .sub <| e_neg <| e_int ⟨30, rfl, e_local (v := .int i) (by rfl) (by rfl) ⟨_, _, rfl, rfl, as_nil ⟨rfl, c_tt (l := []) g ?_⟩⟩⟩
  refine ss_cons <| s_setattr <| e_cls g.cTab (g.gl' (by decide +kernel)) (by rfl) rfl <| as_cons <| e_bin .sub <| e_neg <| e_int ⟨40, rfl, e_local (v := .int i) (by rfl) (by rfl) ⟨_, _, rfl, rfl, as_nil ⟨rfl, c_tt (l := [.dict [("number", .int (-30 - i)), ("keys", .l 2), ("values", .l 3), ("meta", .none)], .inst cTable (.l 0), .list [], .list []]) g <|
    e_local (v := .l 1) (by rfl) (by rfl) ⟨cTable, .l 0, [("number", .int (-30 - i)), ("keys", .l 2), ("values", .l 3), ("meta", .none)], rfl, rfl, g.set' (by decide +kernel), (show 4 < 1000 by decide), ?_⟩⟩⟩⟩
  refine ss_cons <| s_expr <| e_meth g.set rfl <| e_la g (v := .l 1) (C := cTable) (es := [("number", .int (-30 - i)), ("keys", .l 2), ("values", .l 3), ("meta", .l 5)]) (u := .l 5) rfl rfl ⟨⟨cTable, [("number", .int (-40 - i)), ("keys", .l 6), ("values", .l 7), ("meta", .none)], rfl, g.me' (by decide +kernel), rfl⟩, as_cons <| e_byt <| as_cons <| e_item <| e_key <| e_local (v := .w 8) (by rfl) (by rfl) <| e_str ⟨_, worldE P, .w 6, rfl, rfl, rfl, e_local (v := .int i) (by rfl) (by rfl) ⟨_, fs ++ [fnV P i], fnV P i, rfl, rfl, by omega, by omega, ?_, as_nil ⟨rfl, c_set (d := d + 4) g rfl ?_⟩⟩⟩⟩
  · show (fs ++ [fnV P i])[i]? = _
    rw [← hlf, List.getElem?_concat_length]
  refine ss_cons <| s_expr <| e_append <| e_key <| e_local (v := .w 8) (by rfl) (by rfl) <| e_str ⟨_, worldE P, .w 7, rfl, rfl, rfl, ⟨ts, rfl⟩, as_cons <| e_local (v := .l 1) (by rfl) (by rfl) <| as_nil ⟨_, ts, rfl, rfl, by omega, ?_⟩⟩
  refine law_frz (m' := mL5 base most P ns) (w' := w9 (tabC true) sp h (fs ++ [fnV P i]) (ts ++ [tabV i (fnV P i)]) P) (fun q => by cases q) (fun p hp => ?_) ⟨.keep trivial, .keep hsp, .keep hh, .keep LF.w.n, .keep nil_cfn, .keep nil_cfn, .keep (fun v hv => ?_), cfz_snoc (fun x hx => (hts x hx).n) ?_, .keep (world_lf P), trivial⟩ (ss_nil hn)
  · have q := hm5 p (.tail _ hp)
    exact ⟨p.2, look_cons q.2 (mL5_ne p hp).2, .keep q.1.n⟩
  · rcases List.mem_append.mp hv with hv | hv
    · exact (hfs v hv).n
    · rw [List.mem_singleton.mp hv]; exact (fnV_lf P i).n
  · exact AllFz.ins (i := 1) (j := 0) (es := [("number", .int (-30 - i)), ("keys", .l 2), ("values", .l 3), ("meta", .l 5)]) ⟨rfl, .keep LF.int.n, rfl, fz_l0 rfl, rfl, fz_l0 rfl, rfl,
      AllFz.ins (i := 5) (j := 4) (es := [("number", .int (-40 - i)), ("keys", .l 6), ("values", .l 7), ("meta", .none)]) ⟨rfl, .keep LF.int.n, rfl, fz_l1 rfl .byt, rfl, fz_l1 rfl (fnV_lf P i), rfl, .keep LF.none.n, trivial⟩ rfl rfl (Nat.zero_le _) (Nat.zero_le _), trivial⟩ rfl rfl (Nat.zero_le _) (Nat.zero_le _)
set_option maxHeartbeats 2000000 in
theorem law6 (g : Gr G) {base most : Int} {P : Plans} {ns : List Int} {sp h : Cell} (hsp : CFn 0 sp) (hh : CFn 0 h)
    (hn : SS G (lwC (d + 6)) (fd_law.body.drop 7) (mL5 base most P ns) ⟨w9 (tabC true) sp h (([0, 1, 2] : List Nat).map fun i => fnV P i) (([0, 1, 2] : List Nat).map fun (i : Nat) => tabV i (fnV P i)) P, []⟩ K X) :
    SS G (lwC (d + 6)) (fd_law.body.drop 6) (mL5 base most P ns) ⟨w9 (tabC false) sp h [] [] P, []⟩ K X := by
  refine ss_cons <| s_forr (hv := by decide +kernel) rfl (g.blt (v := .type "range")) (by rfl) <| e_int ⟨3, rfl, by decide, ?_⟩
  rw [upto3]
  have f0 : ∀ v ∈ ([] : List V), LF v := fun v hv => by cases hv
  have fn : ∀ {fs : List V} {f}, (∀ v ∈ fs, LF v) → LF f → ∀ v ∈ fs ++ [f], LF v := fun h1 h2 v hv => by
    rcases List.mem_append.mp hv with hv | hv
    · exact h1 v hv
    · rw [List.mem_singleton.mp hv]; exact h2
  have lt : ∀ i : Nat, LF (tabV i (fnV P i)) := fun i => tabV_lf (fnV_lf P i)
  refine law_turn (P := P) g (i := 0) (by decide) hsp hh f0 f0 rfl rfl ?_
  refine law_turn (P := P) g (i := 1) (by decide) hsp hh (fn f0 (fnV_lf P 0)) (fn f0 (lt 0)) rfl rfl ?_
  exact law_turn (P := P) g (i := 2) (by decide) hsp hh (fn (fn f0 (fnV_lf P 0)) (fnV_lf P 1)) (fn (fn f0 (lt 0)) (lt 1)) rfl rfl hn
noncomputable def w11 (sp h : Cell) (base most : Int) (P : Plans) : List Cell := [tabC true, sp, h, .inst cHost (.w 2), .list [], .list [], .list (([0, 1, 2] : List Nat).map fun i => fnV P i), .list (([0, 1, 2] : List Nat).map fun (i : Nat) => tabV i (fnV P i)), .map (worldE P), .list [], .map (stE P base most 0)]
noncomputable def mL7 (base most : Int) (P : Plans) (ns : List Int) : Loc := ("state", .w 10) :: mL5 base most P ns
set_option maxHeartbeats 2000000 in
theorem law7 (g : Gr G) {base most : Int} {P : Plans} {ns : List Int} {sp h : Cell} (hn : SS G (lwC d) (fd_law.body.drop 8) (mL7 base most P ns) ⟨w11 sp h base most P, []⟩ K X) :
    SS G (lwC d) (fd_law.body.drop 7) (mL5 base most P ns) ⟨w9 (tabC true) sp h (([0, 1, 2] : List Nat).map fun i => fnV P i) (([0, 1, 2] : List Nat).map fun (i : Nat) => tabV i (fnV P i)) P, []⟩ K X := by
  exact ss_cons <| s_set (by rfl) <| e_dictW (ks := ["plans", "notes", "base", "most", "steps"]) (nd := by decide +kernel) (hall := rfl) (hl := rfl) (h0 := by exact fun q => by cases q) (hlen := by decide) <| dp_cons (kx := ("plans" : Str)) (fun _ _ _ _ _ _ _ q => key_str q) <| e_local (v := plansV P) (by rfl) (by rfl) <| dp_cons (kx := ("notes" : Str)) (fun _ _ _ _ _ _ _ q => key_str q) <| e_list0W <|
    dp_cons (kx := ("base" : Str)) (fun _ _ _ _ _ _ _ q => key_str q) <| e_local (v := .int base) (by rfl) (by rfl) <| dp_cons (kx := ("most" : Str)) (fun _ _ _ _ _ _ _ q => key_str q) <| e_local (v := .int most) (by rfl) (by rfl) <| dp_cons (kx := ("steps" : Str)) (fun _ _ _ _ _ _ _ q => key_str q) <| e_int <| dp_nil hn
end
end Mine
end
section
open PySem PySem.W PyProof.Rows PySem.Calls PySem.Spec PySem.SeqAt
set_option maxRecDepth 10000
namespace Mine
noncomputable def SG (n : Nat) (v : V) : Prop := ∀ σ, DS σ n v v
theorem sg_tup {n : Nat} {xs : List V} (h : ∀ x ∈ xs, SG n x) : SG (n + 1) (.tup xs) := fun σ => .tup rfl fun i x y e1 e2 => by
  rw [e1] at e2; cases e2; exact h x (List.mem_of_getElem? e1) σ
theorem sg_lst {n : Nat} {xs : List V} (h : ∀ x ∈ xs, SG n x) : SG (n + 1) (.lst xs) := fun σ => .lst rfl rfl rfl fun i x y e1 e2 => by
  rw [e1] at e2; cases e2; exact h x (List.mem_of_getElem? e1) σ
theorem sg_int {n i} : SG n (.int i) := fun _ => .int
theorem sg_ti {n x i} : SG (n + 1) (.tup [.str x, .int i]) := sg_tup fun v hv => by
  simp only [List.mem_cons, List.not_mem_nil, or_false] at hv
  rcases hv with rfl | rfl
  · exact fun _ => .str
  · exact sg_int
theorem sg_rs (r : Rs) : SG 1 (rsM r) := by
  cases r with
  | b => exact fun _ => .bool
  | i => exact sg_int
  | tb => exact sg_ti
  | many => exact fun _ => .byt
  | over => exact fun _ => .byt
  | tx => exact fun _ => .byt
theorem sg_ar (a : Ar) : SG 1 (arM a) := by
  cases a with
  | num => exact sg_int
  | th t => cases t with
    | fn => exact sg_int
    | tb => exact sg_ti
    | pc => exact fun _ => .str
    | no => exact fun _ => .str
theorem sg_map {α : Type} {f : α → V} (h : ∀ a, SG 1 (f a)) (l : List α) : SG 2 (.lst (l.map f)) := sg_lst fun v hv => by
  obtain ⟨a, _, rfl⟩ := List.mem_map.mp hv
  exact h a
theorem sg_out (o : Out) : SG 3 (outM o) := by
  cases o with
  | ok f =>
    exact sg_tup fun v hv => by
      simp only [List.mem_cons, List.not_mem_nil, or_false] at hv
      rcases hv with rfl | rfl
      · exact fun _ => .bool
      · exact sg_map sg_rs f
  | err e =>
    exact sg_tup fun v hv => by
      simp only [List.mem_cons, List.not_mem_nil, or_false] at hv
      rcases hv with rfl | rfl
      · exact fun _ => .bool
      · cases e with
        | b => exact fun _ => .bool
        | i => exact sg_int
        | tb => exact sg_ti
        | many => exact fun _ => .byt
        | over => exact fun _ => .byt
        | tx => exact fun _ => .byt
noncomputable def NG (l : List V) : Prop := ∀ v ∈ l, SG 3 v
theorem NG.snoc {l v} (h : NG l) (hv : SG 3 v) : NG (l ++ [v]) := fun x hx => by
  rcases List.mem_append.mp hx with hx | hx
  · exact h x hx
  · rw [List.mem_singleton.mp hx]; exact hv
theorem ng_in {i st deep a} : SG 3 (noteIn i st deep a) := sg_tup fun v hv => by
  simp only [List.mem_cons, List.not_mem_nil, or_false] at hv
  rcases hv with rfl | rfl | rfl | rfl
  · exact sg_int
  · exact sg_int
  · exact sg_int
  · exact sg_map sg_ar a
theorem ng_out {i st deep n f} : SG 3 (noteOut i st deep n f) := sg_tup fun v hv => by
  simp only [List.mem_cons, List.not_mem_nil, or_false] at hv
  rcases hv with rfl | rfl | rfl | rfl | rfl
  · exact sg_int
  · exact sg_int
  · exact sg_int
  · exact sg_int
  · exact sg_map sg_rs f
theorem runC_ng {base most F} (hF : ∀ i a st s, NG s.notes → NG (F i a st s).2.notes) : ∀ a t st s, NG s.notes → NG (runC base most F t a st s).2.notes := by
  intro a
  induction a with
  | nil =>
    intro t st s h
    cases t with
    | no => exact h
    | fn i => exact hF _ _ _ _ h
    | tb i => exact hF _ _ _ _ h
    | pc => simp only [runC]; split <;> (try split) <;> exact h
  | cons x r ih =>
    intro t st s h
    cases t with
    | no => exact h
    | fn i => exact hF _ _ _ _ h
    | tb i => exact hF _ _ _ _ h
    | pc =>
      cases x with
      | num n => exact h
      | th t' =>
        simp only [runC]
        split
        · exact h
        · split
          · exact h
          · have := ih t' (st + 1) { s with steps := s.steps + 1 } h
            revert this
            generalize runC base most F t' r (st + 1) { s with steps := s.steps + 1 } = q
            intro this
            obtain ⟨o, s'⟩ := q
            cases o <;> exact this
theorem runDeeds_ng {call i st deep} (hc : ∀ t a s, NG s.notes → NG (call t a s).2.notes) : ∀ ds f s, NG s.notes → NG (runDeeds call (noteOut i st deep) ds f s).2.notes := by
  intro ds
  induction ds with
  | nil => intro f s h; exact h
  | cons p r ih =>
    intro f s h
    obtain ⟨w, l⟩ := p
    unfold runDeeds
    have := hc (callOf w l).1 (callOf w l).2 s h
    revert this
    generalize call (callOf w l).1 (callOf w l).2 s = q
    intro this
    obtain ⟨o, s'⟩ := q
    cases o with
    | err e => exact this
    | ok f' => exact ih f' _ (NG.snoc this ng_out)
theorem runLv_ng {base most P} : ∀ k i a st s, NG s.notes → NG (runLv base most P k i a st s).2.notes := by
  intro k
  induction k with
  | zero => intro _ _ _ _ h; exact h
  | succ k ih =>
    intro i a st s h
    simp only [runLv]
    split
    · exact h
    · split
      · exact h
      · have := runDeeds_ng (call := fun t a s => runC base most (runLv base most P k) t a (st + 1) s) (i := i) (st := st + 1) (deep := base + 8 * (st + 1)) (fun t a s h => runC_ng ih a t (st + 1) s h) (P.deeds i) [] { steps := s.steps + 1, notes := s.notes ++ [noteIn i (st + 1) (base + 8 * (st + 1)) a] } (NG.snoc h ng_in)
        revert this
        generalize runDeeds _ _ _ _ _ = q
        intro this
        obtain ⟨o, s'⟩ := q
        cases o with
        | err e => exact this
        | ok f => simp only [fin]; split <;> exact this
theorem Wo.setX {fx x w l} (W : Wo fx x ⟨w, l⟩) {i : Nat} {c : Cell} (hi : i = 1 ∨ i = 9 ∨ i = 10) (hc : CFn 0 c) : Wo (fun j => (w.set i c)[j]?) x ⟨w.set i c, l⟩ := by
  have f := W.fi
  have ne : ∀ j, j ≠ 1 → j ≠ 9 → j ≠ 10 → (w.set i c)[j]? = w[j]? := fun j a b d => List.getElem?_set_ne fun q => hi.elim (fun e => a (q.symm.trans e)) fun e => e.elim (fun e => b (q.symm.trans e)) fun e => d (q.symm.trans e)
  refine ⟨(ne 2 (by decide) (by decide) (by decide)).trans W.dict, (ne x.fi (by omega) (by omega) (by omega)).trans W.frs, (ne 5 (by decide) (by decide) (by decide)).trans W.notes, (ne 3 (by decide) (by decide) (by decide)).trans W.inst, fun _ _ _ _ _ => rfl, W.fi, by show 11 ≤ (w.set i c).length; rw [List.length_set]; exact W.len, fun cc h => (mem_set h).elim (W.bel cc) fun q => q ▸ hc⟩
structure LI (P : Plans) (ns : List Int) (base most : Int) (n : Nat) (s : Sp) (w : List Cell) : Prop where
  wo : ∃ fi, Wo (fun i => w[i]?) ⟨s.steps, base, most, fi, [], s.notes⟩ ⟨w, []⟩
  f0 : w[0]? = some (tabC true)
  sp : w[1]? = some (spC ns n)
  f6 : w[6]? = some (.list (([0, 1, 2] : List Nat).map fun i => fnV P i))
  f7 : w[7]? = some (.list (([0, 1, 2] : List Nat).map fun (i : Nat) => tabV i (fnV P i)))
  f8 : w[8]? = some (.map (worldE P))
  n9 : w[9]? = some (.list s.notes)
  n10 : w[10]? = some (.map (stE P base most s.steps))
  ng : NG s.notes
section
variable {P : Plans} {ns : List Int} {base most : Int} {n : Nat} {s : Sp} {w : List Cell}
theorem LI.len (L : LI P ns base most n s w) : 11 ≤ w.length := by obtain ⟨fi, W⟩ := L.wo; exact W.len
theorem LI.gs (L : LI P ns base most n s w) : GS (fun i => w[i]?) base most 0 s ⟨w, []⟩ := by
  obtain ⟨fi, W⟩ := L.wo
  have e : base + 8 * ((0 : Nat) : Int) = base := by omega
  exact ⟨⟨fi, by rw [e]; exact W⟩, rfl⟩
theorem LI.fx (L : LI P ns base most n s w) : Fx P (fun i => w[i]?) := ⟨L.f6, L.f7, L.f8⟩
theorem st_cfn {m : Int} : CFn 0 (.map (stE P base most m)) := fun p hp => by
  simp only [stE, List.mem_cons, List.not_mem_nil, or_false] at hp
  rcases hp with rfl | rfl | rfl | rfl | rfl
  · exact (plans_lf P).n
  · exact LF.w.n
  · exact LF.int.n
  · exact LF.int.n
  · exact LF.int.n
theorem LI.draw (L : LI P ns base most n s w) (k : Nat) : LI P ns base most k s (w.set 1 (spC ns k)) := by
  obtain ⟨fi, W⟩ := L.wo
  have ne : ∀ j, j ≠ 1 → (w.set 1 (spC ns k))[j]? = w[j]? := fun j hj => List.getElem?_set_ne (Ne.symm hj)
  exact ⟨⟨fi, W.setX (.inl rfl) (sp_cfn ns k)⟩, (ne 0 (by decide)).trans L.f0, List.getElem?_set_self (by have := L.len; omega), (ne 6 (by decide)).trans L.f6, (ne 7 (by decide)).trans L.f7, (ne 8 (by decide)).trans L.f8, (ne 9 (by decide)).trans L.n9, (ne 10 (by decide)).trans L.n10, L.ng⟩
theorem LI.sps (L : LI P ns base most n s w) : (⟨w, []⟩ : AS) = spS w ns n [] := by
  show (⟨w, []⟩ : AS) = ⟨w.set 1 (spC ns n), []⟩
  rw [set_same L.sp]
theorem LI.next (L : LI P ns base most n s w) {s' : Sp} {w2 : List Cell} (S : GS (fun i => w[i]?) base most 0 s' ⟨w2, []⟩) (hng : NG s'.notes) : (⟨w2, []⟩ : AS) = MSt w2 P base most s ∧ 11 ≤ w2.length ∧ LI P ns base most n s' (MSt w2 P base most s').w := by
  obtain ⟨⟨fi, W⟩, _⟩ := S
  have e : base + 8 * ((0 : Nat) : Int) = base := by omega
  rw [e] at W
  have q : ∀ i, i < 11 → i ≠ 2 → i ≠ 4 → i ≠ 5 → w2[i]? = w[i]? := W.fx
  have h9 := (q 9 (by decide) (by decide) (by decide) (by decide)).trans L.n9
  have h10 := (q 10 (by decide) (by decide) (by decide) (by decide)).trans L.n10
  refine ⟨?_, W.len, ?_⟩
  · unfold MSt
    rw [set_same h9, set_same h10]
  · have hn : CFn 0 (.list s'.notes) := W.bel _ (List.mem_of_getElem? W.notes)
    have W1 := W.setX (i := 9) (.inr (.inl rfl)) hn
    have W2 := W1.setX (i := 10) (.inr (.inr rfl)) (st_cfn (P := P) (base := base) (most := most) (m := s'.steps))
    have len : 11 ≤ w2.length := W.len
    have ne : ∀ j, j ≠ 9 → j ≠ 10 → ((w2.set 9 (.list s'.notes)).set 10 (.map (stE P base most s'.steps)))[j]? = w2[j]? := fun j h1 h2 => by
      rw [List.getElem?_set_ne (Ne.symm h2), List.getElem?_set_ne (Ne.symm h1)]
    refine ⟨⟨fi, W2⟩, ?_, ?_, ?_, ?_, ?_, ?_, ?_, hng⟩
    · exact (ne 0 (by decide) (by decide)).trans ((q 0 (by decide) (by decide) (by decide) (by decide)).trans L.f0)
    · exact (ne 1 (by decide) (by decide)).trans ((q 1 (by decide) (by decide) (by decide) (by decide)).trans L.sp)
    · exact (ne 6 (by decide) (by decide)).trans ((q 6 (by decide) (by decide) (by decide) (by decide)).trans L.f6)
    · exact (ne 7 (by decide) (by decide)).trans ((q 7 (by decide) (by decide) (by decide) (by decide)).trans L.f7)
    · exact (ne 8 (by decide) (by decide)).trans ((q 8 (by decide) (by decide) (by decide) (by decide)).trans L.f8)
    · show ((w2.set 9 _).set 10 _)[9]? = _
      rw [List.getElem?_set_ne (by decide), List.getElem?_set_self (by omega)]
    · show ((w2.set 9 _).set 10 _)[10]? = _
      rw [List.getElem?_set_self (by rw [List.length_set]; omega)]
end
end Mine
end
section
open PySem PySem.W PyProof.Rows PySem.Calls PySem.Spec PySem.SeqAt
set_option maxRecDepth 10000
namespace Mine
noncomputable def lawTgt8 : Expr := match nthS fd_law.body 8 with | .For t _ _ _ _ => t | _ => .Constant .none 0 ⟨0, 0, 0, 0⟩
noncomputable def lawFor8 : List Stmt := match nthS fd_law.body 8 with | .For _ _ b _ _ => b | _ => []
structure ML (base : Int) (m : Loc) : Prop where
  spool : m.lookup ("spool" : Str) = some (.w 1)
  host : m.lookup ("host" : Str) = some (.w 3)
  world : m.lookup ("world" : Str) = some (.w 8)
  state : m.lookup ("state" : Str) = some (.w 10)
  base : m.lookup ("base" : Str) = some (.int base)
theorem ML.push {b m y v} (h : ML b m) (hy : (([("spool" : Str), "host", "world", "state", "base"]).all fun x => !(x == y)) = true := by decide) : ML b ((y, v) :: m) := by
  simp only [List.all_cons, List.all_nil, Bool.and_true, Bool.and_eq_true, Bool.not_eq_true'] at hy
  exact ⟨look_cons h.spool hy.1, look_cons h.host hy.2.1, look_cons h.world hy.2.2.1, look_cons h.state hy.2.2.2.1, look_cons h.base hy.2.2.2.2⟩
theorem ML.noerr {b m} (h : ML b m) : ML b (m.filter fun p => p.1 != ("error" : Str)) :=
  ⟨(look' m _ (by decide)).trans h.spool, (look' m _ (by decide)).trans h.host, (look' m _ (by decide)).trans h.world, (look' m _ (by decide)).trans h.state, (look' m _ (by decide)).trans h.base⟩
section
variable {G : Gd} {d : Nat} {K : Fl → Loc → AS → Prop} {X : V → Loc → AS → Prop} {P : Plans} {ns : List Int} {base most : Int} {n : Nat} {s : Sp} {w : List Cell}
theorem wf_top {tp : Nat} (h : tp < 3) (x : Int) : Wf 3 .pc [.th (.fn tp), .num x] := .pc (.fn h (fun y hy => by rw [List.mem_singleton.mp hy]; trivial) (show 1 ≤ 5 by decide)) (show 1 ≤ 5 by decide)
set_option maxHeartbeats 2000000 in
theorem law_check (g : Gr G) (hP : P.Ok) (hb : 0 ≤ base) (L : LI P ns base most n s w) {tp : Nat} (htp : tp < 3) {t : Nat} {m : Loc} (hm : ML base m) (ht : m.lookup ("turn" : Str) = some (.int t)) (htop : m.lookup ("top" : Str) = some (.int tp)) {o : Out} {s' : Sp}
    (hrun : runC base most (runLv base most P 3) .pc [.th (.fn tp), .num (5 + t)] 0 s = (o, s')) (htold : m.lookup ("told" : Str) = some (outM o)) {w2 : List Cell} (S : GS (fun i => w[i]?) base most 0 s' ⟨w2, []⟩) (hN : s.notes.length + NB 3 ≤ 100000)
    (h : LI P ns base most n s' (MSt w2 P base most s').w → K .next m (MSt w2 P base most s')) : SS G (lwC (d + 100)) (lawFor8.drop 2) m ⟨w2, []⟩ K X := by
  have hng : NG s'.notes := by
    have := runC_ng (F := runLv base most P 3) (base := base) (most := most) (fun i a st s => runLv_ng 3 i a st s) [.th (.fn tp), .num (5 + t)] .pc 0 s L.ng
    rw [hrun] at this; exact this
  obtain ⟨e2, h11, L2⟩ := L.next S hng
  have L3 := h L2
  obtain ⟨fi, W⟩ := L2.wo
  rw [e2]
  have e5 : lstOf (MSt w2 P base most s') (.w 5) = some s'.notes := by
    show (match (MSt w2 P base most s').w[5]? with | some (.list xs) => some xs | _ => Option.none) = _
    have := W.notes
    rw [this]
  have e9 : lstOf (MSt w2 P base most s') (.w 9) = some s'.notes := by
    show (match (MSt w2 P base most s').w[9]? with | some (.list xs) => some xs | _ => Option.none) = _
    rw [L2.n9]
  refine ss_cons <| s_if <| b_or <| b_cv <| e_local htold (by rfl) <| e_call g.meant (g.gl' (by decide +kernel)) (by rfl) rfl <| as_cons <| e_local hm.state (by rfl) <| as_cons <| e_str <| as_cons <| e_list <| as_cons <| e_local htop (by rfl) <| as_cons <| e_bin .add <| e_int <| e_local ht (by rfl) ⟨_, _, rfl, rfl, as_nil ⟨(show 2 ≤ 1000 by decide), as_cons <| e_int <| as_nil ⟨rfl,
    lvm_all (w0 := w2) (most := most) g h11 hP hb 3 (Nat.le_refl 3) .pc [.th (.fn tp), .num (5 + t)] (wf_top htp _) (st := 0) (d := d + 99) (by decide) (by simp only [List.length_cons, List.length_nil]; omega) hN fun o' s2 e => ?_⟩⟩⟩
  obtain ⟨rfl, rfl⟩ : o = o' ∧ s' = s2 := by rw [hrun] at e; cases e; exact ⟨rfl, rfl⟩
  have ht2 : ∃ xs, outM o = .tup xs := by obtain ⟨b, x, q, _⟩ := outM_lf2 o; exact ⟨_, q⟩
  refine ⟨false, cv_dsne (sg_out o _) (by decide) (.inl ht2), b_or <| b_cv <| e_key <| e_local hm.world (by rfl) <| e_str ⟨_, worldE P, .w 5, rfl, L2.f8, rfl, e_mkey h11 (hx := hm.state) (hf := by rfl) rfl ⟨false, cv_dsne (n := 4) (.lst e5 e9 rfl fun i x y q1 q2 => ?_) (by decide) (.inr ⟨_, e5⟩), b_or0 <| ss_nil ?_⟩⟩⟩
  · rw [q1] at q2; cases q2; exact hng x (List.mem_of_getElem? q1) _
  have ef : lstOf (MSt w2 P base most s') (.w fi) = some [] := by
    show (match (MSt w2 P base most s').w[fi]? with | some (.list xs) => some xs | _ => Option.none) = _
    have : (MSt w2 P base most s').w[fi]? = some (.list []) := W.frs
    rw [this]
  refine ss_cons <| s_if <| b_cv <| e_tup <| as_cons <| e_la g W.host rfl (hx := hm.host) <| as_cons <| e_la g W.host rfl (hx := hm.host) <| as_cons <| e_la g W.host rfl (hx := hm.host) <| as_nil ⟨(show 3 ≤ 1000 by decide), e_tup <| as_cons <| e_list0f <| as_cons <| e_local hm.base (by rfl) <| as_cons <| e_mkey h11 (hx := hm.state) (hf := by rfl) rfl <| as_nil ⟨(show 3 ≤ 1000 by decide), false, cv_dsne (n := 2) (.tup rfl fun i x y q1 q2 => ?_) (by decide) (.inl ⟨_, rfl⟩), ss_nil (ss_nil L3)⟩⟩
  match i with
  | 0 => cases q1; cases q2; exact .lst ef rfl rfl fun i x y q1 => by simp at q1
  | 1 => cases q1; cases q2; exact .int
  | 2 => cases q1; cases q2; exact .int
  | i + 3 => simp at q1
end
end Mine
end
section
open PySem PySem.W PyProof.Rows PySem.Calls PySem.Spec PySem.SeqAt
set_option maxRecDepth 10000
namespace Mine
section
variable {G : Gd} {d : Nat} {K : Fl → Loc → AS → Prop} {X : V → Loc → AS → Prop} {P : Plans} {ns : List Int} {base most : Int} {n : Nat} {s : Sp} {w : List Cell}
theorem top_at {r : Nat} (h : r < 4) : ∃ tp : Nat, [V.int 2, .int 2, .int 1, .int 0][((r : Nat) : Int).toNat]? = some (.int tp) ∧ tp < 3 := by
  match r, h with
  | 0, _ => exact ⟨2, rfl, by decide⟩
  | 1, _ => exact ⟨2, rfl, by decide⟩
  | 2, _ => exact ⟨1, rfl, by decide⟩
  | 3, _ => exact ⟨0, rfl, by decide⟩
set_option maxHeartbeats 2000000 in
theorem law_turn8 (g : Gr G) (hP : P.Ok) (hb : 0 ≤ base) (hb3 : base ≤ 803) (hns : ns.length ≤ 63) (L : LI P ns base most n s w) {t : Nat} {m : Loc} {r : List V} (hm : ML base m) (hn : n ≤ 1000) (hN : s.notes.length + NB 3 ≤ 100000)
    (h : ∀ s' m' w', s'.notes.length ≤ s.notes.length + NB 3 → ML base m' → LI P ns base most (n + 1) s' w' → FB G (lwC (d + 150)) (assign lawTgt8) lawFor8 r m' ⟨w', []⟩ K X) :
    FB G (lwC (d + 150)) (assign lawTgt8) lawFor8 (.int t :: r) m ⟨w, []⟩ K X := by
  have m1 : ML base (("turn", .int t) :: m) := hm.push
  refine ta_loc (x := "turn") (by rfl) ?_
  rw [L.sps]
  have h2 : 2 ≤ w.length := by have := L.len; omega
  refine ss_cons <| s_set (by rfl) <| e_item <| e_list <| as_cons <| e_int <| as_cons <| e_int <| as_cons <| e_int <| as_cons <| e_int <| as_nil ⟨(show 4 ≤ 1000 by decide), e_call g.draw (g.gl' (by decide +kernel)) (by rfl) rfl <| as_cons <| e_cell m1.spool (by rfl) <| as_cons <| e_int <| as_nil ⟨rfl, c_draw (b := 4) g h2 hns hn (by decide) fun q hq => ?_⟩⟩
  obtain ⟨tp, htp, htp3⟩ := top_at hq
  refine ⟨_, _, _, rfl, rfl, by omega, by omega, htp, ?_⟩
  have L1 := L.draw (n + 1)
  show SS G _ _ _ ⟨w.set 1 (spC ns (n + 1)), []⟩ _ _
  generalize w.set 1 (spC ns (n + 1)) = w1 at *
  have m2 : ML base (("top", .int tp) :: ("turn", .int t) :: m) := m1.push
  have S1 := L1.gs
  have S1' := S1
  obtain ⟨⟨fi, W⟩, _⟩ := S1'
  have F := L1.fx
  have h6 : lstOf ⟨w1, []⟩ (.w 6) = some (([0, 1, 2] : List Nat).map fun i => fnV P i) := F.l6 W
  have h8 : cellOf ⟨w1, []⟩ (.w 8) = some (.map (worldE P)) := L1.f8
  have h150 : d + 150 = (d + 50) + 100 := by omega
  rcases hrun : runC base most (runLv base most P 3) .pc [.th (.fn tp), .num (5 + t)] 0 s with ⟨o, s'⟩
  have hnn := runC_notes (base := base) (most := most) (F := runLv base most P 3) (k := NB 3) (fun i a st s => runLv_notes hP 3 i a st s) [.th (.fn tp), .num (5 + t)] .pc 0 s
  rw [hrun] at hnn
  have top := top_call (most := most) (P := P) (fx := fun i => w1[i]?) g hb (lvl_all g F hP hb 3 (Nat.le_refl 3)) (t := .fn tp) (r := [.num (5 + t)]) (.fn htp3 (fun y hy => by rw [List.mem_singleton.mp hy]; trivial) (show 1 ≤ 5 by decide)) (show 1 ≤ 5 by decide)
  have rest : ∀ {m' : Loc} {w2 : List Cell}, ML base m' → m'.lookup ("turn" : Str) = some (.int t) → m'.lookup ("top" : Str) = some (.int tp) → m'.lookup ("told" : Str) = some (outM o) → GS (fun i => w1[i]?) base most 0 s' ⟨w2, []⟩ →
      SS G (lwC (d + 150)) (lawFor8.drop 2) m' ⟨w2, []⟩ (fun fl m2 σ2 => match fl with | .next => FB G (lwC (d + 150)) (assign lawTgt8) lawFor8 r m2 σ2 K X | .cont => FB G (lwC (d + 150)) (assign lawTgt8) lawFor8 r m2 σ2 K X | .brk => K .next m2 σ2 | .ret v => K (.ret v) m2 σ2) X := fun {m' w2} hm' ht' htop' htold' S2 =>
    law_check (d := d + 50) (ns := ns) (n := n + 1) g hP hb L1 htp3 hm' ht' htop' hrun htold' S2 hN fun L3 => h s' m' _ hnn hm' L3
  refine ss_cons <| s_try g.cExc (by rw [g.ec]; exact g.gl' (by decide +kernel)) (by rfl) (by rfl) <| ss_cons <| s_set (by rfl) <| e_tup <| as_cons <| e_bool <| as_cons <| e_comp rfl rfl g.said rfl rfl rfl (g.gl' (by decide +kernel)) (by rfl) (by rfl) (by decide +kernel) (by decide +kernel) (by decide +kernel) <|
    e_lm g g.call W.host rfl (hx := m2.host) <| as_cons <| e_key <| e_local m2.world (by rfl) <| e_str ⟨_, worldE P, pcV, rfl, h8, rfl, as_cons <| e_list <| as_cons <| e_item <| e_key <| e_local m2.world (by rfl) <| e_str ⟨_, worldE P, .w 6, rfl, h8, rfl, e_local (v := .int tp) (by rfl) (by rfl) ⟨_, _, _, rfl, h6, by omega, by omega, at3 _ htp3,
      as_cons <| e_bin .add <| e_int <| e_local (v := .int t) (by rfl) (by rfl) ⟨_, _, rfl, rfl, as_nil ⟨(show 2 ≤ 1000 by decide), as_cons <| e_byt <| as_nil ⟨rfl, top (st := 0) (d := d + 149) S1 (by decide) (by simp only [List.length_cons, List.length_nil]; omega) hN (fun f s2 e σ2 S2 => ?_) fun e s2 he σ2 S2 => ?_⟩⟩⟩⟩⟩⟩
  · rw [hrun] at e
    cases e
    have hf := runC_len (base := base) (most := most) (F := runLv base most P 3) (runLv_len 3) _ _ _ _ _ _ hrun
    refine ⟨_, rfl, fun v hv => ?_, ?_, ce_said g (rsH P) rsM rsM_lf f [] (fun a _ K X q => c_said_rs g a q) <| as_nil ⟨(show 2 ≤ 1000 by decide), ss_nil ?_⟩⟩
    · obtain ⟨x, _, rfl⟩ := List.mem_map.mp hv
      exact rsH_lf P x
    · rw [List.length_map]; simp only [List.length_cons, List.length_nil] at hf; omega
    · obtain ⟨w2, l2⟩ := σ2
      have hl2 := S2.2
      cases hl2
      exact rest m2.push rfl rfl rfl S2
  · rw [hrun] at he
    cases he
    have S3 := S2 (by omega)
    refine ss_cons <| s_set (by rfl) <| e_tup <| as_cons <| e_bool <| as_cons <| e_call g.said (g.gl' (by decide +kernel)) (by rfl) rfl <| as_cons <| e_errval g (u := rsH P e) (by rfl) (by rfl) (rsH_handed P e) <| as_nil ⟨rfl, c_said_rs g e <| as_nil ⟨(show 2 ≤ 1000 by decide), ss_nil ?_⟩⟩
    obtain ⟨w2, l2⟩ := σ2
    have hl2 := S3.2
    cases hl2
    exact rest (m2.push (y := "error") (v := .err (rsH P e))).push.noerr rfl rfl rfl S3
end
end Mine
end
section
open PySem PySem.W PyProof.Rows PySem.Calls PySem.Spec PySem.SeqAt
set_option maxRecDepth 10000
namespace Mine
section
variable {G : Gd} {d : Nat} {P : Plans} {ns : List Int} {base most : Int} {n : Nat}
theorem li_start : LI P ns base most n ⟨0, []⟩ (w11 (spC ns n) (.dict (hostD (hW base most))) base most P) := by
  refine ⟨⟨4, rfl, rfl, rfl, rfl, fun _ _ _ _ _ => rfl, .inl rfl, (show 11 ≤ 11 by decide), fun c hc => ?_⟩, rfl, rfl, rfl, rfl, rfl, rfl, rfl, fun v hv => by cases hv⟩
  simp only [w11, List.mem_cons, List.not_mem_nil, or_false] at hc
  rcases hc with rfl | rfl | rfl | rfl | rfl | rfl | rfl | rfl | rfl | rfl | rfl
  · trivial
  · exact sp_cfn ns n
  · exact host_cfn (hW base most)
  · exact LF.w.n
  · exact nil_cfn
  · exact nil_cfn
  · exact fun v hv => by
      obtain ⟨i, _, rfl⟩ := List.mem_map.mp hv
      exact (fnV_lf P i).n
  · exact fun v hv => by
      obtain ⟨i, _, rfl⟩ := List.mem_map.mp hv
      exact (tabV_lf (fnV_lf P i)).n
  · exact world_lf P
  · exact nil_cfn
  · exact st_cfn
theorem ml_start {ns0 : List Int} : ML base (mL7 base most P ns0) := ⟨rfl, rfl, rfl, rfl, rfl⟩
theorem nb3 : NB 3 = 21 := rfl
set_option maxHeartbeats 2000000 in
theorem law8 (g : Gr G) (hP : P.Ok) (hb : 0 ≤ base) (hb3 : base ≤ 803) (hns : ns.length ≤ 63) (hn : n ≤ 500) {ns0 : List Int} {K : Fl → Loc → AS → Prop} {X : V → Loc → AS → Prop} (h : ∀ m σ, σ.w[0]? = some (tabC true) → K (.ret (.bool true)) m σ) :
    SS G (lwC (d + 150)) (fd_law.body.drop 8) (mL7 base most P ns0) ⟨w11 (spC ns n) (.dict (hostD (hW base most))) base most P, []⟩ K X := by
  refine ss_cons <| s_forr (hv := by decide +kernel) rfl (g.blt (v := .type "range")) (by rfl) <| e_int ⟨2, rfl, by decide, ?_⟩
  have e2 : upto 2 = [.int (0 : Nat), .int (1 : Nat)] := rfl
  rw [e2]
  refine law_turn8 g hP hb hb3 hns li_start (t := 0) ml_start (by omega) (by decide) fun s1 m1 w1 hl1 hm1 L1 => ?_
  refine law_turn8 g hP hb hb3 hns L1 (t := 1) hm1 (by omega) ?_ fun s2 m2 w2 hl2 hm2 L2 => ?_
  · have : s1.notes.length ≤ 0 + NB 3 := hl1
    rw [nb3] at *
    omega
  · exact ss_cons <| s_ret <| e_bool <| h _ _ L2.f0
set_option maxHeartbeats 4000000 in
theorem law_run (g : Gr G) {ns : List Int} (hns : ns.length ≤ 63) : SS G (lwC (d + 150)) fd_law.body [("script", .lst (ns.map .int))] ⟨[tabC false], []⟩ (fun fl _ σ' => fl = .ret (.bool true) ∧ σ'.w[0]? = some (tabC true)) (fun _ _ _ => False) := by
  have hns' : (ns.take 63).length ≤ 63 := List.length_take_le ..
  refine law01 (d := d + 148) g hns fun P n hP hn => ?_
  refine law2 (d := d + 149) g hns' hn fun base most b0 b1 => ?_
  refine law34 (d := d + 146) g (by omega) ?_
  refine law5 (d := d + 146) g ?_
  refine law6 (d := d + 144) g (sp_cfn _ _) (host_cfn (hW base most)) ?_
  refine law7 g ?_
  exact law8 (d := d) g hP b0 b1 hns' (by omega) fun _ _ h => ⟨rfl, h⟩
end
end Mine
end
section
open PySem PySem.W PyProof.Rows PySem.Calls PySem.Spec
set_option maxRecDepth 100000
namespace Mine
noncomputable abbrev E (P : Params) (x : Str) (t : Tok) (v : Value) : DictEntry := ⟨PyData.keyHash P x, .str x t, v⟩
noncomputable def z43 : Obj := { cls := .type "tuple", data := .seq ⟨[]⟩ }
noncomputable def z44 : Obj := { cls := .none, data := .fields ⟨[]⟩ }
noncomputable def o2 (P : Params) : Obj := { cls := .none, data := .dict ⟨[E P "type.__subclasses__.Exception.0" 294 (.int 74 0), E P "type.__subclasses__.Exception.n" 295 (.int 1 0)]⟩ 2 }
noncomputable def o3 (P : Params) : Obj := { cls := .type "dict", data := .dict ⟨[E P "__name__" 165 (.str "law_sm0058_01" 749), E P "__doc__" 166 (.none), E P "__package__" 167 (.none), E P "__loader__" 168 (.builtin "__main__.__loader__#opaque"), E P "__spec__" 169 (.none), E P "__annotations__" 170 (.ref 6), E P "__builtins__" 171 (.ref 4), E P "__file__" 173 (.str "/claim/cut.py" 172), E P "__cached__" 174 (.none), E P "_wall" 193 (.ref 21), E P "Limits" 266 (.ref 53), E P "LuaError" 297 (.ref 74), E P "number_text" 306 (.ref 84), E P "c_text" 314 (.ref 91), E P "first_line" 322 (.ref 98), E P "chunk_id" 333 (.ref 105), E P "MOST_DEEP" 337 (.int 820 336), E P "HOST_CALL" 339 (.int 8 338), E P "TreeTable" 415 (.ref 157), E P "Builtin" 448 (.ref 178), E P "tree_type" 455 (.ref 189), E P "same" 464 (.ref 196), E P "is_function" 471 (.ref 203), E P "Frame" 506 (.ref 220), E P "Host" 715 (.ref 374), E P "refuse_argument" 727 (.ref 385), E P "need_any" 737 (.ref 392), E P "base_pcall" 748 (.ref 399), E P "_law_known" 753 (.ref 400), E P "_law_draw" 762 (.ref 407), E P "_law_deeds" 773 (.ref 414), E P "_law_call_of" 784 (.ref 421), E P "_law_said" 791 (.ref 428), E P "_law_function" 804 (.ref 435), E P "_law_meant" 823 (.ref 442), E P "law" 829 (.ref 447)]⟩ 36 }
noncomputable def o11 : Obj := { cls := .type "tuple", data := .seq ⟨[]⟩ }
noncomputable def o12 : Obj := { cls := .none, data := .fields ⟨[.int 1 0, .int 0 0, .ref 20, .int 5 0, .int 0 0, .ref 27, .int 24 0, .int 0 0, .ref 63, .int 30 0, .int 0 0, .ref 83, .int 40 0, .int 0 0, .ref 90, .int 45 0, .int 0 0, .ref 97, .int 50 0, .int 0 0, .ref 104, .int 66 0, .int 0 0, .ref 111, .int 97 0, .int 0 0, .ref 167, .int 103 0, .int 0 0, .ref 188, .int 113 0, .int 0 0, .ref 195, .int 120 0, .int 0 0, .ref 202, .int 122 0, .int 0 0, .ref 209, .int 130 0, .int 0 0, .ref 230, .int 227 0, .int 0 0, .ref 384, .int 229 0, .int 0 0, .ref 391, .int 233 0, .int 0 0, .ref 398, .int 244 0, .int 0 0, .ref 406, .int 248 0, .int 0 0, .ref 413, .int 257 0, .int 0 0, .ref 420, .int 265 0, .int 0 0, .ref 427, .int 269 0, .int 0 0, .ref 434, .int 283 0, .int 0 0, .ref 441, .int 307 0, .int 0 0, .ref 446]⟩ }
noncomputable def o13 : Obj := { cls := .type "code", data := .fields ⟨[.str "<module>" 182, .str "<module>" 183, .str "/claim/cut.py" 184, .int 1 0, .int 0 0, .int 0 0, .int 0 0, .int 0 0, .ref 11, .bool false, .int 181 0, .ref 12, .none, .none, .none, .none, .int 185 0, .int 1 0, .str "/claim/cut.py" 186]⟩ }
noncomputable def o14 : Obj := { cls := .type "frame", slots := ⟨[some (.ref 13), some (.ref 3), some (.ref 3), none, some (.str "__main__" 164), none, some (.ref 0)]⟩ }
noncomputable def o15 : Obj := { cls := .type "tuple", data := .seq ⟨[]⟩ }
noncomputable def o16 : Obj := { cls := .none, data := .fields ⟨[]⟩ }
noncomputable def o17 : Obj := { cls := .type "tuple", data := .seq ⟨[.str "k" 190]⟩ }
noncomputable def o18 : Obj := { cls := .type "tuple", data := .seq ⟨[]⟩ }
noncomputable def o19 : Obj := { cls := .none, data := .func { name := "_wall", qualname := "_wall", params := (fnAt 0).params, body := .stmts (fnAt 0).body, scope := (fnAt 0).scope, globals := 0, closure := [], defaults := .none, kwdefaults := .none } }
noncomputable def o20 : Obj := { cls := .type "code", data := .fields ⟨[.str "_wall" 187, .str "_wall" 188, .str "/claim/cut.py" 189, .int 1 0, .int 1 0, .int 0 0, .int 0 0, .int 3 0, .ref 15, .bool true, .int 181 0, .ref 16, .none, .ref 17, .ref 18, .ref 19, .int 191 0, .int 1 0, .str "/claim/cut.py" 192]⟩ }
noncomputable def o21 : Obj := { cls := .type "function", data := .func { name := "_wall", qualname := "_wall", params := (fnAt 0).params, body := .stmts (fnAt 0).body, scope := (fnAt 0).scope, globals := 3, closure := [], defaults := .none, kwdefaults := .none, pyModule := .str "__main__" 164, code := .ref 20 } }
noncomputable def o22 : Obj := { cls := .type "tuple", data := .seq ⟨[]⟩ }
noncomputable def o23 : Obj := { cls := .type "builtin_function_or_method", data := .fields ⟨[.builtin "type.__prepare__", .type "type"]⟩ }
noncomputable def o24 (P : Params) : Obj := { cls := .type "dict", data := .dict ⟨[E P "__module__" 203 (.str "lua.values" 194), E P "__qualname__" 205 (.str "Limits" 204), E P "__firstlineno__" 207 (.int 5 206), E P "__init__" 234 (.ref 36), E P "greatest" 241 (.ref 43), E P "least" 248 (.ref 50), E P "__static_attributes__" 259 (.ref 51)]⟩ 7 }
noncomputable def o25 : Obj := { cls := .type "tuple", data := .seq ⟨[]⟩ }
noncomputable def o26 : Obj := { cls := .none, data := .fields ⟨[.int 7 0, .int 4 0, .ref 35, .int 19 0, .int 4 0, .ref 42, .int 22 0, .int 4 0, .ref 49]⟩ }
noncomputable def o27 : Obj := { cls := .type "code", data := .fields ⟨[.str "Limits" 198, .str "Limits" 199, .str "/claim/cut.py" 200, .int 5 0, .int 0 0, .int 0 0, .int 0 0, .int 0 0, .ref 25, .bool false, .int 181 0, .ref 26, .none, .none, .none, .none, .int 201 0, .int 5 0, .str "/claim/cut.py" 202]⟩ }
noncomputable def o28 : Obj := { cls := .type "frame", slots := ⟨[some (.ref 27), some (.ref 3), some (.ref 24), none, some (.str "lua.values" 194), none, some (.ref 0)]⟩ }
noncomputable def o29 : Obj := { cls := .type "tuple", data := .seq ⟨[.int 64 208, .int 250 209, .int 60 210, .int 200 211, .int 40 212, .int 200 213, .int 2000 214, .int 50 215, .int 1000000000 216, .int 1000000 217]⟩ }
noncomputable def o30 : Obj := { cls := .type "tuple", data := .seq ⟨[]⟩ }
noncomputable def o31 : Obj := { cls := .none, data := .fields ⟨[]⟩ }
noncomputable def o32 : Obj := { cls := .type "tuple", data := .seq ⟨[.str "self" 221, .str "width" 222, .str "registers" 223, .str "upvalues" 224, .str "local_names" 225, .str "ccalls" 226, .str "frames" 227, .str "stack" 228, .str "flush" 229, .str "steps" 230, .str "text" 231]⟩ }
noncomputable def o33 : Obj := { cls := .type "tuple", data := .seq ⟨[]⟩ }
noncomputable def o34 : Obj := { cls := .none, data := .func { name := "__init__", qualname := "Limits.__init__", params := fd_limits.params, body := .stmts fd_limits.body, scope := fd_limits.scope, globals := 0, closure := [], defaults := .none, kwdefaults := .none } }
noncomputable def o35 : Obj := { cls := .type "code", data := .fields ⟨[.str "__init__" 218, .str "Limits.__init__" 219, .str "/claim/cut.py" 220, .int 7 0, .int 11 0, .int 0 0, .int 0 0, .int 3 0, .ref 30, .bool true, .int 181 0, .ref 31, .none, .ref 32, .ref 33, .ref 34, .int 232 0, .int 7 0, .str "/claim/cut.py" 233]⟩ }
noncomputable def o36 : Obj := { cls := .type "function", data := .func { name := "__init__", qualname := "Limits.__init__", params := fd_limits.params, body := .stmts fd_limits.body, scope := fd_limits.scope, globals := 3, closure := [], defaults := .ref 29, kwdefaults := .none, pyModule := .str "lua.values" 194, code := .ref 35 } }
noncomputable def o37 : Obj := { cls := .type "tuple", data := .seq ⟨[]⟩ }
noncomputable def o38 : Obj := { cls := .none, data := .fields ⟨[]⟩ }
noncomputable def o39 : Obj := { cls := .type "tuple", data := .seq ⟨[.str "self" 238]⟩ }
noncomputable def o40 : Obj := { cls := .type "tuple", data := .seq ⟨[]⟩ }
noncomputable def o41 : Obj := { cls := .none, data := .func { name := "greatest", qualname := "Limits.greatest", params := (meAt "Limits." 2 1).params, body := .stmts (meAt "Limits." 2 1).body, scope := (meAt "Limits." 2 1).scope, globals := 0, closure := [], defaults := .none, kwdefaults := .none } }
noncomputable def o42 : Obj := { cls := .type "code", data := .fields ⟨[.str "greatest" 235, .str "Limits.greatest" 236, .str "/claim/cut.py" 237, .int 19 0, .int 1 0, .int 0 0, .int 0 0, .int 3 0, .ref 37, .bool true, .int 181 0, .ref 38, .none, .ref 39, .ref 40, .ref 41, .int 239 0, .int 19 0, .str "/claim/cut.py" 240]⟩ }
noncomputable def o43 : Obj := { cls := .type "function", data := .func { name := "greatest", qualname := "Limits.greatest", params := (meAt "Limits." 2 1).params, body := .stmts (meAt "Limits." 2 1).body, scope := (meAt "Limits." 2 1).scope, globals := 3, closure := [], defaults := .none, kwdefaults := .none, pyModule := .str "lua.values" 194, code := .ref 42 } }
noncomputable def o44 : Obj := { cls := .type "tuple", data := .seq ⟨[]⟩ }
noncomputable def o45 : Obj := { cls := .none, data := .fields ⟨[]⟩ }
noncomputable def o46 : Obj := { cls := .type "tuple", data := .seq ⟨[.str "self" 245]⟩ }
noncomputable def o47 : Obj := { cls := .type "tuple", data := .seq ⟨[]⟩ }
noncomputable def o48 : Obj := { cls := .none, data := .func { name := "least", qualname := "Limits.least", params := (meAt "Limits." 2 2).params, body := .stmts (meAt "Limits." 2 2).body, scope := (meAt "Limits." 2 2).scope, globals := 0, closure := [], defaults := .none, kwdefaults := .none } }
noncomputable def o49 : Obj := { cls := .type "code", data := .fields ⟨[.str "least" 242, .str "Limits.least" 243, .str "/claim/cut.py" 244, .int 22 0, .int 1 0, .int 0 0, .int 0 0, .int 3 0, .ref 44, .bool true, .int 181 0, .ref 45, .none, .ref 46, .ref 47, .ref 48, .int 246 0, .int 22 0, .str "/claim/cut.py" 247]⟩ }
noncomputable def o50 : Obj := { cls := .type "function", data := .func { name := "least", qualname := "Limits.least", params := (meAt "Limits." 2 2).params, body := .stmts (meAt "Limits." 2 2).body, scope := (meAt "Limits." 2 2).scope, globals := 3, closure := [], defaults := .none, kwdefaults := .none, pyModule := .str "lua.values" 194, code := .ref 49 } }
noncomputable def o51 : Obj := { cls := .type "tuple", data := .seq ⟨[.str "ccalls" 249, .str "flush" 250, .str "frames" 251, .str "local_names" 252, .str "registers" 253, .str "stack" 254, .str "steps" 255, .str "text" 256, .str "upvalues" 257, .str "width" 258]⟩ }
noncomputable def o52 (P : Params) : Obj := { cls := .type "dict", data := .dict ⟨[E P "__module__" 203 (.str "lua.values" 194), E P "__firstlineno__" 207 (.int 5 206), E P "__init__" 234 (.ref 36), E P "greatest" 241 (.ref 43), E P "least" 248 (.ref 50), E P "__static_attributes__" 259 (.ref 51), E P "__dict__" 261 (.ref 54), E P "__weakref__" 263 (.ref 55), E P "__doc__" 264 (.none)]⟩ 4 }
noncomputable def o53 : Obj := { cls := .type "type", data := .cls { name := "Limits", bases := [.type "object"], mro := [.ref 53, .type "object"], ns := 52, qualname := "Limits" }, slots := ⟨[none, none, some (.str "Limits" 196), some (.str "Limits" 204), some (.builtin "object.__new__"), some (.bool true)]⟩ }
noncomputable def o54 : Obj := { cls := .type "getset_descriptor", data := .fields ⟨[.str "__dict__" 260, .ref 53, .builtin "function.__dict__", .builtin "function.__dict__#set"]⟩ }
noncomputable def o55 : Obj := { cls := .type "getset_descriptor", data := .fields ⟨[.str "__weakref__" 262, .ref 53, .builtin "ExceptionGroup.__weakref__", .none]⟩ }
noncomputable def o56 : Obj := { cls := .type "super", data := .fields ⟨[.ref 53, .ref 53, .ref 53]⟩ }
noncomputable def o57 : Obj := { cls := .type "builtin_function_or_method", data := .fields ⟨[.builtin "object.__init_subclass__", .ref 53]⟩ }
noncomputable def o58 : Obj := { cls := .type "tuple", data := .seq ⟨[.type "Exception"]⟩ }
noncomputable def o59 : Obj := { cls := .type "builtin_function_or_method", data := .fields ⟨[.builtin "type.__prepare__", .type "type"]⟩ }
noncomputable def o60 (P : Params) : Obj := { cls := .type "dict", data := .dict ⟨[E P "__module__" 274 (.str "lua.values" 194), E P "__qualname__" 276 (.str "LuaError" 275), E P "__firstlineno__" 278 (.int 24 277), E P "__init__" 286 (.ref 71), E P "__static_attributes__" 290 (.ref 72)]⟩ 5 }
noncomputable def o61 : Obj := { cls := .type "tuple", data := .seq ⟨[]⟩ }
noncomputable def o62 : Obj := { cls := .none, data := .fields ⟨[.int 26 0, .int 4 0, .ref 70]⟩ }
noncomputable def o63 : Obj := { cls := .type "code", data := .fields ⟨[.str "LuaError" 269, .str "LuaError" 270, .str "/claim/cut.py" 271, .int 24 0, .int 0 0, .int 0 0, .int 0 0, .int 0 0, .ref 61, .bool false, .int 181 0, .ref 62, .none, .none, .none, .none, .int 272 0, .int 24 0, .str "/claim/cut.py" 273]⟩ }
noncomputable def o64 : Obj := { cls := .type "frame", slots := ⟨[some (.ref 63), some (.ref 3), some (.ref 60), none, some (.str "lua.values" 194), none, some (.ref 0)]⟩ }
noncomputable def o65 : Obj := { cls := .type "tuple", data := .seq ⟨[]⟩ }
noncomputable def o66 : Obj := { cls := .none, data := .fields ⟨[]⟩ }
noncomputable def o67 : Obj := { cls := .type "tuple", data := .seq ⟨[.str "self" 282, .str "value" 283]⟩ }
noncomputable def o68 : Obj := { cls := .type "tuple", data := .seq ⟨[]⟩ }
noncomputable def o69 : Obj := { cls := .none, data := .func { name := "__init__", qualname := "LuaError.__init__", params := fd_err.params, body := .stmts fd_err.body, scope := fd_err.scope, globals := 0, closure := [], defaults := .none, kwdefaults := .none } }
noncomputable def o70 : Obj := { cls := .type "code", data := .fields ⟨[.str "__init__" 279, .str "LuaError.__init__" 280, .str "/claim/cut.py" 281, .int 26 0, .int 2 0, .int 0 0, .int 0 0, .int 3 0, .ref 65, .bool true, .int 181 0, .ref 66, .none, .ref 67, .ref 68, .ref 69, .int 284 0, .int 26 0, .str "/claim/cut.py" 285]⟩ }
noncomputable def o71 : Obj := { cls := .type "function", data := .func { name := "__init__", qualname := "LuaError.__init__", params := fd_err.params, body := .stmts fd_err.body, scope := fd_err.scope, globals := 3, closure := [], defaults := .none, kwdefaults := .none, pyModule := .str "lua.values" 194, code := .ref 70 } }
noncomputable def o72 : Obj := { cls := .type "tuple", data := .seq ⟨[.str "is_in_handler" 287, .str "trace" 288, .str "value" 289]⟩ }
noncomputable def o73 (P : Params) : Obj := { cls := .type "dict", data := .dict ⟨[E P "__module__" 274 (.str "lua.values" 194), E P "__firstlineno__" 278 (.int 24 277), E P "__init__" 286 (.ref 71), E P "__static_attributes__" 290 (.ref 72), E P "__weakref__" 292 (.ref 75), E P "__doc__" 293 (.none)]⟩ 3 }
noncomputable def o74 : Obj := { cls := .type "type", data := .cls { name := "LuaError", bases := [.type "Exception"], mro := [.ref 74, .type "Exception", .type "BaseException", .type "object"], ns := 73, qualname := "LuaError" }, slots := ⟨[some (.ref 58), none, some (.str "LuaError" 267), some (.str "LuaError" 275), some (.builtin "Exception.__new__"), some (.bool true)]⟩ }
noncomputable def o75 : Obj := { cls := .type "getset_descriptor", data := .fields ⟨[.str "__weakref__" 291, .ref 74, .builtin "ExceptionGroup.__weakref__", .none]⟩ }
noncomputable def o76 : Obj := { cls := .type "super", data := .fields ⟨[.ref 74, .ref 74, .ref 74]⟩ }
noncomputable def o77 : Obj := { cls := .type "builtin_function_or_method", data := .fields ⟨[.builtin "object.__init_subclass__", .ref 74]⟩ }
noncomputable def o78 : Obj := { cls := .type "tuple", data := .seq ⟨[]⟩ }
noncomputable def o79 : Obj := { cls := .none, data := .fields ⟨[]⟩ }
noncomputable def o80 : Obj := { cls := .type "tuple", data := .seq ⟨[.str "n" 301, .str "left" 302, .str "found" 303]⟩ }
noncomputable def o81 : Obj := { cls := .type "tuple", data := .seq ⟨[]⟩ }
noncomputable def o82 : Obj := { cls := .none, data := .func { name := "number_text", qualname := "number_text", params := fd_number_text.params, body := .stmts fd_number_text.body, scope := fd_number_text.scope, globals := 0, closure := [], defaults := .none, kwdefaults := .none } }
noncomputable def o83 : Obj := { cls := .type "code", data := .fields ⟨[.str "number_text" 298, .str "number_text" 299, .str "/claim/cut.py" 300, .int 30 0, .int 1 0, .int 0 0, .int 0 0, .int 3 0, .ref 78, .bool true, .int 181 0, .ref 79, .none, .ref 80, .ref 81, .ref 82, .int 304 0, .int 30 0, .str "/claim/cut.py" 305]⟩ }
noncomputable def o84 : Obj := { cls := .type "function", data := .func { name := "number_text", qualname := "number_text", params := fd_number_text.params, body := .stmts fd_number_text.body, scope := fd_number_text.scope, globals := 3, closure := [], defaults := .none, kwdefaults := .none, pyModule := .str "lua.values" 194, code := .ref 83 } }
noncomputable def o85 : Obj := { cls := .type "tuple", data := .seq ⟨[]⟩ }
noncomputable def o86 : Obj := { cls := .none, data := .fields ⟨[]⟩ }
noncomputable def o87 : Obj := { cls := .type "tuple", data := .seq ⟨[.str "text" 310, .str "at" 311]⟩ }
noncomputable def o88 : Obj := { cls := .type "tuple", data := .seq ⟨[]⟩ }
noncomputable def o89 : Obj := { cls := .none, data := .func { name := "c_text", qualname := "c_text", params := fd_c_text.params, body := .stmts fd_c_text.body, scope := fd_c_text.scope, globals := 0, closure := [], defaults := .none, kwdefaults := .none } }
noncomputable def o90 : Obj := { cls := .type "code", data := .fields ⟨[.str "c_text" 307, .str "c_text" 308, .str "/claim/cut.py" 309, .int 40 0, .int 1 0, .int 0 0, .int 0 0, .int 3 0, .ref 85, .bool true, .int 181 0, .ref 86, .none, .ref 87, .ref 88, .ref 89, .int 312 0, .int 40 0, .str "/claim/cut.py" 313]⟩ }
noncomputable def o91 : Obj := { cls := .type "function", data := .func { name := "c_text", qualname := "c_text", params := fd_c_text.params, body := .stmts fd_c_text.body, scope := fd_c_text.scope, globals := 3, closure := [], defaults := .none, kwdefaults := .none, pyModule := .str "lua.values" 194, code := .ref 90 } }
noncomputable def o92 : Obj := { cls := .type "tuple", data := .seq ⟨[]⟩ }
noncomputable def o93 : Obj := { cls := .none, data := .fields ⟨[]⟩ }
noncomputable def o94 : Obj := { cls := .type "tuple", data := .seq ⟨[.str "text" 318, .str "at" 319]⟩ }
noncomputable def o95 : Obj := { cls := .type "tuple", data := .seq ⟨[]⟩ }
noncomputable def o96 : Obj := { cls := .none, data := .func { name := "first_line", qualname := "first_line", params := (fnAt 6).params, body := .stmts (fnAt 6).body, scope := (fnAt 6).scope, globals := 0, closure := [], defaults := .none, kwdefaults := .none } }
noncomputable def o97 : Obj := { cls := .type "code", data := .fields ⟨[.str "first_line" 315, .str "first_line" 316, .str "/claim/cut.py" 317, .int 45 0, .int 1 0, .int 0 0, .int 0 0, .int 3 0, .ref 92, .bool true, .int 181 0, .ref 93, .none, .ref 94, .ref 95, .ref 96, .int 320 0, .int 45 0, .str "/claim/cut.py" 321]⟩ }
noncomputable def o98 : Obj := { cls := .type "function", data := .func { name := "first_line", qualname := "first_line", params := (fnAt 6).params, body := .stmts (fnAt 6).body, scope := (fnAt 6).scope, globals := 3, closure := [], defaults := .none, kwdefaults := .none, pyModule := .str "lua.values" 194, code := .ref 97 } }
noncomputable def o99 : Obj := { cls := .type "tuple", data := .seq ⟨[]⟩ }
noncomputable def o100 : Obj := { cls := .none, data := .fields ⟨[]⟩ }
noncomputable def o101 : Obj := { cls := .type "tuple", data := .seq ⟨[.str "source" 326, .str "size" 327, .str "room" 328, .str "name" 329, .str "line" 330]⟩ }
noncomputable def o102 : Obj := { cls := .type "tuple", data := .seq ⟨[]⟩ }
noncomputable def o103 : Obj := { cls := .none, data := .func { name := "chunk_id", qualname := "chunk_id", params := fd_chunk_id.params, body := .stmts fd_chunk_id.body, scope := fd_chunk_id.scope, globals := 0, closure := [], defaults := .none, kwdefaults := .none } }
noncomputable def o104 : Obj := { cls := .type "code", data := .fields ⟨[.str "chunk_id" 323, .str "chunk_id" 324, .str "/claim/cut.py" 325, .int 50 0, .int 2 0, .int 0 0, .int 0 0, .int 3 0, .ref 99, .bool true, .int 181 0, .ref 100, .none, .ref 101, .ref 102, .ref 103, .int 331 0, .int 50 0, .str "/claim/cut.py" 332]⟩ }
noncomputable def o105 : Obj := { cls := .type "function", data := .func { name := "chunk_id", qualname := "chunk_id", params := fd_chunk_id.params, body := .stmts fd_chunk_id.body, scope := fd_chunk_id.scope, globals := 3, closure := [], defaults := .none, kwdefaults := .none, pyModule := .str "lua.values" 194, code := .ref 104 } }
noncomputable def o106 : Obj := { cls := .type "tuple", data := .seq ⟨[]⟩ }
noncomputable def o107 : Obj := { cls := .type "builtin_function_or_method", data := .fields ⟨[.builtin "type.__prepare__", .type "type"]⟩ }
noncomputable def o108 (P : Params) : Obj := { cls := .type "dict", data := .dict ⟨[E P "__module__" 347 (.str "lua.treehost" 334), E P "__qualname__" 349 (.str "TreeTable" 348), E P "__firstlineno__" 351 (.int 66 350), E P "__init__" 359 (.ref 119), E P "find" 369 (.ref 126), E P "get" 378 (.ref 133), E P "set" 388 (.ref 140), E P "length" 395 (.ref 147), E P "follower" 403 (.ref 154), E P "__static_attributes__" 408 (.ref 155)]⟩ 10 }
noncomputable def o109 : Obj := { cls := .type "tuple", data := .seq ⟨[]⟩ }
noncomputable def o110 : Obj := { cls := .none, data := .fields ⟨[.int 68 0, .int 4 0, .ref 118, .int 74 0, .int 4 0, .ref 125, .int 80 0, .int 4 0, .ref 132, .int 84 0, .int 4 0, .ref 139, .int 92 0, .int 4 0, .ref 146, .int 95 0, .int 4 0, .ref 153]⟩ }
noncomputable def o111 : Obj := { cls := .type "code", data := .fields ⟨[.str "TreeTable" 342, .str "TreeTable" 343, .str "/claim/cut.py" 344, .int 66 0, .int 0 0, .int 0 0, .int 0 0, .int 0 0, .ref 109, .bool false, .int 181 0, .ref 110, .none, .none, .none, .none, .int 345 0, .int 66 0, .str "/claim/cut.py" 346]⟩ }
noncomputable def o112 : Obj := { cls := .type "frame", slots := ⟨[some (.ref 111), some (.ref 3), some (.ref 108), none, some (.str "lua.treehost" 334), none, some (.ref 0)]⟩ }
noncomputable def o113 : Obj := { cls := .type "tuple", data := .seq ⟨[]⟩ }
noncomputable def o114 : Obj := { cls := .none, data := .fields ⟨[]⟩ }
noncomputable def o115 : Obj := { cls := .type "tuple", data := .seq ⟨[.str "self" 355, .str "number" 356]⟩ }
noncomputable def o116 : Obj := { cls := .type "tuple", data := .seq ⟨[]⟩ }
noncomputable def o117 : Obj := { cls := .none, data := .func { name := "__init__", qualname := "TreeTable.__init__", params := fd_tt_init.params, body := .stmts fd_tt_init.body, scope := fd_tt_init.scope, globals := 0, closure := [], defaults := .none, kwdefaults := .none } }
noncomputable def o118 : Obj := { cls := .type "code", data := .fields ⟨[.str "__init__" 352, .str "TreeTable.__init__" 353, .str "/claim/cut.py" 354, .int 68 0, .int 2 0, .int 0 0, .int 0 0, .int 3 0, .ref 113, .bool true, .int 181 0, .ref 114, .none, .ref 115, .ref 116, .ref 117, .int 357 0, .int 68 0, .str "/claim/cut.py" 358]⟩ }
noncomputable def o119 : Obj := { cls := .type "function", data := .func { name := "__init__", qualname := "TreeTable.__init__", params := fd_tt_init.params, body := .stmts fd_tt_init.body, scope := fd_tt_init.scope, globals := 3, closure := [], defaults := .none, kwdefaults := .none, pyModule := .str "lua.treehost" 334, code := .ref 118 } }
noncomputable def o120 : Obj := { cls := .type "tuple", data := .seq ⟨[]⟩ }
noncomputable def o121 : Obj := { cls := .none, data := .fields ⟨[]⟩ }
noncomputable def o122 : Obj := { cls := .type "tuple", data := .seq ⟨[.str "self" 363, .str "key" 364, .str "at" 365, .str "known" 366]⟩ }
noncomputable def o123 : Obj := { cls := .type "tuple", data := .seq ⟨[]⟩ }
noncomputable def o124 : Obj := { cls := .none, data := .func { name := "find", qualname := "TreeTable.find", params := fd_find.params, body := .stmts fd_find.body, scope := fd_find.scope, globals := 0, closure := [], defaults := .none, kwdefaults := .none } }
noncomputable def o125 : Obj := { cls := .type "code", data := .fields ⟨[.str "find" 360, .str "TreeTable.find" 361, .str "/claim/cut.py" 362, .int 74 0, .int 2 0, .int 0 0, .int 0 0, .int 3 0, .ref 120, .bool true, .int 181 0, .ref 121, .none, .ref 122, .ref 123, .ref 124, .int 367 0, .int 74 0, .str "/claim/cut.py" 368]⟩ }
noncomputable def o126 : Obj := { cls := .type "function", data := .func { name := "find", qualname := "TreeTable.find", params := fd_find.params, body := .stmts fd_find.body, scope := fd_find.scope, globals := 3, closure := [], defaults := .none, kwdefaults := .none, pyModule := .str "lua.treehost" 334, code := .ref 125 } }
noncomputable def o127 : Obj := { cls := .type "tuple", data := .seq ⟨[]⟩ }
noncomputable def o128 : Obj := { cls := .none, data := .fields ⟨[]⟩ }
noncomputable def o129 : Obj := { cls := .type "tuple", data := .seq ⟨[.str "self" 373, .str "key" 374, .str "at" 375]⟩ }
noncomputable def o130 : Obj := { cls := .type "tuple", data := .seq ⟨[]⟩ }
noncomputable def o131 : Obj := { cls := .none, data := .func { name := "get", qualname := "TreeTable.get", params := fd_get.params, body := .stmts fd_get.body, scope := fd_get.scope, globals := 0, closure := [], defaults := .none, kwdefaults := .none } }
noncomputable def o132 : Obj := { cls := .type "code", data := .fields ⟨[.str "get" 370, .str "TreeTable.get" 371, .str "/claim/cut.py" 372, .int 80 0, .int 2 0, .int 0 0, .int 0 0, .int 3 0, .ref 127, .bool true, .int 181 0, .ref 128, .none, .ref 129, .ref 130, .ref 131, .int 376 0, .int 80 0, .str "/claim/cut.py" 377]⟩ }
noncomputable def o133 : Obj := { cls := .type "function", data := .func { name := "get", qualname := "TreeTable.get", params := fd_get.params, body := .stmts fd_get.body, scope := fd_get.scope, globals := 3, closure := [], defaults := .none, kwdefaults := .none, pyModule := .str "lua.treehost" 334, code := .ref 132 } }
noncomputable def o134 : Obj := { cls := .type "tuple", data := .seq ⟨[]⟩ }
noncomputable def o135 : Obj := { cls := .none, data := .fields ⟨[]⟩ }
noncomputable def o136 : Obj := { cls := .type "tuple", data := .seq ⟨[.str "self" 382, .str "key" 383, .str "value" 384, .str "at" 385]⟩ }
noncomputable def o137 : Obj := { cls := .type "tuple", data := .seq ⟨[]⟩ }
noncomputable def o138 : Obj := { cls := .none, data := .func { name := "set", qualname := "TreeTable.set", params := fd_set.params, body := .stmts fd_set.body, scope := fd_set.scope, globals := 0, closure := [], defaults := .none, kwdefaults := .none } }
noncomputable def o139 : Obj := { cls := .type "code", data := .fields ⟨[.str "set" 379, .str "TreeTable.set" 380, .str "/claim/cut.py" 381, .int 84 0, .int 3 0, .int 0 0, .int 0 0, .int 3 0, .ref 134, .bool true, .int 181 0, .ref 135, .none, .ref 136, .ref 137, .ref 138, .int 386 0, .int 84 0, .str "/claim/cut.py" 387]⟩ }
noncomputable def o140 : Obj := { cls := .type "function", data := .func { name := "set", qualname := "TreeTable.set", params := fd_set.params, body := .stmts fd_set.body, scope := fd_set.scope, globals := 3, closure := [], defaults := .none, kwdefaults := .none, pyModule := .str "lua.treehost" 334, code := .ref 139 } }
noncomputable def o141 : Obj := { cls := .type "tuple", data := .seq ⟨[]⟩ }
noncomputable def o142 : Obj := { cls := .none, data := .fields ⟨[]⟩ }
noncomputable def o143 : Obj := { cls := .type "tuple", data := .seq ⟨[.str "self" 392]⟩ }
noncomputable def o144 : Obj := { cls := .type "tuple", data := .seq ⟨[]⟩ }
noncomputable def o145 : Obj := { cls := .none, data := .func { name := "length", qualname := "TreeTable.length", params := (meAt "TreeTable." 11 4).params, body := .stmts (meAt "TreeTable." 11 4).body, scope := (meAt "TreeTable." 11 4).scope, globals := 0, closure := [], defaults := .none, kwdefaults := .none } }
noncomputable def o146 : Obj := { cls := .type "code", data := .fields ⟨[.str "length" 389, .str "TreeTable.length" 390, .str "/claim/cut.py" 391, .int 92 0, .int 1 0, .int 0 0, .int 0 0, .int 3 0, .ref 141, .bool true, .int 181 0, .ref 142, .none, .ref 143, .ref 144, .ref 145, .int 393 0, .int 92 0, .str "/claim/cut.py" 394]⟩ }
noncomputable def o147 : Obj := { cls := .type "function", data := .func { name := "length", qualname := "TreeTable.length", params := (meAt "TreeTable." 11 4).params, body := .stmts (meAt "TreeTable." 11 4).body, scope := (meAt "TreeTable." 11 4).scope, globals := 3, closure := [], defaults := .none, kwdefaults := .none, pyModule := .str "lua.treehost" 334, code := .ref 146 } }
noncomputable def o148 : Obj := { cls := .type "tuple", data := .seq ⟨[]⟩ }
noncomputable def o149 : Obj := { cls := .none, data := .fields ⟨[]⟩ }
noncomputable def o150 : Obj := { cls := .type "tuple", data := .seq ⟨[.str "self" 399, .str "key" 400]⟩ }
noncomputable def o151 : Obj := { cls := .type "tuple", data := .seq ⟨[]⟩ }
noncomputable def o152 : Obj := { cls := .none, data := .func { name := "follower", qualname := "TreeTable.follower", params := (meAt "TreeTable." 11 5).params, body := .stmts (meAt "TreeTable." 11 5).body, scope := (meAt "TreeTable." 11 5).scope, globals := 0, closure := [], defaults := .none, kwdefaults := .none } }
noncomputable def o153 : Obj := { cls := .type "code", data := .fields ⟨[.str "follower" 396, .str "TreeTable.follower" 397, .str "/claim/cut.py" 398, .int 95 0, .int 2 0, .int 0 0, .int 0 0, .int 3 0, .ref 148, .bool true, .int 181 0, .ref 149, .none, .ref 150, .ref 151, .ref 152, .int 401 0, .int 95 0, .str "/claim/cut.py" 402]⟩ }
noncomputable def o154 : Obj := { cls := .type "function", data := .func { name := "follower", qualname := "TreeTable.follower", params := (meAt "TreeTable." 11 5).params, body := .stmts (meAt "TreeTable." 11 5).body, scope := (meAt "TreeTable." 11 5).scope, globals := 3, closure := [], defaults := .none, kwdefaults := .none, pyModule := .str "lua.treehost" 334, code := .ref 153 } }
noncomputable def o155 : Obj := { cls := .type "tuple", data := .seq ⟨[.str "keys" 404, .str "meta" 405, .str "number" 406, .str "values" 407]⟩ }
noncomputable def o156 (P : Params) : Obj := { cls := .type "dict", data := .dict ⟨[E P "__module__" 347 (.str "lua.treehost" 334), E P "__firstlineno__" 351 (.int 66 350), E P "__init__" 359 (.ref 119), E P "find" 369 (.ref 126), E P "get" 378 (.ref 133), E P "set" 388 (.ref 140), E P "length" 395 (.ref 147), E P "follower" 403 (.ref 154), E P "__static_attributes__" 408 (.ref 155), E P "__dict__" 410 (.ref 158), E P "__weakref__" 412 (.ref 159), E P "__doc__" 413 (.none)]⟩ 4 }
noncomputable def o157 : Obj := { cls := .type "type", data := .cls { name := "TreeTable", bases := [.type "object"], mro := [.ref 157, .type "object"], ns := 156, qualname := "TreeTable" }, slots := ⟨[none, none, some (.str "TreeTable" 340), some (.str "TreeTable" 348), some (.builtin "object.__new__"), some (.bool true)]⟩ }
noncomputable def o158 : Obj := { cls := .type "getset_descriptor", data := .fields ⟨[.str "__dict__" 409, .ref 157, .builtin "function.__dict__", .builtin "function.__dict__#set"]⟩ }
noncomputable def o159 : Obj := { cls := .type "getset_descriptor", data := .fields ⟨[.str "__weakref__" 411, .ref 157, .builtin "ExceptionGroup.__weakref__", .none]⟩ }
noncomputable def o160 : Obj := { cls := .type "super", data := .fields ⟨[.ref 157, .ref 157, .ref 157]⟩ }
noncomputable def o161 : Obj := { cls := .type "builtin_function_or_method", data := .fields ⟨[.builtin "object.__init_subclass__", .ref 157]⟩ }
noncomputable def o162 : Obj := { cls := .type "tuple", data := .seq ⟨[]⟩ }
noncomputable def o163 : Obj := { cls := .type "builtin_function_or_method", data := .fields ⟨[.builtin "type.__prepare__", .type "type"]⟩ }
noncomputable def o164 (P : Params) : Obj := { cls := .type "dict", data := .dict ⟨[E P "__module__" 423 (.str "lua.treehost" 334), E P "__qualname__" 425 (.str "Builtin" 424), E P "__firstlineno__" 427 (.int 97 426), E P "__init__" 437 (.ref 175), E P "__static_attributes__" 441 (.ref 176)]⟩ 5 }
noncomputable def o165 : Obj := { cls := .type "tuple", data := .seq ⟨[]⟩ }
noncomputable def o166 : Obj := { cls := .none, data := .fields ⟨[.int 99 0, .int 4 0, .ref 174]⟩ }
noncomputable def o167 : Obj := { cls := .type "code", data := .fields ⟨[.str "Builtin" 418, .str "Builtin" 419, .str "/claim/cut.py" 420, .int 97 0, .int 0 0, .int 0 0, .int 0 0, .int 0 0, .ref 165, .bool false, .int 181 0, .ref 166, .none, .none, .none, .none, .int 421 0, .int 97 0, .str "/claim/cut.py" 422]⟩ }
noncomputable def o168 : Obj := { cls := .type "frame", slots := ⟨[some (.ref 167), some (.ref 3), some (.ref 164), none, some (.str "lua.treehost" 334), none, some (.ref 0)]⟩ }
noncomputable def o169 : Obj := { cls := .type "tuple", data := .seq ⟨[]⟩ }
noncomputable def o170 : Obj := { cls := .none, data := .fields ⟨[]⟩ }
noncomputable def o171 : Obj := { cls := .type "tuple", data := .seq ⟨[.str "self" 431, .str "number" 432, .str "name" 433, .str "work" 434]⟩ }
noncomputable def o172 : Obj := { cls := .type "tuple", data := .seq ⟨[]⟩ }
noncomputable def o173 : Obj := { cls := .none, data := .func { name := "__init__", qualname := "Builtin.__init__", params := fd_bi_init.params, body := .stmts fd_bi_init.body, scope := fd_bi_init.scope, globals := 0, closure := [], defaults := .none, kwdefaults := .none } }
noncomputable def o174 : Obj := { cls := .type "code", data := .fields ⟨[.str "__init__" 428, .str "Builtin.__init__" 429, .str "/claim/cut.py" 430, .int 99 0, .int 4 0, .int 0 0, .int 0 0, .int 3 0, .ref 169, .bool true, .int 181 0, .ref 170, .none, .ref 171, .ref 172, .ref 173, .int 435 0, .int 99 0, .str "/claim/cut.py" 436]⟩ }
noncomputable def o175 : Obj := { cls := .type "function", data := .func { name := "__init__", qualname := "Builtin.__init__", params := fd_bi_init.params, body := .stmts fd_bi_init.body, scope := fd_bi_init.scope, globals := 3, closure := [], defaults := .none, kwdefaults := .none, pyModule := .str "lua.treehost" 334, code := .ref 174 } }
noncomputable def o176 : Obj := { cls := .type "tuple", data := .seq ⟨[.str "name" 438, .str "number" 439, .str "work" 440]⟩ }
noncomputable def o177 (P : Params) : Obj := { cls := .type "dict", data := .dict ⟨[E P "__module__" 423 (.str "lua.treehost" 334), E P "__firstlineno__" 427 (.int 97 426), E P "__init__" 437 (.ref 175), E P "__static_attributes__" 441 (.ref 176), E P "__dict__" 443 (.ref 179), E P "__weakref__" 445 (.ref 180), E P "__doc__" 446 (.none)]⟩ 4 }
noncomputable def o178 : Obj := { cls := .type "type", data := .cls { name := "Builtin", bases := [.type "object"], mro := [.ref 178, .type "object"], ns := 177, qualname := "Builtin" }, slots := ⟨[none, none, some (.str "Builtin" 416), some (.str "Builtin" 424), some (.builtin "object.__new__"), some (.bool true)]⟩ }
noncomputable def o179 : Obj := { cls := .type "getset_descriptor", data := .fields ⟨[.str "__dict__" 442, .ref 178, .builtin "function.__dict__", .builtin "function.__dict__#set"]⟩ }
noncomputable def o180 : Obj := { cls := .type "getset_descriptor", data := .fields ⟨[.str "__weakref__" 444, .ref 178, .builtin "ExceptionGroup.__weakref__", .none]⟩ }
noncomputable def o181 : Obj := { cls := .type "super", data := .fields ⟨[.ref 178, .ref 178, .ref 178]⟩ }
noncomputable def o182 : Obj := { cls := .type "builtin_function_or_method", data := .fields ⟨[.builtin "object.__init_subclass__", .ref 178]⟩ }
noncomputable def o183 : Obj := { cls := .type "tuple", data := .seq ⟨[]⟩ }
noncomputable def o184 : Obj := { cls := .none, data := .fields ⟨[]⟩ }
noncomputable def o185 : Obj := { cls := .type "tuple", data := .seq ⟨[.str "value" 452]⟩ }
noncomputable def o186 : Obj := { cls := .type "tuple", data := .seq ⟨[]⟩ }
noncomputable def o187 : Obj := { cls := .none, data := .func { name := "tree_type", qualname := "tree_type", params := fd_tree_type.params, body := .stmts fd_tree_type.body, scope := fd_tree_type.scope, globals := 0, closure := [], defaults := .none, kwdefaults := .none } }
noncomputable def o188 : Obj := { cls := .type "code", data := .fields ⟨[.str "tree_type" 449, .str "tree_type" 450, .str "/claim/cut.py" 451, .int 103 0, .int 1 0, .int 0 0, .int 0 0, .int 3 0, .ref 183, .bool true, .int 181 0, .ref 184, .none, .ref 185, .ref 186, .ref 187, .int 453 0, .int 103 0, .str "/claim/cut.py" 454]⟩ }
noncomputable def o189 : Obj := { cls := .type "function", data := .func { name := "tree_type", qualname := "tree_type", params := fd_tree_type.params, body := .stmts fd_tree_type.body, scope := fd_tree_type.scope, globals := 3, closure := [], defaults := .none, kwdefaults := .none, pyModule := .str "lua.treehost" 334, code := .ref 188 } }
noncomputable def o190 : Obj := { cls := .type "tuple", data := .seq ⟨[]⟩ }
noncomputable def o191 : Obj := { cls := .none, data := .fields ⟨[]⟩ }
noncomputable def o192 : Obj := { cls := .type "tuple", data := .seq ⟨[.str "one" 459, .str "other" 460, .str "kind" 461]⟩ }
noncomputable def o193 : Obj := { cls := .type "tuple", data := .seq ⟨[]⟩ }
noncomputable def o194 : Obj := { cls := .none, data := .func { name := "same", qualname := "same", params := fd_same.params, body := .stmts fd_same.body, scope := fd_same.scope, globals := 0, closure := [], defaults := .none, kwdefaults := .none } }
noncomputable def o195 : Obj := { cls := .type "code", data := .fields ⟨[.str "same" 456, .str "same" 457, .str "/claim/cut.py" 458, .int 113 0, .int 2 0, .int 0 0, .int 0 0, .int 3 0, .ref 190, .bool true, .int 181 0, .ref 191, .none, .ref 192, .ref 193, .ref 194, .int 462 0, .int 113 0, .str "/claim/cut.py" 463]⟩ }
noncomputable def o196 : Obj := { cls := .type "function", data := .func { name := "same", qualname := "same", params := fd_same.params, body := .stmts fd_same.body, scope := fd_same.scope, globals := 3, closure := [], defaults := .none, kwdefaults := .none, pyModule := .str "lua.treehost" 334, code := .ref 195 } }
noncomputable def o197 : Obj := { cls := .type "tuple", data := .seq ⟨[]⟩ }
noncomputable def o198 : Obj := { cls := .none, data := .fields ⟨[]⟩ }
noncomputable def o199 : Obj := { cls := .type "tuple", data := .seq ⟨[.str "value" 468]⟩ }
noncomputable def o200 : Obj := { cls := .type "tuple", data := .seq ⟨[]⟩ }
noncomputable def o201 : Obj := { cls := .none, data := .func { name := "is_function", qualname := "is_function", params := fd_is_function.params, body := .stmts fd_is_function.body, scope := fd_is_function.scope, globals := 0, closure := [], defaults := .none, kwdefaults := .none } }
noncomputable def o202 : Obj := { cls := .type "code", data := .fields ⟨[.str "is_function" 465, .str "is_function" 466, .str "/claim/cut.py" 467, .int 120 0, .int 1 0, .int 0 0, .int 0 0, .int 3 0, .ref 197, .bool true, .int 181 0, .ref 198, .none, .ref 199, .ref 200, .ref 201, .int 469 0, .int 120 0, .str "/claim/cut.py" 470]⟩ }
noncomputable def o203 : Obj := { cls := .type "function", data := .func { name := "is_function", qualname := "is_function", params := fd_is_function.params, body := .stmts fd_is_function.body, scope := fd_is_function.scope, globals := 3, closure := [], defaults := .none, kwdefaults := .none, pyModule := .str "lua.treehost" 334, code := .ref 202 } }
noncomputable def o204 : Obj := { cls := .type "tuple", data := .seq ⟨[]⟩ }
noncomputable def o205 : Obj := { cls := .type "builtin_function_or_method", data := .fields ⟨[.builtin "type.__prepare__", .type "type"]⟩ }
noncomputable def o206 (P : Params) : Obj := { cls := .type "dict", data := .dict ⟨[E P "__module__" 479 (.str "lua.treehost" 334), E P "__qualname__" 481 (.str "Frame" 480), E P "__firstlineno__" 483 (.int 122 482), E P "__init__" 493 (.ref 217), E P "__static_attributes__" 499 (.ref 218)]⟩ 5 }
noncomputable def o207 : Obj := { cls := .type "tuple", data := .seq ⟨[]⟩ }
noncomputable def o208 : Obj := { cls := .none, data := .fields ⟨[.int 124 0, .int 4 0, .ref 216]⟩ }
noncomputable def o209 : Obj := { cls := .type "code", data := .fields ⟨[.str "Frame" 474, .str "Frame" 475, .str "/claim/cut.py" 476, .int 122 0, .int 0 0, .int 0 0, .int 0 0, .int 0 0, .ref 207, .bool false, .int 181 0, .ref 208, .none, .none, .none, .none, .int 477 0, .int 122 0, .str "/claim/cut.py" 478]⟩ }
noncomputable def o210 : Obj := { cls := .type "frame", slots := ⟨[some (.ref 209), some (.ref 3), some (.ref 206), none, some (.str "lua.treehost" 334), none, some (.ref 0)]⟩ }
noncomputable def o211 : Obj := { cls := .type "tuple", data := .seq ⟨[]⟩ }
noncomputable def o212 : Obj := { cls := .none, data := .fields ⟨[]⟩ }
noncomputable def o213 : Obj := { cls := .type "tuple", data := .seq ⟨[.str "self" 487, .str "number" 488, .str "cells" 489, .str "extra" 490]⟩ }
noncomputable def o214 : Obj := { cls := .type "tuple", data := .seq ⟨[]⟩ }
noncomputable def o215 : Obj := { cls := .none, data := .func { name := "__init__", qualname := "Frame.__init__", params := fd_fr_init.params, body := .stmts fd_fr_init.body, scope := fd_fr_init.scope, globals := 0, closure := [], defaults := .none, kwdefaults := .none } }
noncomputable def o216 : Obj := { cls := .type "code", data := .fields ⟨[.str "__init__" 484, .str "Frame.__init__" 485, .str "/claim/cut.py" 486, .int 124 0, .int 4 0, .int 0 0, .int 0 0, .int 3 0, .ref 211, .bool true, .int 181 0, .ref 212, .none, .ref 213, .ref 214, .ref 215, .int 491 0, .int 124 0, .str "/claim/cut.py" 492]⟩ }
noncomputable def o217 : Obj := { cls := .type "function", data := .func { name := "__init__", qualname := "Frame.__init__", params := fd_fr_init.params, body := .stmts fd_fr_init.body, scope := fd_fr_init.scope, globals := 3, closure := [], defaults := .none, kwdefaults := .none, pyModule := .str "lua.treehost" 334, code := .ref 216 } }
noncomputable def o218 : Obj := { cls := .type "tuple", data := .seq ⟨[.str "cells" 494, .str "deep" 495, .str "extra" 496, .str "line" 497, .str "number" 498]⟩ }
noncomputable def o219 (P : Params) : Obj := { cls := .type "dict", data := .dict ⟨[E P "__module__" 479 (.str "lua.treehost" 334), E P "__firstlineno__" 483 (.int 122 482), E P "__init__" 493 (.ref 217), E P "__static_attributes__" 499 (.ref 218), E P "__dict__" 501 (.ref 221), E P "__weakref__" 503 (.ref 222), E P "__doc__" 504 (.none)]⟩ 4 }
noncomputable def o220 : Obj := { cls := .type "type", data := .cls { name := "Frame", bases := [.type "object"], mro := [.ref 220, .type "object"], ns := 219, qualname := "Frame" }, slots := ⟨[none, none, some (.str "Frame" 472), some (.str "Frame" 480), some (.builtin "object.__new__"), some (.bool true)]⟩ }
noncomputable def o221 : Obj := { cls := .type "getset_descriptor", data := .fields ⟨[.str "__dict__" 500, .ref 220, .builtin "function.__dict__", .builtin "function.__dict__#set"]⟩ }
noncomputable def o222 : Obj := { cls := .type "getset_descriptor", data := .fields ⟨[.str "__weakref__" 502, .ref 220, .builtin "ExceptionGroup.__weakref__", .none]⟩ }
noncomputable def o223 : Obj := { cls := .type "super", data := .fields ⟨[.ref 220, .ref 220, .ref 220]⟩ }
noncomputable def o224 : Obj := { cls := .type "builtin_function_or_method", data := .fields ⟨[.builtin "object.__init_subclass__", .ref 220]⟩ }
noncomputable def o225 : Obj := { cls := .type "tuple", data := .seq ⟨[]⟩ }
noncomputable def o226 : Obj := { cls := .type "builtin_function_or_method", data := .fields ⟨[.builtin "type.__prepare__", .type "type"]⟩ }
noncomputable def o227 (P : Params) : Obj := { cls := .type "dict", data := .dict ⟨[E P "__module__" 514 (.str "lua.treehost" 334), E P "__qualname__" 516 (.str "Host" 515), E P "__firstlineno__" 518 (.int 130 517), E P "__init__" 527 (.ref 238), E P "fresh" 534 (.ref 245), E P "tick" 541 (.ref 252), E P "go_deeper" 549 (.ref 259), E P "where" 558 (.ref 266), E P "fail" 566 (.ref 273), E P "complain" 574 (.ref 280), E P "fail_type" 585 (.ref 287), E P "cut_frames" 593 (.ref 294), E P "handler" 602 (.ref 301), E P "call_handler" 611 (.ref 308), E P "either" 621 (.ref 315), E P "call" 631 (.ref 322), E P "call_other" 642 (.ref 329), E P "call_host" 653 (.ref 336), E P "equal" 662 (.ref 343), E P "compared" 672 (.ref 350), E P "fail_order" 681 (.ref 357), E P "less" 690 (.ref 364), E P "at_most" 699 (.ref 371), E P "__static_attributes__" 708 (.ref 372)]⟩ 24 }
noncomputable def o228 : Obj := { cls := .type "tuple", data := .seq ⟨[]⟩ }
noncomputable def o229 : Obj := { cls := .none, data := .fields ⟨[.int 132 0, .int 4 0, .ref 237, .int 142 0, .int 4 0, .ref 244, .int 145 0, .int 4 0, .ref 251, .int 150 0, .int 4 0, .ref 258, .int 155 0, .int 4 0, .ref 265, .int 161 0, .int 4 0, .ref 272, .int 164 0, .int 4 0, .ref 279, .int 167 0, .int 4 0, .ref 286, .int 173 0, .int 4 0, .ref 293, .int 177 0, .int 4 0, .ref 300, .int 184 0, .int 4 0, .ref 307, .int 187 0, .int 4 0, .ref 314, .int 190 0, .int 4 0, .ref 321, .int 193 0, .int 4 0, .ref 328, .int 201 0, .int 4 0, .ref 335, .int 212 0, .int 4 0, .ref 342, .int 215 0, .int 4 0, .ref 349, .int 218 0, .int 4 0, .ref 356, .int 221 0, .int 4 0, .ref 363, .int 224 0, .int 4 0, .ref 370]⟩ }
noncomputable def o230 : Obj := { cls := .type "code", data := .fields ⟨[.str "Host" 509, .str "Host" 510, .str "/claim/cut.py" 511, .int 130 0, .int 0 0, .int 0 0, .int 0 0, .int 0 0, .ref 228, .bool false, .int 181 0, .ref 229, .none, .none, .none, .none, .int 512 0, .int 130 0, .str "/claim/cut.py" 513]⟩ }
noncomputable def o231 : Obj := { cls := .type "frame", slots := ⟨[some (.ref 230), some (.ref 3), some (.ref 227), none, some (.str "lua.treehost" 334), none, some (.ref 0)]⟩ }
noncomputable def o232 : Obj := { cls := .type "tuple", data := .seq ⟨[]⟩ }
noncomputable def o233 : Obj := { cls := .none, data := .fields ⟨[]⟩ }
noncomputable def o234 : Obj := { cls := .type "tuple", data := .seq ⟨[.str "self" 522, .str "limits" 523, .str "source" 524]⟩ }
noncomputable def o235 : Obj := { cls := .type "tuple", data := .seq ⟨[]⟩ }
noncomputable def o236 : Obj := { cls := .none, data := .func { name := "__init__", qualname := "Host.__init__", params := fd_host_init.params, body := .stmts fd_host_init.body, scope := fd_host_init.scope, globals := 0, closure := [], defaults := .none, kwdefaults := .none } }
noncomputable def o237 : Obj := { cls := .type "code", data := .fields ⟨[.str "__init__" 519, .str "Host.__init__" 520, .str "/claim/cut.py" 521, .int 132 0, .int 3 0, .int 0 0, .int 0 0, .int 3 0, .ref 232, .bool true, .int 181 0, .ref 233, .none, .ref 234, .ref 235, .ref 236, .int 525 0, .int 132 0, .str "/claim/cut.py" 526]⟩ }
noncomputable def o238 : Obj := { cls := .type "function", data := .func { name := "__init__", qualname := "Host.__init__", params := fd_host_init.params, body := .stmts fd_host_init.body, scope := fd_host_init.scope, globals := 3, closure := [], defaults := .none, kwdefaults := .none, pyModule := .str "lua.treehost" 334, code := .ref 237 } }
noncomputable def o239 : Obj := { cls := .type "tuple", data := .seq ⟨[]⟩ }
noncomputable def o240 : Obj := { cls := .none, data := .fields ⟨[]⟩ }
noncomputable def o241 : Obj := { cls := .type "tuple", data := .seq ⟨[.str "self" 531]⟩ }
noncomputable def o242 : Obj := { cls := .type "tuple", data := .seq ⟨[]⟩ }
noncomputable def o243 : Obj := { cls := .none, data := .func { name := "fresh", qualname := "Host.fresh", params := (meAt "Host." 17 1).params, body := .stmts (meAt "Host." 17 1).body, scope := (meAt "Host." 17 1).scope, globals := 0, closure := [], defaults := .none, kwdefaults := .none } }
noncomputable def o244 : Obj := { cls := .type "code", data := .fields ⟨[.str "fresh" 528, .str "Host.fresh" 529, .str "/claim/cut.py" 530, .int 142 0, .int 1 0, .int 0 0, .int 0 0, .int 3 0, .ref 239, .bool true, .int 181 0, .ref 240, .none, .ref 241, .ref 242, .ref 243, .int 532 0, .int 142 0, .str "/claim/cut.py" 533]⟩ }
noncomputable def o245 : Obj := { cls := .type "function", data := .func { name := "fresh", qualname := "Host.fresh", params := (meAt "Host." 17 1).params, body := .stmts (meAt "Host." 17 1).body, scope := (meAt "Host." 17 1).scope, globals := 3, closure := [], defaults := .none, kwdefaults := .none, pyModule := .str "lua.treehost" 334, code := .ref 244 } }
noncomputable def o246 : Obj := { cls := .type "tuple", data := .seq ⟨[]⟩ }
noncomputable def o247 : Obj := { cls := .none, data := .fields ⟨[]⟩ }
noncomputable def o248 : Obj := { cls := .type "tuple", data := .seq ⟨[.str "self" 538]⟩ }
noncomputable def o249 : Obj := { cls := .type "tuple", data := .seq ⟨[]⟩ }
noncomputable def o250 : Obj := { cls := .none, data := .func { name := "tick", qualname := "Host.tick", params := fd_tick.params, body := .stmts fd_tick.body, scope := fd_tick.scope, globals := 0, closure := [], defaults := .none, kwdefaults := .none } }
noncomputable def o251 : Obj := { cls := .type "code", data := .fields ⟨[.str "tick" 535, .str "Host.tick" 536, .str "/claim/cut.py" 537, .int 145 0, .int 1 0, .int 0 0, .int 0 0, .int 3 0, .ref 246, .bool true, .int 181 0, .ref 247, .none, .ref 248, .ref 249, .ref 250, .int 539 0, .int 145 0, .str "/claim/cut.py" 540]⟩ }
noncomputable def o252 : Obj := { cls := .type "function", data := .func { name := "tick", qualname := "Host.tick", params := fd_tick.params, body := .stmts fd_tick.body, scope := fd_tick.scope, globals := 3, closure := [], defaults := .none, kwdefaults := .none, pyModule := .str "lua.treehost" 334, code := .ref 251 } }
noncomputable def o253 : Obj := { cls := .type "tuple", data := .seq ⟨[]⟩ }
noncomputable def o254 : Obj := { cls := .none, data := .fields ⟨[]⟩ }
noncomputable def o255 : Obj := { cls := .type "tuple", data := .seq ⟨[.str "self" 545, .str "many" 546]⟩ }
noncomputable def o256 : Obj := { cls := .type "tuple", data := .seq ⟨[]⟩ }
noncomputable def o257 : Obj := { cls := .none, data := .func { name := "go_deeper", qualname := "Host.go_deeper", params := fd_go_deeper.params, body := .stmts fd_go_deeper.body, scope := fd_go_deeper.scope, globals := 0, closure := [], defaults := .none, kwdefaults := .none } }
noncomputable def o258 : Obj := { cls := .type "code", data := .fields ⟨[.str "go_deeper" 542, .str "Host.go_deeper" 543, .str "/claim/cut.py" 544, .int 150 0, .int 2 0, .int 0 0, .int 0 0, .int 3 0, .ref 253, .bool true, .int 181 0, .ref 254, .none, .ref 255, .ref 256, .ref 257, .int 547 0, .int 150 0, .str "/claim/cut.py" 548]⟩ }
noncomputable def o259 : Obj := { cls := .type "function", data := .func { name := "go_deeper", qualname := "Host.go_deeper", params := fd_go_deeper.params, body := .stmts fd_go_deeper.body, scope := fd_go_deeper.scope, globals := 3, closure := [], defaults := .none, kwdefaults := .none, pyModule := .str "lua.treehost" 334, code := .ref 258 } }
noncomputable def o260 : Obj := { cls := .type "tuple", data := .seq ⟨[]⟩ }
noncomputable def o261 : Obj := { cls := .none, data := .fields ⟨[]⟩ }
noncomputable def o262 : Obj := { cls := .type "tuple", data := .seq ⟨[.str "self" 553, .str "level" 554, .str "at" 555]⟩ }
noncomputable def o263 : Obj := { cls := .type "tuple", data := .seq ⟨[]⟩ }
noncomputable def o264 : Obj := { cls := .none, data := .func { name := "where", qualname := "Host.where", params := fd_where.params, body := .stmts fd_where.body, scope := fd_where.scope, globals := 0, closure := [], defaults := .none, kwdefaults := .none } }
noncomputable def o265 : Obj := { cls := .type "code", data := .fields ⟨[.str "where" 550, .str "Host.where" 551, .str "/claim/cut.py" 552, .int 155 0, .int 2 0, .int 0 0, .int 0 0, .int 3 0, .ref 260, .bool true, .int 181 0, .ref 261, .none, .ref 262, .ref 263, .ref 264, .int 556 0, .int 155 0, .str "/claim/cut.py" 557]⟩ }
noncomputable def o266 : Obj := { cls := .type "function", data := .func { name := "where", qualname := "Host.where", params := fd_where.params, body := .stmts fd_where.body, scope := fd_where.scope, globals := 3, closure := [], defaults := .none, kwdefaults := .none, pyModule := .str "lua.treehost" 334, code := .ref 265 } }
noncomputable def o267 : Obj := { cls := .type "tuple", data := .seq ⟨[]⟩ }
noncomputable def o268 : Obj := { cls := .none, data := .fields ⟨[]⟩ }
noncomputable def o269 : Obj := { cls := .type "tuple", data := .seq ⟨[.str "self" 562, .str "text" 563]⟩ }
noncomputable def o270 : Obj := { cls := .type "tuple", data := .seq ⟨[]⟩ }
noncomputable def o271 : Obj := { cls := .none, data := .func { name := "fail", qualname := "Host.fail", params := fd_fail.params, body := .stmts fd_fail.body, scope := fd_fail.scope, globals := 0, closure := [], defaults := .none, kwdefaults := .none } }
noncomputable def o272 : Obj := { cls := .type "code", data := .fields ⟨[.str "fail" 559, .str "Host.fail" 560, .str "/claim/cut.py" 561, .int 161 0, .int 2 0, .int 0 0, .int 0 0, .int 3 0, .ref 267, .bool true, .int 181 0, .ref 268, .none, .ref 269, .ref 270, .ref 271, .int 564 0, .int 161 0, .str "/claim/cut.py" 565]⟩ }
noncomputable def o273 : Obj := { cls := .type "function", data := .func { name := "fail", qualname := "Host.fail", params := fd_fail.params, body := .stmts fd_fail.body, scope := fd_fail.scope, globals := 3, closure := [], defaults := .none, kwdefaults := .none, pyModule := .str "lua.treehost" 334, code := .ref 272 } }
noncomputable def o274 : Obj := { cls := .type "tuple", data := .seq ⟨[]⟩ }
noncomputable def o275 : Obj := { cls := .none, data := .fields ⟨[]⟩ }
noncomputable def o276 : Obj := { cls := .type "tuple", data := .seq ⟨[.str "self" 570, .str "text" 571]⟩ }
noncomputable def o277 : Obj := { cls := .type "tuple", data := .seq ⟨[]⟩ }
noncomputable def o278 : Obj := { cls := .none, data := .func { name := "complain", qualname := "Host.complain", params := fd_complain.params, body := .stmts fd_complain.body, scope := fd_complain.scope, globals := 0, closure := [], defaults := .none, kwdefaults := .none } }
noncomputable def o279 : Obj := { cls := .type "code", data := .fields ⟨[.str "complain" 567, .str "Host.complain" 568, .str "/claim/cut.py" 569, .int 164 0, .int 2 0, .int 0 0, .int 0 0, .int 3 0, .ref 274, .bool true, .int 181 0, .ref 275, .none, .ref 276, .ref 277, .ref 278, .int 572 0, .int 164 0, .str "/claim/cut.py" 573]⟩ }
noncomputable def o280 : Obj := { cls := .type "function", data := .func { name := "complain", qualname := "Host.complain", params := fd_complain.params, body := .stmts fd_complain.body, scope := fd_complain.scope, globals := 3, closure := [], defaults := .none, kwdefaults := .none, pyModule := .str "lua.treehost" 334, code := .ref 279 } }
noncomputable def o281 : Obj := { cls := .type "tuple", data := .seq ⟨[]⟩ }
noncomputable def o282 : Obj := { cls := .none, data := .fields ⟨[]⟩ }
noncomputable def o283 : Obj := { cls := .type "tuple", data := .seq ⟨[.str "self" 578, .str "value" 579, .str "deed" 580, .str "name" 581, .str "kind" 582]⟩ }
noncomputable def o284 : Obj := { cls := .type "tuple", data := .seq ⟨[]⟩ }
noncomputable def o285 : Obj := { cls := .none, data := .func { name := "fail_type", qualname := "Host.fail_type", params := fd_fail_type.params, body := .stmts fd_fail_type.body, scope := fd_fail_type.scope, globals := 0, closure := [], defaults := .none, kwdefaults := .none } }
noncomputable def o286 : Obj := { cls := .type "code", data := .fields ⟨[.str "fail_type" 575, .str "Host.fail_type" 576, .str "/claim/cut.py" 577, .int 167 0, .int 4 0, .int 0 0, .int 0 0, .int 3 0, .ref 281, .bool true, .int 181 0, .ref 282, .none, .ref 283, .ref 284, .ref 285, .int 583 0, .int 167 0, .str "/claim/cut.py" 584]⟩ }
noncomputable def o287 : Obj := { cls := .type "function", data := .func { name := "fail_type", qualname := "Host.fail_type", params := fd_fail_type.params, body := .stmts fd_fail_type.body, scope := fd_fail_type.scope, globals := 3, closure := [], defaults := .none, kwdefaults := .none, pyModule := .str "lua.treehost" 334, code := .ref 286 } }
noncomputable def o288 : Obj := { cls := .type "tuple", data := .seq ⟨[]⟩ }
noncomputable def o289 : Obj := { cls := .none, data := .fields ⟨[]⟩ }
noncomputable def o290 : Obj := { cls := .type "tuple", data := .seq ⟨[.str "self" 589, .str "many" 590]⟩ }
noncomputable def o291 : Obj := { cls := .type "tuple", data := .seq ⟨[]⟩ }
noncomputable def o292 : Obj := { cls := .none, data := .func { name := "cut_frames", qualname := "Host.cut_frames", params := fd_cut_frames.params, body := .stmts fd_cut_frames.body, scope := fd_cut_frames.scope, globals := 0, closure := [], defaults := .none, kwdefaults := .none } }
noncomputable def o293 : Obj := { cls := .type "code", data := .fields ⟨[.str "cut_frames" 586, .str "Host.cut_frames" 587, .str "/claim/cut.py" 588, .int 173 0, .int 2 0, .int 0 0, .int 0 0, .int 3 0, .ref 288, .bool true, .int 181 0, .ref 289, .none, .ref 290, .ref 291, .ref 292, .int 591 0, .int 173 0, .str "/claim/cut.py" 592]⟩ }
noncomputable def o294 : Obj := { cls := .type "function", data := .func { name := "cut_frames", qualname := "Host.cut_frames", params := fd_cut_frames.params, body := .stmts fd_cut_frames.body, scope := fd_cut_frames.scope, globals := 3, closure := [], defaults := .none, kwdefaults := .none, pyModule := .str "lua.treehost" 334, code := .ref 293 } }
noncomputable def o295 : Obj := { cls := .type "tuple", data := .seq ⟨[]⟩ }
noncomputable def o296 : Obj := { cls := .none, data := .fields ⟨[]⟩ }
noncomputable def o297 : Obj := { cls := .type "tuple", data := .seq ⟨[.str "self" 597, .str "value" 598, .str "event" 599]⟩ }
noncomputable def o298 : Obj := { cls := .type "tuple", data := .seq ⟨[]⟩ }
noncomputable def o299 : Obj := { cls := .none, data := .func { name := "handler", qualname := "Host.handler", params := fd_handler.params, body := .stmts fd_handler.body, scope := fd_handler.scope, globals := 0, closure := [], defaults := .none, kwdefaults := .none } }
noncomputable def o300 : Obj := { cls := .type "code", data := .fields ⟨[.str "handler" 594, .str "Host.handler" 595, .str "/claim/cut.py" 596, .int 177 0, .int 3 0, .int 0 0, .int 0 0, .int 3 0, .ref 295, .bool true, .int 181 0, .ref 296, .none, .ref 297, .ref 298, .ref 299, .int 600 0, .int 177 0, .str "/claim/cut.py" 601]⟩ }
noncomputable def o301 : Obj := { cls := .type "function", data := .func { name := "handler", qualname := "Host.handler", params := fd_handler.params, body := .stmts fd_handler.body, scope := fd_handler.scope, globals := 3, closure := [], defaults := .none, kwdefaults := .none, pyModule := .str "lua.treehost" 334, code := .ref 300 } }
noncomputable def o302 : Obj := { cls := .type "tuple", data := .seq ⟨[]⟩ }
noncomputable def o303 : Obj := { cls := .none, data := .fields ⟨[]⟩ }
noncomputable def o304 : Obj := { cls := .type "tuple", data := .seq ⟨[.str "self" 606, .str "handler" 607, .str "args" 608]⟩ }
noncomputable def o305 : Obj := { cls := .type "tuple", data := .seq ⟨[]⟩ }
noncomputable def o306 : Obj := { cls := .none, data := .func { name := "call_handler", qualname := "Host.call_handler", params := (meAt "Host." 17 10).params, body := .stmts (meAt "Host." 17 10).body, scope := (meAt "Host." 17 10).scope, globals := 0, closure := [], defaults := .none, kwdefaults := .none } }
noncomputable def o307 : Obj := { cls := .type "code", data := .fields ⟨[.str "call_handler" 603, .str "Host.call_handler" 604, .str "/claim/cut.py" 605, .int 184 0, .int 3 0, .int 0 0, .int 0 0, .int 3 0, .ref 302, .bool true, .int 181 0, .ref 303, .none, .ref 304, .ref 305, .ref 306, .int 609 0, .int 184 0, .str "/claim/cut.py" 610]⟩ }
noncomputable def o308 : Obj := { cls := .type "function", data := .func { name := "call_handler", qualname := "Host.call_handler", params := (meAt "Host." 17 10).params, body := .stmts (meAt "Host." 17 10).body, scope := (meAt "Host." 17 10).scope, globals := 3, closure := [], defaults := .none, kwdefaults := .none, pyModule := .str "lua.treehost" 334, code := .ref 307 } }
noncomputable def o309 : Obj := { cls := .type "tuple", data := .seq ⟨[]⟩ }
noncomputable def o310 : Obj := { cls := .none, data := .fields ⟨[]⟩ }
noncomputable def o311 : Obj := { cls := .type "tuple", data := .seq ⟨[.str "self" 615, .str "one" 616, .str "other" 617, .str "event" 618]⟩ }
noncomputable def o312 : Obj := { cls := .type "tuple", data := .seq ⟨[]⟩ }
noncomputable def o313 : Obj := { cls := .none, data := .func { name := "either", qualname := "Host.either", params := (meAt "Host." 17 11).params, body := .stmts (meAt "Host." 17 11).body, scope := (meAt "Host." 17 11).scope, globals := 0, closure := [], defaults := .none, kwdefaults := .none } }
noncomputable def o314 : Obj := { cls := .type "code", data := .fields ⟨[.str "either" 612, .str "Host.either" 613, .str "/claim/cut.py" 614, .int 187 0, .int 4 0, .int 0 0, .int 0 0, .int 3 0, .ref 309, .bool true, .int 181 0, .ref 310, .none, .ref 311, .ref 312, .ref 313, .int 619 0, .int 187 0, .str "/claim/cut.py" 620]⟩ }
noncomputable def o315 : Obj := { cls := .type "function", data := .func { name := "either", qualname := "Host.either", params := (meAt "Host." 17 11).params, body := .stmts (meAt "Host." 17 11).body, scope := (meAt "Host." 17 11).scope, globals := 3, closure := [], defaults := .none, kwdefaults := .none, pyModule := .str "lua.treehost" 334, code := .ref 314 } }
noncomputable def o316 : Obj := { cls := .type "tuple", data := .seq ⟨[]⟩ }
noncomputable def o317 : Obj := { cls := .none, data := .fields ⟨[]⟩ }
noncomputable def o318 : Obj := { cls := .type "tuple", data := .seq ⟨[.str "self" 625, .str "function" 626, .str "args" 627, .str "name" 628]⟩ }
noncomputable def o319 : Obj := { cls := .type "tuple", data := .seq ⟨[]⟩ }
noncomputable def o320 : Obj := { cls := .none, data := .func { name := "call", qualname := "Host.call", params := fd_call.params, body := .stmts fd_call.body, scope := fd_call.scope, globals := 0, closure := [], defaults := .none, kwdefaults := .none } }
noncomputable def o321 : Obj := { cls := .type "code", data := .fields ⟨[.str "call" 622, .str "Host.call" 623, .str "/claim/cut.py" 624, .int 190 0, .int 4 0, .int 0 0, .int 0 0, .int 3 0, .ref 316, .bool true, .int 181 0, .ref 317, .none, .ref 318, .ref 319, .ref 320, .int 629 0, .int 190 0, .str "/claim/cut.py" 630]⟩ }
noncomputable def o322 : Obj := { cls := .type "function", data := .func { name := "call", qualname := "Host.call", params := fd_call.params, body := .stmts fd_call.body, scope := fd_call.scope, globals := 3, closure := [], defaults := .none, kwdefaults := .none, pyModule := .str "lua.treehost" 334, code := .ref 321 } }
noncomputable def o323 : Obj := { cls := .type "tuple", data := .seq ⟨[]⟩ }
noncomputable def o324 : Obj := { cls := .none, data := .fields ⟨[]⟩ }
noncomputable def o325 : Obj := { cls := .type "tuple", data := .seq ⟨[.str "self" 635, .str "function" 636, .str "args" 637, .str "name" 638, .str "follow" 639]⟩ }
noncomputable def o326 : Obj := { cls := .type "tuple", data := .seq ⟨[]⟩ }
noncomputable def o327 : Obj := { cls := .none, data := .func { name := "call_other", qualname := "Host.call_other", params := fd_call_other.params, body := .stmts fd_call_other.body, scope := fd_call_other.scope, globals := 0, closure := [], defaults := .none, kwdefaults := .none } }
noncomputable def o328 : Obj := { cls := .type "code", data := .fields ⟨[.str "call_other" 632, .str "Host.call_other" 633, .str "/claim/cut.py" 634, .int 193 0, .int 4 0, .int 0 0, .int 0 0, .int 3 0, .ref 323, .bool true, .int 181 0, .ref 324, .none, .ref 325, .ref 326, .ref 327, .int 640 0, .int 193 0, .str "/claim/cut.py" 641]⟩ }
noncomputable def o329 : Obj := { cls := .type "function", data := .func { name := "call_other", qualname := "Host.call_other", params := fd_call_other.params, body := .stmts fd_call_other.body, scope := fd_call_other.scope, globals := 3, closure := [], defaults := .none, kwdefaults := .none, pyModule := .str "lua.treehost" 334, code := .ref 328 } }
noncomputable def o330 : Obj := { cls := .type "tuple", data := .seq ⟨[]⟩ }
noncomputable def o331 : Obj := { cls := .none, data := .fields ⟨[]⟩ }
noncomputable def o332 : Obj := { cls := .type "tuple", data := .seq ⟨[.str "self" 646, .str "function" 647, .str "args" 648, .str "frame" 649, .str "found" 650]⟩ }
noncomputable def o333 : Obj := { cls := .type "tuple", data := .seq ⟨[]⟩ }
noncomputable def o334 : Obj := { cls := .none, data := .func { name := "call_host", qualname := "Host.call_host", params := fd_call_host.params, body := .stmts fd_call_host.body, scope := fd_call_host.scope, globals := 0, closure := [], defaults := .none, kwdefaults := .none } }
noncomputable def o335 : Obj := { cls := .type "code", data := .fields ⟨[.str "call_host" 643, .str "Host.call_host" 644, .str "/claim/cut.py" 645, .int 201 0, .int 3 0, .int 0 0, .int 0 0, .int 3 0, .ref 330, .bool true, .int 181 0, .ref 331, .none, .ref 332, .ref 333, .ref 334, .int 651 0, .int 201 0, .str "/claim/cut.py" 652]⟩ }
noncomputable def o336 : Obj := { cls := .type "function", data := .func { name := "call_host", qualname := "Host.call_host", params := fd_call_host.params, body := .stmts fd_call_host.body, scope := fd_call_host.scope, globals := 3, closure := [], defaults := .none, kwdefaults := .none, pyModule := .str "lua.treehost" 334, code := .ref 335 } }
noncomputable def o337 : Obj := { cls := .type "tuple", data := .seq ⟨[]⟩ }
noncomputable def o338 : Obj := { cls := .none, data := .fields ⟨[]⟩ }
noncomputable def o339 : Obj := { cls := .type "tuple", data := .seq ⟨[.str "self" 657, .str "one" 658, .str "other" 659]⟩ }
noncomputable def o340 : Obj := { cls := .type "tuple", data := .seq ⟨[]⟩ }
noncomputable def o341 : Obj := { cls := .none, data := .func { name := "equal", qualname := "Host.equal", params := (meAt "Host." 17 15).params, body := .stmts (meAt "Host." 17 15).body, scope := (meAt "Host." 17 15).scope, globals := 0, closure := [], defaults := .none, kwdefaults := .none } }
noncomputable def o342 : Obj := { cls := .type "code", data := .fields ⟨[.str "equal" 654, .str "Host.equal" 655, .str "/claim/cut.py" 656, .int 212 0, .int 3 0, .int 0 0, .int 0 0, .int 3 0, .ref 337, .bool true, .int 181 0, .ref 338, .none, .ref 339, .ref 340, .ref 341, .int 660 0, .int 212 0, .str "/claim/cut.py" 661]⟩ }
noncomputable def o343 : Obj := { cls := .type "function", data := .func { name := "equal", qualname := "Host.equal", params := (meAt "Host." 17 15).params, body := .stmts (meAt "Host." 17 15).body, scope := (meAt "Host." 17 15).scope, globals := 3, closure := [], defaults := .none, kwdefaults := .none, pyModule := .str "lua.treehost" 334, code := .ref 342 } }
noncomputable def o344 : Obj := { cls := .type "tuple", data := .seq ⟨[]⟩ }
noncomputable def o345 : Obj := { cls := .none, data := .fields ⟨[]⟩ }
noncomputable def o346 : Obj := { cls := .type "tuple", data := .seq ⟨[.str "self" 666, .str "one" 667, .str "other" 668, .str "event" 669]⟩ }
noncomputable def o347 : Obj := { cls := .type "tuple", data := .seq ⟨[]⟩ }
noncomputable def o348 : Obj := { cls := .none, data := .func { name := "compared", qualname := "Host.compared", params := (meAt "Host." 17 16).params, body := .stmts (meAt "Host." 17 16).body, scope := (meAt "Host." 17 16).scope, globals := 0, closure := [], defaults := .none, kwdefaults := .none } }
noncomputable def o349 : Obj := { cls := .type "code", data := .fields ⟨[.str "compared" 663, .str "Host.compared" 664, .str "/claim/cut.py" 665, .int 215 0, .int 4 0, .int 0 0, .int 0 0, .int 3 0, .ref 344, .bool true, .int 181 0, .ref 345, .none, .ref 346, .ref 347, .ref 348, .int 670 0, .int 215 0, .str "/claim/cut.py" 671]⟩ }
noncomputable def o350 : Obj := { cls := .type "function", data := .func { name := "compared", qualname := "Host.compared", params := (meAt "Host." 17 16).params, body := .stmts (meAt "Host." 17 16).body, scope := (meAt "Host." 17 16).scope, globals := 3, closure := [], defaults := .none, kwdefaults := .none, pyModule := .str "lua.treehost" 334, code := .ref 349 } }
noncomputable def o351 : Obj := { cls := .type "tuple", data := .seq ⟨[]⟩ }
noncomputable def o352 : Obj := { cls := .none, data := .fields ⟨[]⟩ }
noncomputable def o353 : Obj := { cls := .type "tuple", data := .seq ⟨[.str "self" 676, .str "one" 677, .str "other" 678]⟩ }
noncomputable def o354 : Obj := { cls := .type "tuple", data := .seq ⟨[]⟩ }
noncomputable def o355 : Obj := { cls := .none, data := .func { name := "fail_order", qualname := "Host.fail_order", params := (meAt "Host." 17 17).params, body := .stmts (meAt "Host." 17 17).body, scope := (meAt "Host." 17 17).scope, globals := 0, closure := [], defaults := .none, kwdefaults := .none } }
noncomputable def o356 : Obj := { cls := .type "code", data := .fields ⟨[.str "fail_order" 673, .str "Host.fail_order" 674, .str "/claim/cut.py" 675, .int 218 0, .int 3 0, .int 0 0, .int 0 0, .int 3 0, .ref 351, .bool true, .int 181 0, .ref 352, .none, .ref 353, .ref 354, .ref 355, .int 679 0, .int 218 0, .str "/claim/cut.py" 680]⟩ }
noncomputable def o357 : Obj := { cls := .type "function", data := .func { name := "fail_order", qualname := "Host.fail_order", params := (meAt "Host." 17 17).params, body := .stmts (meAt "Host." 17 17).body, scope := (meAt "Host." 17 17).scope, globals := 3, closure := [], defaults := .none, kwdefaults := .none, pyModule := .str "lua.treehost" 334, code := .ref 356 } }
noncomputable def o358 : Obj := { cls := .type "tuple", data := .seq ⟨[]⟩ }
noncomputable def o359 : Obj := { cls := .none, data := .fields ⟨[]⟩ }
noncomputable def o360 : Obj := { cls := .type "tuple", data := .seq ⟨[.str "self" 685, .str "one" 686, .str "other" 687]⟩ }
noncomputable def o361 : Obj := { cls := .type "tuple", data := .seq ⟨[]⟩ }
noncomputable def o362 : Obj := { cls := .none, data := .func { name := "less", qualname := "Host.less", params := (meAt "Host." 17 18).params, body := .stmts (meAt "Host." 17 18).body, scope := (meAt "Host." 17 18).scope, globals := 0, closure := [], defaults := .none, kwdefaults := .none } }
noncomputable def o363 : Obj := { cls := .type "code", data := .fields ⟨[.str "less" 682, .str "Host.less" 683, .str "/claim/cut.py" 684, .int 221 0, .int 3 0, .int 0 0, .int 0 0, .int 3 0, .ref 358, .bool true, .int 181 0, .ref 359, .none, .ref 360, .ref 361, .ref 362, .int 688 0, .int 221 0, .str "/claim/cut.py" 689]⟩ }
noncomputable def o364 : Obj := { cls := .type "function", data := .func { name := "less", qualname := "Host.less", params := (meAt "Host." 17 18).params, body := .stmts (meAt "Host." 17 18).body, scope := (meAt "Host." 17 18).scope, globals := 3, closure := [], defaults := .none, kwdefaults := .none, pyModule := .str "lua.treehost" 334, code := .ref 363 } }
noncomputable def o365 : Obj := { cls := .type "tuple", data := .seq ⟨[]⟩ }
noncomputable def o366 : Obj := { cls := .none, data := .fields ⟨[]⟩ }
noncomputable def o367 : Obj := { cls := .type "tuple", data := .seq ⟨[.str "self" 694, .str "one" 695, .str "other" 696]⟩ }
noncomputable def o368 : Obj := { cls := .type "tuple", data := .seq ⟨[]⟩ }
noncomputable def o369 : Obj := { cls := .none, data := .func { name := "at_most", qualname := "Host.at_most", params := (meAt "Host." 17 19).params, body := .stmts (meAt "Host." 17 19).body, scope := (meAt "Host." 17 19).scope, globals := 0, closure := [], defaults := .none, kwdefaults := .none } }
noncomputable def o370 : Obj := { cls := .type "code", data := .fields ⟨[.str "at_most" 691, .str "Host.at_most" 692, .str "/claim/cut.py" 693, .int 224 0, .int 3 0, .int 0 0, .int 0 0, .int 3 0, .ref 365, .bool true, .int 181 0, .ref 366, .none, .ref 367, .ref 368, .ref 369, .int 697 0, .int 224 0, .str "/claim/cut.py" 698]⟩ }
noncomputable def o371 : Obj := { cls := .type "function", data := .func { name := "at_most", qualname := "Host.at_most", params := (meAt "Host." 17 19).params, body := .stmts (meAt "Host." 17 19).body, scope := (meAt "Host." 17 19).scope, globals := 3, closure := [], defaults := .none, kwdefaults := .none, pyModule := .str "lua.treehost" 334, code := .ref 370 } }
noncomputable def o372 : Obj := { cls := .type "tuple", data := .seq ⟨[.str "chunk" 700, .str "deep" 701, .str "frames" 702, .str "limits" 703, .str "made" 704, .str "out" 705, .str "steps" 706, .str "texts" 707]⟩ }
noncomputable def o373 (P : Params) : Obj := { cls := .type "dict", data := .dict ⟨[E P "__module__" 514 (.str "lua.treehost" 334), E P "__firstlineno__" 518 (.int 130 517), E P "__init__" 527 (.ref 238), E P "fresh" 534 (.ref 245), E P "tick" 541 (.ref 252), E P "go_deeper" 549 (.ref 259), E P "where" 558 (.ref 266), E P "fail" 566 (.ref 273), E P "complain" 574 (.ref 280), E P "fail_type" 585 (.ref 287), E P "cut_frames" 593 (.ref 294), E P "handler" 602 (.ref 301), E P "call_handler" 611 (.ref 308), E P "either" 621 (.ref 315), E P "call" 631 (.ref 322), E P "call_other" 642 (.ref 329), E P "call_host" 653 (.ref 336), E P "equal" 662 (.ref 343), E P "compared" 672 (.ref 350), E P "fail_order" 681 (.ref 357), E P "less" 690 (.ref 364), E P "at_most" 699 (.ref 371), E P "__static_attributes__" 708 (.ref 372), E P "__dict__" 710 (.ref 375), E P "__weakref__" 712 (.ref 376), E P "__doc__" 713 (.none)]⟩ 4 }
noncomputable def o374 : Obj := { cls := .type "type", data := .cls { name := "Host", bases := [.type "object"], mro := [.ref 374, .type "object"], ns := 373, qualname := "Host" }, slots := ⟨[none, none, some (.str "Host" 507), some (.str "Host" 515), some (.builtin "object.__new__"), some (.bool true)]⟩ }
noncomputable def o375 : Obj := { cls := .type "getset_descriptor", data := .fields ⟨[.str "__dict__" 709, .ref 374, .builtin "function.__dict__", .builtin "function.__dict__#set"]⟩ }
noncomputable def o376 : Obj := { cls := .type "getset_descriptor", data := .fields ⟨[.str "__weakref__" 711, .ref 374, .builtin "ExceptionGroup.__weakref__", .none]⟩ }
noncomputable def o377 : Obj := { cls := .type "super", data := .fields ⟨[.ref 374, .ref 374, .ref 374]⟩ }
noncomputable def o378 : Obj := { cls := .type "builtin_function_or_method", data := .fields ⟨[.builtin "object.__init_subclass__", .ref 374]⟩ }
noncomputable def o379 : Obj := { cls := .type "tuple", data := .seq ⟨[]⟩ }
noncomputable def o380 : Obj := { cls := .none, data := .fields ⟨[]⟩ }
noncomputable def o381 : Obj := { cls := .type "tuple", data := .seq ⟨[.str "runner" 721, .str "name" 722, .str "at" 723, .str "text" 724]⟩ }
noncomputable def o382 : Obj := { cls := .type "tuple", data := .seq ⟨[]⟩ }
noncomputable def o383 : Obj := { cls := .none, data := .func { name := "refuse_argument", qualname := "refuse_argument", params := fd_refuse.params, body := .stmts fd_refuse.body, scope := fd_refuse.scope, globals := 0, closure := [], defaults := .none, kwdefaults := .none } }
noncomputable def o384 : Obj := { cls := .type "code", data := .fields ⟨[.str "refuse_argument" 718, .str "refuse_argument" 719, .str "/claim/cut.py" 720, .int 227 0, .int 4 0, .int 0 0, .int 0 0, .int 3 0, .ref 379, .bool true, .int 181 0, .ref 380, .none, .ref 381, .ref 382, .ref 383, .int 725 0, .int 227 0, .str "/claim/cut.py" 726]⟩ }
noncomputable def o385 : Obj := { cls := .type "function", data := .func { name := "refuse_argument", qualname := "refuse_argument", params := fd_refuse.params, body := .stmts fd_refuse.body, scope := fd_refuse.scope, globals := 3, closure := [], defaults := .none, kwdefaults := .none, pyModule := .str "lua.treelib" 716, code := .ref 384 } }
noncomputable def o386 : Obj := { cls := .type "tuple", data := .seq ⟨[]⟩ }
noncomputable def o387 : Obj := { cls := .none, data := .fields ⟨[]⟩ }
noncomputable def o388 : Obj := { cls := .type "tuple", data := .seq ⟨[.str "runner" 731, .str "name" 732, .str "args" 733, .str "at" 734]⟩ }
noncomputable def o389 : Obj := { cls := .type "tuple", data := .seq ⟨[]⟩ }
noncomputable def o390 : Obj := { cls := .none, data := .func { name := "need_any", qualname := "need_any", params := fd_need.params, body := .stmts fd_need.body, scope := fd_need.scope, globals := 0, closure := [], defaults := .none, kwdefaults := .none } }
noncomputable def o391 : Obj := { cls := .type "code", data := .fields ⟨[.str "need_any" 728, .str "need_any" 729, .str "/claim/cut.py" 730, .int 229 0, .int 4 0, .int 0 0, .int 0 0, .int 3 0, .ref 386, .bool true, .int 181 0, .ref 387, .none, .ref 388, .ref 389, .ref 390, .int 735 0, .int 229 0, .str "/claim/cut.py" 736]⟩ }
noncomputable def o392 : Obj := { cls := .type "function", data := .func { name := "need_any", qualname := "need_any", params := fd_need.params, body := .stmts fd_need.body, scope := fd_need.scope, globals := 3, closure := [], defaults := .none, kwdefaults := .none, pyModule := .str "lua.treelib" 716, code := .ref 391 } }
noncomputable def o393 : Obj := { cls := .type "tuple", data := .seq ⟨[]⟩ }
noncomputable def o394 : Obj := { cls := .none, data := .fields ⟨[]⟩ }
noncomputable def o395 : Obj := { cls := .type "tuple", data := .seq ⟨[.str "runner" 741, .str "args" 742, .str "many" 743, .str "found" 744, .str "error" 745]⟩ }
noncomputable def o396 : Obj := { cls := .type "tuple", data := .seq ⟨[]⟩ }
noncomputable def o397 : Obj := { cls := .none, data := .func { name := "base_pcall", qualname := "base_pcall", params := fd_pcall.params, body := .stmts fd_pcall.body, scope := fd_pcall.scope, globals := 0, closure := [], defaults := .none, kwdefaults := .none } }
noncomputable def o398 : Obj := { cls := .type "code", data := .fields ⟨[.str "base_pcall" 738, .str "base_pcall" 739, .str "/claim/cut.py" 740, .int 233 0, .int 2 0, .int 0 0, .int 0 0, .int 3 0, .ref 393, .bool true, .int 181 0, .ref 394, .none, .ref 395, .ref 396, .ref 397, .int 746 0, .int 233 0, .str "/claim/cut.py" 747]⟩ }
noncomputable def o399 : Obj := { cls := .type "function", data := .func { name := "base_pcall", qualname := "base_pcall", params := fd_pcall.params, body := .stmts fd_pcall.body, scope := fd_pcall.scope, globals := 3, closure := [], defaults := .none, kwdefaults := .none, pyModule := .str "lua.treelib" 716, code := .ref 398 } }
noncomputable def o400 : Obj := { cls := .type "tuple", data := .seq ⟨[.bytes ⟨[116, 111, 111, 32, 109, 97, 110, 121, 32, 115, 116, 101, 112, 115]⟩ 751, .bytes ⟨[115, 116, 97, 99, 107, 32, 111, 118, 101, 114, 102, 108, 111, 119]⟩ 752]⟩ }
noncomputable def o401 : Obj := { cls := .type "tuple", data := .seq ⟨[]⟩ }
noncomputable def o402 : Obj := { cls := .none, data := .fields ⟨[]⟩ }
noncomputable def o403 : Obj := { cls := .type "tuple", data := .seq ⟨[.str "spool" 757, .str "below" 758, .str "turn" 759]⟩ }
noncomputable def o404 : Obj := { cls := .type "tuple", data := .seq ⟨[]⟩ }
noncomputable def o405 : Obj := { cls := .none, data := .func { name := "_law_draw", qualname := "_law_draw", params := fd_draw.params, body := .stmts fd_draw.body, scope := fd_draw.scope, globals := 0, closure := [], defaults := .none, kwdefaults := .none } }
noncomputable def o406 : Obj := { cls := .type "code", data := .fields ⟨[.str "_law_draw" 754, .str "_law_draw" 755, .str "/claim/cut.py" 756, .int 244 0, .int 2 0, .int 0 0, .int 0 0, .int 3 0, .ref 401, .bool true, .int 181 0, .ref 402, .none, .ref 403, .ref 404, .ref 405, .int 760 0, .int 244 0, .str "/claim/cut.py" 761]⟩ }
noncomputable def o407 : Obj := { cls := .type "function", data := .func { name := "_law_draw", qualname := "_law_draw", params := fd_draw.params, body := .stmts fd_draw.body, scope := fd_draw.scope, globals := 3, closure := [], defaults := .none, kwdefaults := .none, pyModule := .str "law_sm0058_01" 749, code := .ref 406 } }
noncomputable def o408 : Obj := { cls := .type "tuple", data := .seq ⟨[]⟩ }
noncomputable def o409 : Obj := { cls := .none, data := .fields ⟨[]⟩ }
noncomputable def o410 : Obj := { cls := .type "tuple", data := .seq ⟨[.str "spool" 766, .str "at" 767, .str "deeds" 768, .str "turn" 769, .str "way" 770]⟩ }
noncomputable def o411 : Obj := { cls := .type "tuple", data := .seq ⟨[]⟩ }
noncomputable def o412 : Obj := { cls := .none, data := .func { name := "_law_deeds", qualname := "_law_deeds", params := fd_deeds.params, body := .stmts fd_deeds.body, scope := fd_deeds.scope, globals := 0, closure := [], defaults := .none, kwdefaults := .none } }
noncomputable def o413 : Obj := { cls := .type "code", data := .fields ⟨[.str "_law_deeds" 763, .str "_law_deeds" 764, .str "/claim/cut.py" 765, .int 248 0, .int 2 0, .int 0 0, .int 0 0, .int 3 0, .ref 408, .bool true, .int 181 0, .ref 409, .none, .ref 410, .ref 411, .ref 412, .int 771 0, .int 248 0, .str "/claim/cut.py" 772]⟩ }
noncomputable def o414 : Obj := { cls := .type "function", data := .func { name := "_law_deeds", qualname := "_law_deeds", params := fd_deeds.params, body := .stmts fd_deeds.body, scope := fd_deeds.scope, globals := 3, closure := [], defaults := .none, kwdefaults := .none, pyModule := .str "law_sm0058_01" 749, code := .ref 413 } }
noncomputable def o415 : Obj := { cls := .type "tuple", data := .seq ⟨[]⟩ }
noncomputable def o416 : Obj := { cls := .none, data := .fields ⟨[]⟩ }
noncomputable def o417 : Obj := { cls := .type "tuple", data := .seq ⟨[.str "way" 777, .str "one" 778, .str "row" 779, .str "catcher" 780, .str "none" 781]⟩ }
noncomputable def o418 : Obj := { cls := .type "tuple", data := .seq ⟨[]⟩ }
noncomputable def o419 : Obj := { cls := .none, data := .func { name := "_law_call_of", qualname := "_law_call_of", params := fd_callof.params, body := .stmts fd_callof.body, scope := fd_callof.scope, globals := 0, closure := [], defaults := .none, kwdefaults := .none } }
noncomputable def o420 : Obj := { cls := .type "code", data := .fields ⟨[.str "_law_call_of" 774, .str "_law_call_of" 775, .str "/claim/cut.py" 776, .int 257 0, .int 5 0, .int 0 0, .int 0 0, .int 3 0, .ref 415, .bool true, .int 181 0, .ref 416, .none, .ref 417, .ref 418, .ref 419, .int 782 0, .int 257 0, .str "/claim/cut.py" 783]⟩ }
noncomputable def o421 : Obj := { cls := .type "function", data := .func { name := "_law_call_of", qualname := "_law_call_of", params := fd_callof.params, body := .stmts fd_callof.body, scope := fd_callof.scope, globals := 3, closure := [], defaults := .none, kwdefaults := .none, pyModule := .str "law_sm0058_01" 749, code := .ref 420 } }
noncomputable def o422 : Obj := { cls := .type "tuple", data := .seq ⟨[]⟩ }
noncomputable def o423 : Obj := { cls := .none, data := .fields ⟨[]⟩ }
noncomputable def o424 : Obj := { cls := .type "tuple", data := .seq ⟨[.str "value" 788]⟩ }
noncomputable def o425 : Obj := { cls := .type "tuple", data := .seq ⟨[]⟩ }
noncomputable def o426 : Obj := { cls := .none, data := .func { name := "_law_said", qualname := "_law_said", params := fd_said.params, body := .stmts fd_said.body, scope := fd_said.scope, globals := 0, closure := [], defaults := .none, kwdefaults := .none } }
noncomputable def o427 : Obj := { cls := .type "code", data := .fields ⟨[.str "_law_said" 785, .str "_law_said" 786, .str "/claim/cut.py" 787, .int 265 0, .int 1 0, .int 0 0, .int 0 0, .int 3 0, .ref 422, .bool true, .int 181 0, .ref 423, .none, .ref 424, .ref 425, .ref 426, .int 789 0, .int 265 0, .str "/claim/cut.py" 790]⟩ }
noncomputable def o428 : Obj := { cls := .type "function", data := .func { name := "_law_said", qualname := "_law_said", params := fd_said.params, body := .stmts fd_said.body, scope := fd_said.scope, globals := 3, closure := [], defaults := .none, kwdefaults := .none, pyModule := .str "law_sm0058_01" 749, code := .ref 427 } }
noncomputable def o429 : Obj := { cls := .type "tuple", data := .seq ⟨[]⟩ }
noncomputable def o430 : Obj := { cls := .none, data := .fields ⟨[]⟩ }
noncomputable def o431 : Obj := { cls := .type "tuple", data := .seq ⟨[.str "world" 795, .str "at" 796, .str "work" 797]⟩ }
noncomputable def o432 : Obj := { cls := .type "tuple", data := .seq ⟨[.str "world" 798, .str "at" 799, .str "deeds" 800, .str "last" 801]⟩ }
noncomputable def o433 : Obj := { cls := .none, data := .func { name := "_law_function", qualname := "_law_function", params := fd_function.params, body := .stmts fd_function.body, scope := fd_function.scope, globals := 0, closure := [], defaults := .none, kwdefaults := .none } }
noncomputable def o434 : Obj := { cls := .type "code", data := .fields ⟨[.str "_law_function" 792, .str "_law_function" 793, .str "/claim/cut.py" 794, .int 269 0, .int 2 0, .int 0 0, .int 0 0, .int 3 0, .ref 429, .bool true, .int 181 0, .ref 430, .none, .ref 431, .ref 432, .ref 433, .int 802 0, .int 269 0, .str "/claim/cut.py" 803]⟩ }
noncomputable def o435 : Obj := { cls := .type "function", data := .func { name := "_law_function", qualname := "_law_function", params := fd_function.params, body := .stmts fd_function.body, scope := fd_function.scope, globals := 3, closure := [], defaults := .none, kwdefaults := .none, pyModule := .str "law_sm0058_01" 749, code := .ref 434 } }
noncomputable def o436 : Obj := { cls := .type "tuple", data := .seq ⟨[]⟩ }
noncomputable def o437 : Obj := { cls := .none, data := .fields ⟨[]⟩ }
noncomputable def o438 : Obj := { cls := .type "tuple", data := .seq ⟨[.str "state" 808, .str "thing" 809, .str "args" 810, .str "standing" 811, .str "deep" 812, .str "is_well" 813, .str "found" 814, .str "deeds" 815, .str "last" 816, .str "way" 817, .str "lesser" 818, .str "other" 819, .str "row" 820]⟩ }
noncomputable def o439 : Obj := { cls := .type "tuple", data := .seq ⟨[]⟩ }
noncomputable def o440 : Obj := { cls := .none, data := .func { name := "_law_meant", qualname := "_law_meant", params := fd_meant.params, body := .stmts fd_meant.body, scope := fd_meant.scope, globals := 0, closure := [], defaults := .none, kwdefaults := .none } }
noncomputable def o441 : Obj := { cls := .type "code", data := .fields ⟨[.str "_law_meant" 805, .str "_law_meant" 806, .str "/claim/cut.py" 807, .int 283 0, .int 4 0, .int 0 0, .int 0 0, .int 3 0, .ref 436, .bool true, .int 181 0, .ref 437, .none, .ref 438, .ref 439, .ref 440, .int 821 0, .int 283 0, .str "/claim/cut.py" 822]⟩ }
noncomputable def o442 : Obj := { cls := .type "function", data := .func { name := "_law_meant", qualname := "_law_meant", params := fd_meant.params, body := .stmts fd_meant.body, scope := fd_meant.scope, globals := 3, closure := [], defaults := .none, kwdefaults := .none, pyModule := .str "law_sm0058_01" 749, code := .ref 441 } }
noncomputable def o443 : Obj := { cls := .type "tuple", data := .seq ⟨[]⟩ }
noncomputable def o444 : Obj := { cls := .none, data := .fields ⟨[]⟩ }
noncomputable def o445 : Obj := { cls := .none, data := .func { name := "law", qualname := "law", params := fd_law.params, body := .stmts fd_law.body, scope := fd_law.scope, globals := 0, closure := [], defaults := .none, kwdefaults := .none } }
noncomputable def o446 : Obj := { cls := .type "code", data := .fields ⟨[.str "law" 824, .str "law" 825, .str "/claim/cut.py" 826, .int 307 0, .int 1 0, .int 0 0, .int 0 0, .int 3 0, .ref 443, .bool true, .int 181 0, .ref 444, .none, .none, .none, .ref 445, .int 827 0, .int 307 0, .str "/claim/cut.py" 828]⟩ }
noncomputable def o447 : Obj := { cls := .type "function", data := .func { name := "law", qualname := "law", params := fd_law.params, body := .stmts fd_law.body, scope := fd_law.scope, globals := 3, closure := [], defaults := .none, kwdefaults := .none, pyModule := .str "law_sm0058_01" 749, code := .ref 446 } }
noncomputable def h46 (P : Params) : Heap := { objs := ⟨[boot_o_0 P, boot_o_1 P, boot_o_2 P, boot_o_3 P, boot_o_4 P, boot_o_5 P, boot_o_6 P, boot_o_7 P, boot_o_8 P, boot_o_9 P, boot_o_10 P, z43, z44, o13, o14]⟩ }
noncomputable def t47 (P : Params) : BT := .node (boot_o_0 P) (.node (boot_o_1 P) (.node (boot_o_3 P) (.node (boot_o_7 P) .nil .nil) (.node z43 .nil .nil)) (.node (boot_o_5 P) (.node (boot_o_9 P) .nil .nil) (.node o13 .nil .nil))) (.node (boot_o_2 P) (.node (boot_o_4 P) (.node (boot_o_8 P) .nil .nil) (.node z44 .nil .nil)) (.node (boot_o_6 P) (.node (boot_o_10 P) .nil .nil) (.node o14 .nil .nil)))
noncomputable def tFin (P : Params) : BT := .node (boot_o_0 P) (.node (boot_o_1 P) (.node (o3 P) (.node (boot_o_7 P) (.node o15 (.node o31 (.node o63 (.node o127 (.node o255 .nil .nil) (.node o383 .nil .nil)) (.node o191 (.node o319 .nil .nil) (.node o447 .nil .nil))) (.node o95 (.node o159 (.node o287 .nil .nil) (.node o415 .nil .nil)) (.node o223 (.node o351 .nil .nil) .nil))) (.node o47 (.node o79 (.node o143 (.node o271 .nil .nil) (.node o399 .nil .nil)) (.node o207 (.node o335 .nil .nil) .nil)) (.node o111 (.node o175 (.node o303 .nil .nil) (.node o431 .nil .nil)) (.node o239 (.node o367 .nil .nil) .nil)))) (.node o23 (.node o39 (.node o71 (.node o135 (.node o263 .nil .nil) (.node o391 .nil .nil)) (.node o199 (.node o327 .nil .nil) .nil)) (.node o103 (.node o167 (.node o295 .nil .nil) (.node o423 .nil .nil)) (.node o231 (.node o359 .nil .nil) .nil))) (.node o55 (.node o87 (.node o151 (.node o279 .nil .nil) (.node o407 .nil .nil)) (.node o215 (.node o343 .nil .nil) .nil)) (.node o119 (.node o183 (.node o311 .nil .nil) (.node o439 .nil .nil)) (.node o247 (.node o375 .nil .nil) .nil))))) (.node o11 (.node o19 (.node o35 (.node o67 (.node o131 (.node o259 .nil .nil) (.node o387 .nil .nil)) (.node o195 (.node o323 .nil .nil) .nil)) (.node o99 (.node o163 (.node o291 .nil .nil) (.node o419 .nil .nil)) (.node (o227 P) (.node o355 .nil .nil) .nil))) (.node o51 (.node o83 (.node o147 (.node o275 .nil .nil) (.node o403 .nil .nil)) (.node o211 (.node o339 .nil .nil) .nil)) (.node o115 (.node o179 (.node o307 .nil .nil) (.node o435 .nil .nil)) (.node o243 (.node o371 .nil .nil) .nil)))) (.node o27 (.node o43 (.node o75 (.node o139 (.node o267 .nil .nil) (.node o395 .nil .nil)) (.node o203 (.node o331 .nil .nil) .nil)) (.node o107 (.node o171 (.node o299 .nil .nil) (.node o427 .nil .nil)) (.node o235 (.node o363 .nil .nil) .nil))) (.node o59 (.node o91 (.node o155 (.node o283 .nil .nil) (.node o411 .nil .nil)) (.node (o219 P) (.node o347 .nil .nil) .nil)) (.node o123 (.node o187 (.node o315 .nil .nil) (.node o443 .nil .nil)) (.node o251 (.node o379 .nil .nil) .nil)))))) (.node (boot_o_5 P) (.node (boot_o_9 P) (.node o17 (.node o33 (.node o65 (.node o129 (.node o257 .nil .nil) (.node o385 .nil .nil)) (.node o193 (.node o321 .nil .nil) .nil)) (.node o97 (.node o161 (.node o289 .nil .nil) (.node o417 .nil .nil)) (.node o225 (.node o353 .nil .nil) .nil))) (.node o49 (.node o81 (.node o145 (.node o273 .nil .nil) (.node o401 .nil .nil)) (.node o209 (.node o337 .nil .nil) .nil)) (.node o113 (.node (o177 P) (.node o305 .nil .nil) (.node o433 .nil .nil)) (.node o241 (.node o369 .nil .nil) .nil)))) (.node o25 (.node o41 (.node (o73 P) (.node o137 (.node o265 .nil .nil) (.node o393 .nil .nil)) (.node o201 (.node o329 .nil .nil) .nil)) (.node o105 (.node o169 (.node o297 .nil .nil) (.node o425 .nil .nil)) (.node o233 (.node o361 .nil .nil) .nil))) (.node o57 (.node o89 (.node o153 (.node o281 .nil .nil) (.node o409 .nil .nil)) (.node o217 (.node o345 .nil .nil) .nil)) (.node o121 (.node o185 (.node o313 .nil .nil) (.node o441 .nil .nil)) (.node o249 (.node o377 .nil .nil) .nil))))) (.node o13 (.node o21 (.node o37 (.node o69 (.node o133 (.node o261 .nil .nil) (.node o389 .nil .nil)) (.node o197 (.node o325 .nil .nil) .nil)) (.node o101 (.node o165 (.node o293 .nil .nil) (.node o421 .nil .nil)) (.node o229 (.node o357 .nil .nil) .nil))) (.node o53 (.node o85 (.node o149 (.node o277 .nil .nil) (.node o405 .nil .nil)) (.node o213 (.node o341 .nil .nil) .nil)) (.node o117 (.node o181 (.node o309 .nil .nil) (.node o437 .nil .nil)) (.node o245 (.node (o373 P) .nil .nil) .nil)))) (.node o29 (.node o45 (.node o77 (.node o141 (.node o269 .nil .nil) (.node o397 .nil .nil)) (.node o205 (.node o333 .nil .nil) .nil)) (.node o109 (.node o173 (.node o301 .nil .nil) (.node o429 .nil .nil)) (.node o237 (.node o365 .nil .nil) .nil))) (.node o61 (.node o93 (.node o157 (.node o285 .nil .nil) (.node o413 .nil .nil)) (.node o221 (.node o349 .nil .nil) .nil)) (.node o125 (.node o189 (.node o317 .nil .nil) (.node o445 .nil .nil)) (.node o253 (.node o381 .nil .nil) .nil))))))) (.node (o2 P) (.node (boot_o_4 P) (.node (boot_o_8 P) (.node o16 (.node o32 (.node o64 (.node o128 (.node o256 .nil .nil) (.node o384 .nil .nil)) (.node o192 (.node o320 .nil .nil) .nil)) (.node o96 (.node o160 (.node o288 .nil .nil) (.node o416 .nil .nil)) (.node o224 (.node o352 .nil .nil) .nil))) (.node o48 (.node o80 (.node o144 (.node o272 .nil .nil) (.node o400 .nil .nil)) (.node o208 (.node o336 .nil .nil) .nil)) (.node o112 (.node o176 (.node o304 .nil .nil) (.node o432 .nil .nil)) (.node o240 (.node o368 .nil .nil) .nil)))) (.node (o24 P) (.node o40 (.node o72 (.node o136 (.node o264 .nil .nil) (.node o392 .nil .nil)) (.node o200 (.node o328 .nil .nil) .nil)) (.node o104 (.node o168 (.node o296 .nil .nil) (.node o424 .nil .nil)) (.node o232 (.node o360 .nil .nil) .nil))) (.node o56 (.node o88 (.node o152 (.node o280 .nil .nil) (.node o408 .nil .nil)) (.node o216 (.node o344 .nil .nil) .nil)) (.node o120 (.node o184 (.node o312 .nil .nil) (.node o440 .nil .nil)) (.node o248 (.node o376 .nil .nil) .nil))))) (.node o12 (.node o20 (.node o36 (.node o68 (.node o132 (.node o260 .nil .nil) (.node o388 .nil .nil)) (.node o196 (.node o324 .nil .nil) .nil)) (.node o100 (.node (o164 P) (.node o292 .nil .nil) (.node o420 .nil .nil)) (.node o228 (.node o356 .nil .nil) .nil))) (.node (o52 P) (.node o84 (.node o148 (.node o276 .nil .nil) (.node o404 .nil .nil)) (.node o212 (.node o340 .nil .nil) .nil)) (.node o116 (.node o180 (.node o308 .nil .nil) (.node o436 .nil .nil)) (.node o244 (.node o372 .nil .nil) .nil)))) (.node o28 (.node o44 (.node o76 (.node o140 (.node o268 .nil .nil) (.node o396 .nil .nil)) (.node o204 (.node o332 .nil .nil) .nil)) (.node (o108 P) (.node o172 (.node o300 .nil .nil) (.node o428 .nil .nil)) (.node o236 (.node o364 .nil .nil) .nil))) (.node (o60 P) (.node o92 (.node (o156 P) (.node o284 .nil .nil) (.node o412 .nil .nil)) (.node o220 (.node o348 .nil .nil) .nil)) (.node o124 (.node o188 (.node o316 .nil .nil) (.node o444 .nil .nil)) (.node o252 (.node o380 .nil .nil) .nil)))))) (.node (boot_o_6 P) (.node (boot_o_10 P) (.node o18 (.node o34 (.node o66 (.node o130 (.node o258 .nil .nil) (.node o386 .nil .nil)) (.node o194 (.node o322 .nil .nil) .nil)) (.node o98 (.node o162 (.node o290 .nil .nil) (.node o418 .nil .nil)) (.node o226 (.node o354 .nil .nil) .nil))) (.node o50 (.node o82 (.node o146 (.node o274 .nil .nil) (.node o402 .nil .nil)) (.node o210 (.node o338 .nil .nil) .nil)) (.node o114 (.node o178 (.node o306 .nil .nil) (.node o434 .nil .nil)) (.node o242 (.node o370 .nil .nil) .nil)))) (.node o26 (.node o42 (.node o74 (.node o138 (.node o266 .nil .nil) (.node o394 .nil .nil)) (.node o202 (.node o330 .nil .nil) .nil)) (.node o106 (.node o170 (.node o298 .nil .nil) (.node o426 .nil .nil)) (.node o234 (.node o362 .nil .nil) .nil))) (.node o58 (.node o90 (.node o154 (.node o282 .nil .nil) (.node o410 .nil .nil)) (.node o218 (.node o346 .nil .nil) .nil)) (.node o122 (.node o186 (.node o314 .nil .nil) (.node o442 .nil .nil)) (.node o250 (.node o378 .nil .nil) .nil))))) (.node o14 (.node o22 (.node o38 (.node o70 (.node o134 (.node o262 .nil .nil) (.node o390 .nil .nil)) (.node o198 (.node o326 .nil .nil) .nil)) (.node o102 (.node o166 (.node o294 .nil .nil) (.node o422 .nil .nil)) (.node o230 (.node o358 .nil .nil) .nil))) (.node o54 (.node o86 (.node o150 (.node o278 .nil .nil) (.node o406 .nil .nil)) (.node o214 (.node o342 .nil .nil) .nil)) (.node o118 (.node o182 (.node o310 .nil .nil) (.node o438 .nil .nil)) (.node o246 (.node o374 .nil .nil) .nil)))) (.node o30 (.node o46 (.node o78 (.node o142 (.node o270 .nil .nil) (.node o398 .nil .nil)) (.node (o206 P) (.node o334 .nil .nil) .nil)) (.node o110 (.node o174 (.node o302 .nil .nil) (.node o430 .nil .nil)) (.node o238 (.node o366 .nil .nil) .nil))) (.node o62 (.node o94 (.node o158 (.node o286 .nil .nil) (.node o414 .nil .nil)) (.node o222 (.node o350 .nil .nil) .nil)) (.node o126 (.node o190 (.node o318 .nil .nil) (.node o446 .nil .nil)) (.node o254 (.node o382 .nil .nil) .nil)))))))
noncomputable def hFin (P : Params) : Heap := { objs := ⟨[boot_o_0 P, boot_o_1 P, o2 P, o3 P, boot_o_4 P, boot_o_5 P, boot_o_6 P, boot_o_7 P, boot_o_8 P, boot_o_9 P, boot_o_10 P, o11, o12, o13, o14, o15, o16, o17, o18, o19, o20, o21, o22, o23, o24 P, o25, o26, o27, o28, o29, o30, o31, o32, o33, o34, o35, o36, o37, o38, o39, o40, o41, o42, o43, o44, o45, o46, o47, o48, o49, o50, o51, o52 P, o53, o54, o55, o56, o57, o58, o59, o60 P, o61, o62, o63, o64, o65, o66, o67, o68, o69, o70, o71, o72, o73 P, o74, o75, o76, o77, o78, o79, o80, o81, o82, o83, o84, o85, o86, o87, o88, o89, o90, o91, o92, o93, o94, o95, o96, o97, o98, o99, o100, o101, o102, o103, o104, o105, o106, o107, o108 P, o109, o110, o111, o112, o113, o114, o115, o116, o117, o118, o119, o120, o121, o122, o123, o124, o125, o126, o127, o128, o129, o130, o131, o132, o133, o134, o135, o136, o137, o138, o139, o140, o141, o142, o143, o144, o145, o146, o147, o148, o149, o150, o151, o152, o153, o154, o155, o156 P, o157, o158, o159, o160, o161, o162, o163, o164 P, o165, o166, o167, o168, o169, o170, o171, o172, o173, o174, o175, o176, o177 P, o178, o179, o180, o181, o182, o183, o184, o185, o186, o187, o188, o189, o190, o191, o192, o193, o194, o195, o196, o197, o198, o199, o200, o201, o202, o203, o204, o205, o206 P, o207, o208, o209, o210, o211, o212, o213, o214, o215, o216, o217, o218, o219 P, o220, o221, o222, o223, o224, o225, o226, o227 P, o228, o229, o230, o231, o232, o233, o234, o235, o236, o237, o238, o239, o240, o241, o242, o243, o244, o245, o246, o247, o248, o249, o250, o251, o252, o253, o254, o255, o256, o257, o258, o259, o260, o261, o262, o263, o264, o265, o266, o267, o268, o269, o270, o271, o272, o273, o274, o275, o276, o277, o278, o279, o280, o281, o282, o283, o284, o285, o286, o287, o288, o289, o290, o291, o292, o293, o294, o295, o296, o297, o298, o299, o300, o301, o302, o303, o304, o305, o306, o307, o308, o309, o310, o311, o312, o313, o314, o315, o316, o317, o318, o319, o320, o321, o322, o323, o324, o325, o326, o327, o328, o329, o330, o331, o332, o333, o334, o335, o336, o337, o338, o339, o340, o341, o342, o343, o344, o345, o346, o347, o348, o349, o350, o351, o352, o353, o354, o355, o356, o357, o358, o359, o360, o361, o362, o363, o364, o365, o366, o367, o368, o369, o370, o371, o372, o373 P, o374, o375, o376, o377, o378, o379, o380, o381, o382, o383, o384, o385, o386, o387, o388, o389, o390, o391, o392, o393, o394, o395, o396, o397, o398, o399, o400, o401, o402, o403, o404, o405, o406, o407, o408, o409, o410, o411, o412, o413, o414, o415, o416, o417, o418, o419, o420, o421, o422, o423, o424, o425, o426, o427, o428, o429, o430, o431, o432, o433, o434, o435, o436, o437, o438, o439, o440, o441, o442, o443, o444, o445, o446, o447]⟩ }
noncomputable def env0 : Env := { scope := PG.main.scope, locals := mainNs, globals := mainNs, cells := [], code := .ref 13, frame := some 14 }
noncomputable abbrev p0 : Pos := ⟨0, 0, 0, 0⟩
noncomputable abbrev p1 : Pos := ⟨307, 0, 331, 15⟩
theorem run1 : ∀ w : World, (fun os => topGo treeTable PG w 11 (some (.ref 6)) 12 { heap := boot_heap w.params, drawn := boot_drawn, toks := boot_toks, os := os } (topStub PG)) = fun os => some ({ heap := h46 w.params, toks := 187, os := os }, { cur := denote treeTable (.body (behindTheImports PG) env0), code := .body (behindTheImports PG) env0, pos := p0, stack := [topFrame p0] }) := by
  intro w
  kernel_rfl
theorem run2 : ∀ w : World, (fun os => segRun treeTable PG w 11 (some (.ref 6)) 1 1 { heap := h46 w.params, toks := 187, os := os } (blockOf (behindTheImports PG) env0 (.body (behindTheImports PG) env0) p0 [topFrame p0])) = fun os => some (.next, SharedT.abs { tree := t47 w.params, n := 15, life := {}, gens := ⟨[]⟩, drawn := {}, toks := 187, os := os }, .body (behindTheImports PG) env0, p0) := by
  intro w
  kernel_rfl
theorem run3 : ∀ w : World, (fun os => segRunT treeTable PG w 11 (some (.ref 6)) 1 2884 { tree := t47 w.params, n := 15, life := {}, gens := ⟨[]⟩, drawn := {}, toks := 187, os := os } (piecesOf (behindTheImports PG) env0 (.body (behindTheImports PG) env0) p0 [topFrame p0])) = fun os => some (.next, { tree := tFin w.params, n := 448, life := {}, gens := ⟨[]⟩, drawn := {}, toks := 830, os := os }, .body (behindTheImports PG) env0, p1) := by
  intro w
  rw [Fast.te10110043849684766642, Fast.te14364793385576792824]
  kernel_rfl
theorem run4 : ∀ w : World, (fun os => topRun treeTable PG w 11 (some (.ref 6)) 2 (SharedT.abs { tree := tFin w.params, n := 448, life := {}, gens := ⟨[]⟩, drawn := {}, toks := 830, os := os }) { cur := doneF .next, code := .body (behindTheImports PG) env0, pos := p1, stack := [topFrame p0] }) = fun os => some { heap := hFin w.params, toks := 830, os := os } := by
  intro w
  kernel_rfl
theorem run5 (w : World) (os : OsState) : topRun treeTable PG w 11 (some (.ref 6)) (12 + (1 + (2884 + 2))) { heap := boot_heap w.params, drawn := boot_drawn, toks := boot_toks, os := os } (topStub PG) = some { heap := hFin w.params, toks := 830, os := os } := by
  refine go_top (congrFun (run1 w) os) (piece_block (congrFun (run2 w) os) ?_)
  have := piece_app (rest := []) (segRun_of (congrFun (run3 w) os)) (congrFun (run4 w) os)
  rw [List.append_nil] at this
  exact this
end Mine
end
section
open PySem PySem.W PyProof.Rows PySem.Calls PySem.Spec
set_option maxRecDepth 100000
namespace Mine
noncomputable def KG (P : Params) : Frag := [(3, o3 P), (19, o19), (20, o20), (21, o21), (24, o24 P), (27, o27), (29, o29), (34, o34), (35, o35), (36, o36), (41, o41), (42, o42), (43, o43), (48, o48), (49, o49), (50, o50), (52, o52 P), (53, o53), (60, o60 P), (63, o63), (69, o69), (70, o70), (71, o71), (73, o73 P), (74, o74), (82, o82), (83, o83), (84, o84), (89, o89), (90, o90), (91, o91), (96, o96), (97, o97), (98, o98), (103, o103), (104, o104), (105, o105), (108, o108 P), (111, o111), (117, o117), (118, o118), (119, o119), (124, o124), (125, o125), (126, o126), (131, o131), (132, o132), (133, o133), (138, o138), (139, o139), (140, o140), (145, o145), (146, o146), (147, o147), (152, o152), (153, o153), (154, o154), (156, o156 P), (157, o157), (164, o164 P), (167, o167), (173, o173), (174, o174), (175, o175), (177, o177 P), (178, o178), (187, o187), (188, o188), (189, o189), (194, o194), (195, o195), (196, o196), (201, o201), (202, o202), (203, o203), (206, o206 P), (209, o209), (215, o215), (216, o216), (217, o217), (219, o219 P), (220, o220), (227, o227 P), (230, o230), (236, o236), (237, o237), (238, o238), (243, o243), (244, o244), (245, o245), (250, o250), (251, o251), (252, o252), (257, o257), (258, o258), (259, o259), (264, o264), (265, o265), (266, o266), (271, o271), (272, o272), (273, o273), (278, o278), (279, o279), (280, o280), (285, o285), (286, o286), (287, o287), (292, o292), (293, o293), (294, o294), (299, o299), (300, o300), (301, o301), (306, o306), (307, o307), (308, o308), (313, o313), (314, o314), (315, o315), (320, o320), (321, o321), (322, o322), (327, o327), (328, o328), (329, o329), (334, o334), (335, o335), (336, o336), (341, o341), (342, o342), (343, o343), (348, o348), (349, o349), (350, o350), (355, o355), (356, o356), (357, o357), (362, o362), (363, o363), (364, o364), (369, o369), (370, o370), (371, o371), (373, o373 P), (374, o374), (383, o383), (384, o384), (385, o385), (390, o390), (391, o391), (392, o392), (397, o397), (398, o398), (399, o399), (405, o405), (406, o406), (407, o407), (412, o412), (413, o413), (414, o414), (419, o419), (420, o420), (421, o421), (426, o426), (427, o427), (428, o428), (433, o433), (434, o434), (435, o435), (440, o440), (441, o441), (442, o442), (445, o445), (446, o446), (447, o447), (400, o400)]
noncomputable def fnChk (K : Frag) (f : Addr) (fd : FD) (xs : List Str) (cd : Value) : Bool := (xs.all fun x => fd.scope.names.lookup x == some .local) && (fd.scope.names.all fun x => x.2 != .cell) && (!fd.scope.isCoroutine) && (!fd.scope.isGenerator) && (fd.scope.kind == .function) && decide xs.Nodup && keepIn K (.ref f) && codeIn K cd fd.qual
theorem fnK_mk {G : Gd} {f : Addr} {fd : FD} {xs : List Str} {pm cdv : Value} (hl : G.K.lookup f = some ⟨.type "function", none, .func (fdX fd [] .none .none .none pm none cdv .none), ⟨[]⟩⟩) (hb : ∀ vals, vals.length = xs.length → bindArgs (fdX fd [] .none .none .none pm none cdv .none) ⟨vals, []⟩ = pure (xs.zip vals)) (hc : fnChk G.K f fd xs cdv = true) : FnK G f fd xs := by
  unfold fnChk at hc
  simp only [Bool.and_eq_true, List.all_eq_true, beq_iff_eq, bne_iff_ne, Bool.not_eq_true', decide_eq_true_eq] at hc
  obtain ⟨⟨⟨⟨⟨⟨⟨h1, h2⟩, h3⟩, h4⟩, h5⟩, h6⟩, h7⟩, h8⟩ := hc
  exact ⟨⟨_, _, _, _, _, _, _, _, _, _, hl, h8, fun s vals h => .of_eq (hb vals h)⟩, h7, h6, h1, h2, h3, h4, h5⟩
theorem v1 {p : List Value → Prop} (h : ∀ a, p [a]) : ∀ vals : List Value, vals.length = 1 → p vals
  | [a], _ => h a
theorem v2 {p : List Value → Prop} (h : ∀ a b, p [a, b]) : ∀ vals : List Value, vals.length = 2 → p vals
  | [a, b], _ => h a b
theorem v3 {p : List Value → Prop} (h : ∀ a b c, p [a, b, c]) : ∀ vals : List Value, vals.length = 3 → p vals
  | [a, b, c], _ => h a b c
theorem v4 {p : List Value → Prop} (h : ∀ a b c d, p [a, b, c, d]) : ∀ vals : List Value, vals.length = 4 → p vals
  | [a, b, c, d], _ => h a b c d
theorem v5 {p : List Value → Prop} (h : ∀ a b c d e, p [a, b, c, d, e]) : ∀ vals : List Value, vals.length = 5 → p vals
  | [a, b, c, d, e], _ => h a b c d e
section
variable {w : World} {H : Heap}
noncomputable abbrev GG (w : World) (H : Heap) : Gd := ⟨w, H, KG w.params, 74⟩
theorem k_number_text : FnK (GG w H) 84 fd_number_text ["n"] := fnK_mk (pm := .str "lua.values" 194) (cdv := .ref 83) (by kernel_rfl) (v1 fun a => by kernel_rfl) (by kernel_rfl)
theorem k_c_text : FnK (GG w H) 91 fd_c_text ["text"] := fnK_mk (pm := .str "lua.values" 194) (cdv := .ref 90) (by kernel_rfl) (v1 fun a => by kernel_rfl) (by kernel_rfl)
theorem k_chunk_id : FnK (GG w H) 105 fd_chunk_id ["source", "size"] := fnK_mk (pm := .str "lua.values" 194) (cdv := .ref 104) (by kernel_rfl) (v2 fun a b => by kernel_rfl) (by kernel_rfl)
theorem k_find : FnK (GG w H) 126 fd_find ["self", "key"] := fnK_mk (pm := .str "lua.treehost" 334) (cdv := .ref 125) (by kernel_rfl) (v2 fun a b => by kernel_rfl) (by kernel_rfl)
theorem k_get : FnK (GG w H) 133 fd_get ["self", "key"] := fnK_mk (pm := .str "lua.treehost" 334) (cdv := .ref 132) (by kernel_rfl) (v2 fun a b => by kernel_rfl) (by kernel_rfl)
theorem k_set : FnK (GG w H) 140 fd_set ["self", "key", "value"] := fnK_mk (pm := .str "lua.treehost" 334) (cdv := .ref 139) (by kernel_rfl) (v3 fun a b c => by kernel_rfl) (by kernel_rfl)
theorem k_tree_type : FnK (GG w H) 189 fd_tree_type ["value"] := fnK_mk (pm := .str "lua.treehost" 334) (cdv := .ref 188) (by kernel_rfl) (v1 fun a => by kernel_rfl) (by kernel_rfl)
theorem k_same : FnK (GG w H) 196 fd_same ["one", "other"] := fnK_mk (pm := .str "lua.treehost" 334) (cdv := .ref 195) (by kernel_rfl) (v2 fun a b => by kernel_rfl) (by kernel_rfl)
theorem k_is_function : FnK (GG w H) 203 fd_is_function ["value"] := fnK_mk (pm := .str "lua.treehost" 334) (cdv := .ref 202) (by kernel_rfl) (v1 fun a => by kernel_rfl) (by kernel_rfl)
theorem k_tick : FnK (GG w H) 252 fd_tick ["self"] := fnK_mk (pm := .str "lua.treehost" 334) (cdv := .ref 251) (by kernel_rfl) (v1 fun a => by kernel_rfl) (by kernel_rfl)
theorem k_go_deeper : FnK (GG w H) 259 fd_go_deeper ["self", "many"] := fnK_mk (pm := .str "lua.treehost" 334) (cdv := .ref 258) (by kernel_rfl) (v2 fun a b => by kernel_rfl) (by kernel_rfl)
theorem k_where_ : FnK (GG w H) 266 fd_where ["self", "level"] := fnK_mk (pm := .str "lua.treehost" 334) (cdv := .ref 265) (by kernel_rfl) (v2 fun a b => by kernel_rfl) (by kernel_rfl)
theorem k_fail : FnK (GG w H) 273 fd_fail ["self", "text"] := fnK_mk (pm := .str "lua.treehost" 334) (cdv := .ref 272) (by kernel_rfl) (v2 fun a b => by kernel_rfl) (by kernel_rfl)
theorem k_complain : FnK (GG w H) 280 fd_complain ["self", "text"] := fnK_mk (pm := .str "lua.treehost" 334) (cdv := .ref 279) (by kernel_rfl) (v2 fun a b => by kernel_rfl) (by kernel_rfl)
theorem k_fail_type : FnK (GG w H) 287 fd_fail_type ["self", "value", "deed", "name"] := fnK_mk (pm := .str "lua.treehost" 334) (cdv := .ref 286) (by kernel_rfl) (v4 fun a b c d => by kernel_rfl) (by kernel_rfl)
theorem k_cut_frames : FnK (GG w H) 294 fd_cut_frames ["self", "many"] := fnK_mk (pm := .str "lua.treehost" 334) (cdv := .ref 293) (by kernel_rfl) (v2 fun a b => by kernel_rfl) (by kernel_rfl)
theorem k_handler : FnK (GG w H) 301 fd_handler ["self", "value", "event"] := fnK_mk (pm := .str "lua.treehost" 334) (cdv := .ref 300) (by kernel_rfl) (v3 fun a b c => by kernel_rfl) (by kernel_rfl)
theorem k_call : FnK (GG w H) 322 fd_call ["self", "function", "args", "name"] := fnK_mk (pm := .str "lua.treehost" 334) (cdv := .ref 321) (by kernel_rfl) (v4 fun a b c d => by kernel_rfl) (by kernel_rfl)
theorem k_call_other : FnK (GG w H) 329 fd_call_other ["self", "function", "args", "name"] := fnK_mk (pm := .str "lua.treehost" 334) (cdv := .ref 328) (by kernel_rfl) (v4 fun a b c d => by kernel_rfl) (by kernel_rfl)
theorem k_call_host : FnK (GG w H) 336 fd_call_host ["self", "function", "args"] := fnK_mk (pm := .str "lua.treehost" 334) (cdv := .ref 335) (by kernel_rfl) (v3 fun a b c => by kernel_rfl) (by kernel_rfl)
theorem k_refuse : FnK (GG w H) 385 fd_refuse ["runner", "name", "at", "text"] := fnK_mk (pm := .str "lua.treelib" 716) (cdv := .ref 384) (by kernel_rfl) (v4 fun a b c d => by kernel_rfl) (by kernel_rfl)
theorem k_need : FnK (GG w H) 392 fd_need ["runner", "name", "args", "at"] := fnK_mk (pm := .str "lua.treelib" 716) (cdv := .ref 391) (by kernel_rfl) (v4 fun a b c d => by kernel_rfl) (by kernel_rfl)
theorem k_pcall : FnK (GG w H) 399 fd_pcall ["runner", "args"] := fnK_mk (pm := .str "lua.treelib" 716) (cdv := .ref 398) (by kernel_rfl) (v2 fun a b => by kernel_rfl) (by kernel_rfl)
theorem k_draw : FnK (GG w H) 407 fd_draw ["spool", "below"] := fnK_mk (pm := .str "law_sm0058_01" 749) (cdv := .ref 406) (by kernel_rfl) (v2 fun a b => by kernel_rfl) (by kernel_rfl)
theorem k_deeds : FnK (GG w H) 414 fd_deeds ["spool", "at"] := fnK_mk (pm := .str "law_sm0058_01" 749) (cdv := .ref 413) (by kernel_rfl) (v2 fun a b => by kernel_rfl) (by kernel_rfl)
theorem k_callof : FnK (GG w H) 421 fd_callof ["way", "one", "row", "catcher", "none"] := fnK_mk (pm := .str "law_sm0058_01" 749) (cdv := .ref 420) (by kernel_rfl) (v5 fun a b c d e => by kernel_rfl) (by kernel_rfl)
theorem k_said : FnK (GG w H) 428 fd_said ["value"] := fnK_mk (pm := .str "law_sm0058_01" 749) (cdv := .ref 427) (by kernel_rfl) (v1 fun a => by kernel_rfl) (by kernel_rfl)
theorem k_meant : FnK (GG w H) 442 fd_meant ["state", "thing", "args", "standing"] := fnK_mk (pm := .str "law_sm0058_01" 749) (cdv := .ref 441) (by kernel_rfl) (v4 fun a b c d => by kernel_rfl) (by kernel_rfl)
theorem k_cTab : FnK (GG w H) 119 fd_tt_init ["self", "number"] := fnK_mk (pm := .str "lua.treehost" 334) (cdv := .ref 118) (by kernel_rfl) (v2 fun a b => by kernel_rfl) (by kernel_rfl)
theorem k_cBui : FnK (GG w H) 175 fd_bi_init ["self", "number", "name", "work"] := fnK_mk (pm := .str "lua.treehost" 334) (cdv := .ref 174) (by kernel_rfl) (v4 fun a b c d => by kernel_rfl) (by kernel_rfl)
theorem k_cFra : FnK (GG w H) 217 fd_fr_init ["self", "number", "cells", "extra"] := fnK_mk (pm := .str "lua.treehost" 334) (cdv := .ref 216) (by kernel_rfl) (v4 fun a b c d => by kernel_rfl) (by kernel_rfl)
theorem k_cHos : FnK (GG w H) 238 fd_host_init ["self", "limits", "source"] := fnK_mk (pm := .str "lua.treehost" 334) (cdv := .ref 237) (by kernel_rfl) (v3 fun a b c => by kernel_rfl) (by kernel_rfl)
theorem k_err : FnK (GG w H) 71 fd_err ["self", "value"] := fnK_mk (pm := .str "lua.values" 194) (cdv := .ref 70) (by kernel_rfl) (v2 fun a b => by kernel_rfl) (by kernel_rfl)
theorem all_of {α : Type} {l : List α} {p : α → Bool} (h : l.all p = true) : ∀ x ∈ l, p x = true := List.all_eq_true.mp h
theorem clK_mk {G : Gd} {C f : Addr} {fd : FD} {xs : List Str} (F : FnK G f fd xs) (h : (keepIn G.K (.ref C) && makesIn G.K C && findIn G.K (.ref C) "__init__" == some (some (.ref f)) && typeIn G.K (.ref f) == some (.type "function")) = true) : ClK G C f fd xs := by
  simp only [Bool.and_eq_true, beq_iff_eq] at h
  exact ⟨F, h.1.1.1, h.1.1.2, h.1.2, h.2⟩
theorem q_cTab : ClK (GG w H) cTable 119 fd_tt_init ["self", "number"] := clK_mk k_cTab (by kernel_rfl)
theorem q_cBui : ClK (GG w H) cBuiltin 175 fd_bi_init ["self", "number", "name", "work"] := clK_mk k_cBui (by kernel_rfl)
theorem q_cFra : ClK (GG w H) cFrame 217 fd_fr_init ["self", "number", "cells", "extra"] := clK_mk k_cFra (by kernel_rfl)
theorem q_cHos : ClK (GG w H) cHost 238 fd_host_init ["self", "limits", "source"] := clK_mk k_cHos (by kernel_rfl)
end
end Mine
end
section
open PySem PySem.W PyProof.Rows PySem.Calls PySem.Spec
set_option maxRecDepth 100000
namespace Mine
section
variable {w : World} {H : Heap}
theorem exK_mk {G : Gd} {f : Addr} {fd : FD} {xs : List Str} (F : FnK G f fd xs) (h : (keepIn G.K (.ref G.EC) && excOk G.K G.EC && typeIn G.K (.ref f) == some (.type "function")) = true)
    (hc : ExC G f) : ExK G f fd xs := by
  simp only [Bool.and_eq_true, beq_iff_eq] at h
  exact ⟨F, h.1.1, h.1.2, h.2, hc⟩
noncomputable def limPre : List Value := [.int 64 208, .int 250 209, .int 60 210, .int 200 211, .int 40 212, .int 200 213, .int 2000 214, .int 50 215]
noncomputable def limXs : List Str := ["self", "width", "registers", "upvalues", "local_names", "ccalls", "frames", "stack", "flush", "steps", "text"]
theorem q_lim : ClKw (GG w H) cLimits 36 fd_limits limXs "steps" limPre [.int 1000000 217] := by
  have h : ((limXs.all fun x => fd_limits.scope.names.lookup x == some .local) && (fd_limits.scope.names.all fun x => x.2 != .cell) && (!fd_limits.scope.isCoroutine) && (!fd_limits.scope.isGenerator) && (fd_limits.scope.kind == .function) && decide limXs.Nodup && keepIn (GG w H).K (.ref cLimits) && makesIn (GG w H).K cLimits && findIn (GG w H).K (.ref cLimits) "__init__" == some (some (.ref 36)) && typeIn (GG w H).K (.ref 36) == some (.type "function")) = true := by kernel_rfl
  simp only [Bool.and_eq_true, List.all_eq_true, beq_iff_eq, bne_iff_ne, Bool.not_eq_true', decide_eq_true_eq] at h
  obtain ⟨⟨⟨⟨⟨⟨⟨⟨⟨h1, h2⟩, h3⟩, h4⟩, h5⟩, h6⟩, h7⟩, h8⟩, h9⟩, h10⟩ := h
  have hl : (GG w H).K.lookup 36 = some ⟨.type "function", none, .func (fdX fd_limits [] (.ref 29) .none .none (.str "lua.values" 194) none (.ref 35) .none), ⟨[]⟩⟩ := by kernel_rfl
  have hd : (GG w H).K.lookup 29 = some o29 := by kernel_rfl
  refine ⟨⟨_, _, _, _, _, _, _, _, _, _, hl, by kernel_rfl, fun s self v X => ?_⟩, rfl, h6, h1, h2, h3, h4, h5, h7, h8, h9, h10⟩
  exact .of_defaults (T := 29) (o := o29) rfl (X _ _ hd) rfl rfl rfl
theorem gr (hC : CodeHd H 434 430) : Gr (GG w H) := by
  refine { ec := rfl, gl := fun p hp => ?_, bl := fun p hp => ?_, deep := ⟨336, by kernel_rfl⟩, hcall := ⟨338, by kernel_rfl⟩, known := ⟨400, 0, 751, 752, by kernel_rfl, by kernel_rfl⟩, at_ := fun p hp => ?_, set_ := fun p hp => ?_, me := fun p hp => ?_, kit := fun p hp => ?_, own1 := by kernel_rfl, own2 := by kernel_rfl, exc := by kernel_rfl, excv := by kernel_rfl, take := fun x hx => ?_, cLim := ⟨limPre, [.int 1000000 217], q_lim, rfl, rfl⟩, cTab := q_cTab, cBui := q_cBui, cFra := q_cFra, cHos := q_cHos, cExc := ?_, function := ?_, code := hC, number_text := k_number_text, c_text := k_c_text, chunk_id := k_chunk_id, find := k_find, get := k_get, set := k_set, tree_type := k_tree_type, same := k_same, is_function := k_is_function, tick := k_tick, go_deeper := k_go_deeper, where_ := k_where_, fail := k_fail, complain := k_complain, fail_type := k_fail_type, cut_frames := k_cut_frames, handler := k_handler, call := k_call, call_other := k_call_other, call_host := k_call_host, refuse := k_refuse, need := k_need, pcall := k_pcall, draw := k_draw, deeds := k_deeds, callof := k_callof, said := k_said, meant := k_meant }
  · exact beq_iff_eq.mp (all_of (p := fun p : Str × Addr => nsIn (KG w.params) mainGlobals p.1 == some (some (.ref p.2))) (by kernel_rfl) p hp)
  · exact beq_iff_eq.mp (all_of (p := fun p : Str × Value => nsIn (KG w.params) mainGlobals p.1 == some none) (by kernel_rfl) p hp)
  · exact all_of (p := fun p : Addr × Str => attrOk (KG w.params) p.1 p.2) (by kernel_rfl) p hp
  · exact all_of (p := fun p : Addr × Str => setOk (KG w.params) p.1 p.2) (by kernel_rfl) p hp
  · exact all_of (p := fun p : Addr × Str × Addr => methOk (KG w.params) p.1 p.2.1 p.2.2) (by kernel_rfl) p hp
  · exact beq_iff_eq.mp (all_of (p := fun p : Value × Value × Bool => kitOne (KG w.params) p.1 p.2.1 == some p.2.2) (by kernel_rfl) p hp)
  · exact beq_iff_eq.mp (all_of (p := fun x : Str => takerIn (KG w.params) cErr x == some none) (by kernel_rfl) x hx)
  · exact exK_mk k_err (by kernel_rfl) ⟨_, _, 73, _, _, _, _, _, _, _, _, _, _, _, _, rfl, by kernel_rfl, by kernel_rfl⟩
  · have h : (fd_function.scope.names.map (·.1)).Nodup := by decide +kernel
    exact ⟨⟨_, _, .none, .none, .none, .str "law_sm0058_01" 749, none, .none, _, (show (KG w.params).lookup 435 = some ⟨.type "function", none, .func (fdX fd_function [] .none .none .none (.str "law_sm0058_01" 749) none (.ref 434) .none), ⟨[]⟩⟩ by kernel_rfl), by kernel_rfl, v2 fun a b => by kernel_rfl⟩, by kernel_rfl, by decide +kernel, h, by decide +kernel, by kernel_rfl, by kernel_rfl, by kernel_rfl⟩
end
end Mine
end
section
open PySem PySem.W PyProof.Rows PySem.Calls PySem.Spec
set_option maxRecDepth 100000
namespace Mine
noncomputable def viewQ : Program := { PG with main := { PG.main with body := [topS 30] } }
noncomputable def looseQ : List Str := ["_wall", "Limits", "LuaError", "number_text", "c_text", "first_line", "chunk_id", "MOST_DEEP", "HOST_CALL", "TreeTable", "Builtin", "tree_type", "same", "is_function", "Frame", "Host", "refuse_argument", "need_any", "base_pcall", "_law_known", "_law_draw", "_law_deeds", "_law_call_of", "_law_said", "_law_function", "_law_meant"]
noncomputable def KAs : List Addr := [3, 19, 20, 21, 24, 27, 29, 34, 35, 36, 41, 42, 43, 48, 49, 50, 52, 53, 60, 63, 69, 70, 71, 73, 74, 82, 83, 84, 89, 90, 91, 96, 97, 98, 103, 104, 105, 108, 111, 117, 118, 119, 124, 125, 126, 131, 132, 133, 138, 139, 140, 145, 146, 147, 152, 153, 154, 156, 157, 164, 167, 173, 174, 175, 177, 178, 187, 188, 189, 194, 195, 196, 201, 202, 203, 206, 209, 215, 216, 217, 219, 220, 227, 230, 236, 237, 238, 243, 244, 245, 250, 251, 252, 257, 258, 259, 264, 265, 266, 271, 272, 273, 278, 279, 280, 285, 286, 287, 292, 293, 294, 299, 300, 301, 306, 307, 308, 313, 314, 315, 320, 321, 322, 327, 328, 329, 334, 335, 336, 341, 342, 343, 348, 349, 350, 355, 356, 357, 362, 363, 364, 369, 370, 371, 373, 374, 383, 384, 385, 390, 391, 392, 397, 398, 399, 405, 406, 407, 412, 413, 414, 419, 420, 421, 426, 427, 428, 433, 434, 435, 440, 441, 442, 445, 446, 447, 400]
noncomputable def HK : Hook := kmHook KG KAs (fun _ => by kernel_rfl) [430]
noncomputable abbrev rw1 : OpenRow := OpenLaw.row PySem.Challenge.rw_sm0058_01
noncomputable def dLaw : DefRec := ⟨"law", fd_law.params, fd_law.body, fd_law.scope, ⟨307, 0, 331, 15⟩⟩
theorem vrs_ints {EC : Addr} {ρ : Rho} {h : Heap} {items : List Value} {ns : List Int} (hI : IntsAre items ns) : VRs EC ρ h (ns.map .int) items := by
  induction hI with
  | nil => exact .nil
  | cons _ _ _ ih => exact .cons .int ih
section
variable {w : World} {s₀ s₁ : Shared} {mg mb : Str → Option Value} {fa al : Addr} {o : Obj} {pm cd doc : Value} {items : List Value} {ns : List Int} {loose : List Str} {mean : ExcName → Option Value} {p : Program} {cl : Str → Option Addr} {mn : ExcName → Option Value}
theorem entry (hns : ns.length ≤ 63) (KX : (KG w.params).In s₁.heap) (hT : TabsAt [(434, 430)] s₁.heap) (T : Top p loose mean mg mb s₁.heap) (ho : s₁.heap.get? fa = some o) (hd : o.data = .func (docDef dLaw.name dLaw.params dLaw.body dLaw.scope pm cd doc)) (hcd : s₁.heap.CodeRec cd dLaw.name) (hg : s₁.gens = #[])
    (hL : s₁.heap.IsList al items.toArray) (hI : IntsAre items ns) (hW : Well w.params s₁.heap (.ref al) (ofPy (.list (ns.map .int)))) :
    codeAny (model PG w) callerA (.call (.ref fa) ⟨[.ref al], []⟩) (GoodWG rw1.claim cl mn [ofPy (.list (ns.map .int))] s₁) s₁ := by
  have hq : (434, 430) ∈ ([(434, 430)] : List (Addr × Addr)) := .head _
  obtain ⟨hC, T8⟩ := hT _ hq
  have gn : ∀ {b o}, s₁.heap.get? b = some o → b ≠ 430 → (ghostOf s₁.heap [(434, 430)]).get? b = some o := fun e h => ghost_ne e (by simpa using h)
  have T' := ghost_top hT T
  have hC' : CodeHd (ghostOf s₁.heap [(434, 430)]) 434 430 := by
    obtain ⟨o, vs, file, tf, flags, tg, inF, text, tt, e, r⟩ := hC
    exact ⟨o, vs, file, tf, flags, tg, inF, text, tt, gn e (by decide), r⟩
  have g := gr (w := w) hC'
  have n430 : (KG w.params).lookup 430 = none := by kernel_rfl
  have gd : GOk (GG w (ghostOf s₁.heap [(434, 430)])) := by
    refine ⟨fun b o e => gn (KX _ _ e) fun q => ?_, ⟨_, _, _, _, topRead_of T'⟩, ?_⟩
    · rw [q] at e
      exact absurd (n430.symm.trans e) (by simp)
    · obtain ⟨bm, ob, b1, b2, b3, b4, b5, b6⟩ := T'.bmain
      exact ⟨mg, bm, ob, T'.g, b1, b2, b3, b4, b5, b6⟩
  have hlist : s₁.heap.get? al = some (listOf items.toArray 0) := by
    obtain ⟨oL, l1, l2, nL, l3⟩ := hL
    generalize hq : ofPy (.list (ns.map .int)) = q at hW
    cases hW with
    | @list _ vs xs e1 _ =>
      rw [e1] at l1
      cases l1
      cases l3
      exact e1
    | _ => simp [ofPy] at hq
  have hvs : ∀ ρ h, VRs 74 ρ h (ns.map .int) items := fun ρ h => vrs_ints hI
  refine codeAny_call_cells (s := s₁) (fd := docDef dLaw.name dLaw.params dLaw.body dLaw.scope pm cd doc) (body := fd_law.body) (binds := [("script", .ref al)]) (by decide) ho hd T.nolimit hcd rfl (by kernel_rfl) rfl (fun x hx => .inl (by rw [List.mem_singleton.mp hx]; kernel_rfl)) (fun s2 I => ?_) (by kernel_rfl) (by kernel_rfl) (by kernel_rfl)
  obtain ⟨⟨⟨h₁, tk₁, rfl⟩, hns₁, k, _⟩, hcell, apart, above⟩ := I
  have hcs : (callEnvC (docDef dLaw.name dLaw.params dLaw.body dLaw.scope pm cd doc) s₁.heap.objs.size fa).cells = ([("spool", s₁.heap.objs.size + 1)] : List (Str × Addr)) := by kernel_rfl
  have hkind : fd_law.scope.names.lookup ("script" : Str) = some .local := by kernel_rfl
  have hnm : ∀ {x v}, ([("script", V.lst (ns.map .int))] : Loc).lookup x = some v → x = ("script" : Str) ∧ v = .lst (ns.map .int) := fun {x v} e => by
    have := mem_of_lookup e
    rw [List.mem_singleton] at this
    cases this; exact ⟨rfl, rfl⟩
  have l430 : 430 < s₁.heap.objs.size := Heap.lt_size T8
  have lal : al < s₁.heap.objs.size := Heap.lt_size hlist
  have fr : ∀ {b : Addr}, s₁.heap.objs.size ≤ b → s₁.heap.get? b = none := fun h => get_none fun o e => Nat.not_lt.mpr h (Heap.lt_size e)
  have T8' : h₁.get? 430 = some (tabObj #[]) := k _ _ T8
  have hnsL : ∃ o es n, h₁.get? s₁.heap.objs.size = some o ∧ o.data = .dict es n := by
    obtain ⟨o', es, ep, e', hd', _⟩ := hns₁
    exact ⟨o', es, ep, e', hd'⟩
  have hsp : h₁.IsCell (s₁.heap.objs.size + 1) none := by
    have := hcell "spool" (s₁.heap.objs.size + 1) (by rw [hcs]; rfl)
    have e : bindC (callEnvC (docDef dLaw.name dLaw.params dLaw.body dLaw.scope pm cd doc) s₁.heap.objs.size fa).kindOf [("script", .ref al)] (fun _ => none) ("spool" : Str) = none := by kernel_rfl
    rw [e] at this
    exact this
  have nal : ¬(⟨[s₁.heap.objs.size], [s₁.heap.objs.size + 1], [], [430], []⟩ : Rho).own al := fun q => by
    rcases q with q | q | q | q | q
    · exact Nat.ne_of_lt lal (List.mem_singleton.mp q)
    · exact Nat.ne_of_lt (Nat.lt_succ_of_lt lal) (List.mem_singleton.mp q)
    · cases q
    · rw [List.mem_singleton.mp q] at hlist
      rw [T8] at hlist; cases hlist
    · cases q
  have S : St (GG w (ghostOf s₁.heap [(434, 430)])) (callerA.deeper (callEnvC (docDef dLaw.name dLaw.params dLaw.body dLaw.scope pm cd doc) s₁.heap.objs.size fa)) (callEnvC (docDef dLaw.name dLaw.params dLaw.body dLaw.scope pm cd doc) s₁.heap.objs.size fa)
      ⟨[s₁.heap.objs.size], [s₁.heap.objs.size + 1], [], [430], []⟩ [("script", .lst (ns.map .int))] ⟨[tabC false], []⟩ h₁ := by
    refine ⟨fun b o e => k b o (of_hideAll _ e), Nat.le_of_eq (hideAll_size _ _), rfl, ⟨[], rfl, rfl, fun env h => ?_, fun a ha => ?_⟩, fun a q => ?_, ?_, ⟨_, hns₁, fun x v e q => ?_⟩, fun x v e q => ?_, fun x q e => ?_, rfl, rfl, fun i c a e1 e2 => ?_, fun i c a e1 => by simp at e1⟩
    · rw [List.mem_singleton.mp h]
      exact fun q => by cases (show ScopeKind.function = ScopeKind.module from (show (callEnvC (docDef dLaw.name dLaw.params dLaw.body dLaw.scope pm cd doc) s₁.heap.objs.size fa).scope.kind = ScopeKind.function by kernel_rfl).symm.trans q)
    · rw [List.mem_singleton.mp ha]; exact hnsL
    · rcases q with q | q | q | q | q
      · rw [List.mem_singleton.mp q]
        obtain ⟨o, _, _, e, _⟩ := hnsL
        exact ⟨ghost_fresh (fr (Nat.le_refl _)), o, e⟩
      · rw [List.mem_singleton.mp q]
        obtain ⟨o, e, _⟩ := hsp
        exact ⟨ghost_fresh (fr (Nat.le_succ _)), o, e⟩
      · cases q
      · rw [List.mem_singleton.mp q]
        exact ⟨hideAll_none _ (.head _), _, T8'⟩
      · cases q
    · show [s₁.heap.objs.size, s₁.heap.objs.size + 1, 430].Nodup
      refine List.nodup_cons.mpr ⟨fun h => ?_, List.nodup_cons.mpr ⟨fun h => ?_, by simp⟩⟩
      · simp only [List.mem_cons, List.not_mem_nil, or_false] at h
        omega
      · simp only [List.mem_cons, List.not_mem_nil, or_false] at h
        omega
    · obtain ⟨rfl, rfl⟩ := hnm e
      refine ⟨.ref al, by kernel_rfl, .lst (k _ _ hlist) nal (hvs ⟨[], [], [], [], []⟩ h₁).1 fun i x v e1 e2 => ?_⟩
      exact (hvs ⟨[s₁.heap.objs.size], [s₁.heap.objs.size + 1], [], [430], []⟩ h₁).2 i x v e1 e2
    · obtain ⟨rfl, rfl⟩ := hnm e
      rcases q with q | q
      · cases hkind.symm.trans q
      · cases hkind.symm.trans q
    · have q' := law_cells (x, .cell) (mem_of_lookup q) rfl
      dsimp only at q'
      subst q'
      exact ⟨s₁.heap.objs.size + 1, by rw [hcs]; rfl, hsp, .head _⟩
    · match i with
      | 0 => cases e1; cases e2; exact ⟨rfl, T8'⟩
      | i + 1 => simp at e1
  have ok : Ok (GG w (ghostOf s₁.heap [(434, 430)])) (lwC (0 + 150)) (callerA.deeper (callEnvC (docDef dLaw.name dLaw.params dLaw.body dLaw.scope pm cd doc) s₁.heap.objs.size fa)) (callEnvC (docDef dLaw.name dLaw.params dLaw.body dLaw.scope pm cd doc) s₁.heap.objs.size fa) :=
    ⟨(fun v q => by cases q), fun x0 _ x y ca e1 e2 => name_of_addr apart (mem_of_lookup e1) (mem_of_lookup e2), ⟨s₁.heap.objs.size, fa, cd, _, rfl⟩, by kernel_rfl, (show 1 + claimMargin + 1 + 3 * 150 + 3 < recursionLimit by decide), (show 4 + 3 + 20 * 150 + 100 < cLine by decide), fun _ => rfl, gd⟩
  refine law_run g hns _ _ _ h₁ tk₁ s₁ _ _ ok S (Nat.zero_le _) (fun ρ' h' tk' fl m' σ' a q S' x' r' => ?_) fun _ _ _ _ _ _ _ q => q.elim
  obtain ⟨rfl, q2⟩ := q
  cases r' with
  | ret rv =>
    cases rv
    have hw0 : ρ'.w[0]? = some 430 := x'.w 0 430 rfl
    have hc := S'.cw 0 _ _ q2 hw0
    obtain ⟨_, c, co, vs, t, e0, _⟩ := hc
    refine ⟨.inl ⟨.bool true, .bool true, [], rfl, fun cls => rfl, .bool true, by kernel_rfl, fun _ => ⟨List.nodup_nil, fun a h => by cases h⟩⟩, ⟨fun b o e => ?_, fun b o e => ?_⟩, rfl, .of_eq hg⟩
    · by_cases hb : b = 430
      · subst hb
        rw [T8] at e
        cases e
        exact .inr (.inl ⟨(hC.tab T8).isCodeTable, rfl, #[], #[rawInt workPos.line, rawInt workPos.col, .ref c], rfl, by rw [Array.empty_append]; exact e0⟩)
      · exact .inl (S'.base b o (gn e hb))
    · by_cases hb : b = 430
      · subst hb; exact ⟨_, e0⟩
      · exact ⟨o, S'.base b o (gn e hb)⟩
end
theorem walk : WalkO viewQ looseQ (XL viewQ []) (Hook.says HK) rw1.toRowW dLaw [] (fun f vs => PySem.call f vs) := by
  intro w s₀ s₁ mg mb G Y fa o pm cd doc dV kV ho hd hcd hD hmg hg args vals as hpre hlay hrd hwl hlo
  have KX := km_in_of Y
  have T8 := km_tabs_of Y 430 (by simp)
  have T := G.T
  wrow_args hpre hlay hrd hwl hlo
  rename_i ns hs0 hlay0 hL1 hr1 hl2 as1 as2 al items as3 hL ra w1 r0 hI hr hlen htriv
  refine enter_call ?_
  have he := Dflts.none hD rfl
  subst he
  have he := Dflts.noKw hD
  subst he
  have hns : ns.length ≤ 63 := by omega
  have hC := codeHd_of_K (c := 434) (P := 430) KX (by kernel_rfl)
  have hT : TabsAt [(434, 430)] s₁.heap := fun q hq => by rw [List.mem_singleton.mp hq]; exact ⟨hC, T8⟩
  exact entry hns KX hT T ho (fd_plain hd) hcd hg hL hI w1
end Mine
end
open PySem PySem.W PyProof.Rows PySem.Calls PySem.Spec
set_option maxRecDepth 100000
namespace Mine
noncomputable def XtQ : Shared → Bool := fun s => xlAt viewQ [] s && recOk rw1.toRowW.records s
theorem size0 (w : World) : ((boot_heap w.params).isNs mainGlobals && (⟨[]⟩ : Array GenState).size == 0, (boot_heap w.params).objs.size, (boot_heap w.params).nsMap mainGlobals "__annotations__") = (true, 11, some (.ref 6)) := by kernel_rfl
theorem looks1 (w : World) : (fun os : OsState => ((staticsOk (importedModules PG.main.body) (boot_heap w.params) (hFin w.params) && namesBound PG (hFin w.params) && gensDone ⟨hFin w.params, ⟨[]⟩, {}, 830, os⟩ && laidKept (boot_heap w.params) (hFin w.params)),
    openSeen viewQ looseQ (importedModules PG.main.body) XtQ true ⟨hFin w.params, ⟨[]⟩, {}, 830, os⟩, HK.obs ⟨hFin w.params, ⟨[]⟩, {}, 830, os⟩)) = fun _ => (true, openGood viewQ looseQ, HK.val w) := by kernel_rfl
theorem left1 : LeftO PG viewQ looseQ XtQ HK.obs HK.val 6000 :=
  .of_pieces (boot_open (by kernel_rfl) rfl fun s => by kernel_rfl) size0 run5 rfl looks1
theorem sd1 : namesResolve PG = true := by kernel_rfl
theorem sd2 : noRoadLSs { strict := !(importedModules PG.main.body).all cThrough.contains, foot := none, bare := (["vars", "dir", "locals"] : List Str).filter (readsOut PG PG.main.body) } PG.main.body = true := by kernel_rfl
theorem sd3 : namesMeet PG PG.main.body (fun _ n => attrL n) = true := by kernel_rfl
theorem said0 : looksOpen PG = true := look_both (look_both (look_both (look_both (by kernel_rfl) sd1) (by kernel_rfl)) sd2) sd3
theorem saidR : PySem.Challenge.rw_sm0058_01.row.partSaid = true := by
  unfold OpenRow.partSaid
  rw [show looksOpen PySem.Challenge.rw_sm0058_01.row.prog = true from said0]
  kernel_rfl
theorem said1 : PySem.Challenge.rw_sm0058_01.wellSaid = true := by
  unfold OpenLaw.wellSaid OpenRow.wellSaid
  rw [saidR]
  kernel_rfl
theorem chains1 : (chainsOk viewQ && opensWell rw1.toRowW.prog && (frees rw1.toRowW && rw1.toRowW.within.isEmpty)) = true := by kernel_rfl
end Mine
theorem PySem.Challenge.cw_sm0058_01_holds : PySem.Challenge.rw_sm0058_01.Holds := by
  refine holds_law Mine.said1 fun said => ?_
  exact holds_open (r := Mine.rw1) (q := Mine.viewQ) (loose := Mine.looseQ) (Xt := Mine.XtQ) (XP := XL Mine.viewQ []) (Yf := Mine.HK.obs) (Ya := Mine.HK.val) (YP := Mine.HK.says) (N := 6000) (d := Mine.dLaw) (kwd := []) Mine.left1 Mine.HK.of Mine.HK.keeps (fun s e => xl_of s (Bool.and_eq_true_iff.mp e).1) XL.keeps (by kernel_rfl) (by kernel_rfl) (by kernel_rfl)
    (fun s e => recFacts_of (Bool.and_eq_true_iff.mp e).2) rfl said Mine.chains1 ⟨rfl, rfl, rfl, rfl, rfl, by decide +kernel⟩ ⟨[.list []], by decide +kernel, by decide +kernel⟩ Mine.walk
