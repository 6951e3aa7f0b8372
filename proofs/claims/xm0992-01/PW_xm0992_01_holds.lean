import PyProof.Rows.All
import Wide.All
import OpenK.AllK
import Wide.FinOn
import Lean
import PySem.Challenge.RW_xm0992_01
set_option Elab.async false
set_option linter.unusedSimpArgs false
set_option linter.unusedVariables false
set_option linter.unnecessarySimpa false

section
open PySem PySem.Calls PyProof.Rows PySem.W
namespace Mine
inductive V where
  | undef | none
  | bool (b : Bool) | int (i : Int) | str (x : PySem.Str) | bytes (l : List Nat)
  | tup (l : List V) | list (l : List V) | ref (a : Addr)
  deriving Inhabited
inductive AObj where
  | list (l : List V)
  | dict (n : Nat) (m : Int → Option V)
  | inst (C : Addr) (fs : List (Nat × V))
  | sub (a : Addr)
  | hidden
abbrev AHeap := Addr → Option AObj
def upd (σ : AHeap) (a : Addr) (o : AObj) : AHeap := fun b => if b = a then some o else σ b
def del (σ : AHeap) (a : Addr) : AHeap := fun b => if b = a then none else σ b
theorem upd_self {σ : AHeap} {a : Addr} {o : AObj} : upd σ a o a = some o := by simp [upd]
theorem upd_ne {σ : AHeap} {a b : Addr} {o : AObj} (h : b ≠ a) : upd σ a o b = σ b := by simp [upd, h]
theorem del_ne {σ : AHeap} {a b : Addr} (h : b ≠ a) : del σ a b = σ b := by simp [del, h]
theorem del_self {σ : AHeap} {a : Addr} : del σ a a = none := by simp [del]
abbrev Hid := Addr → Option Obj
def hid (N : Hid) (σ : AHeap) : AHeap := fun a => match N a with | some _ => some .hidden | none => σ a
theorem hid_none {N : Hid} {σ : AHeap} {a : Addr} : hid N σ a = none ↔ N a = none ∧ σ a = none := by
  unfold hid
  cases N a <;> simp
theorem hid_of {N : Hid} {σ : AHeap} {a : Addr} (h : N a = none) : hid N σ a = σ a := by unfold hid; rw [h]
theorem hid_sub {N : Hid} {σ : AHeap} {a b : Addr} : hid N σ a = some (.sub b) ↔ N a = none ∧ σ a = some (.sub b) := by
  unfold hid
  cases N a <;> simp
mutual
inductive VRel (σ : AHeap) (h : Heap) : V → Value → Prop
  | undef {v} : VRel σ h .undef v
  | none : VRel σ h .none .none
  | bool {b} : VRel σ h (.bool b) (.bool b)
  | int {i t} : VRel σ h (.int i) (.int i t)
  | str {x t} : VRel σ h (.str x) (.str x t)
  | bytes {l b t} : b.toList.map UInt8.toNat = l → b.size ≤ 1000 → VRel σ h (.bytes l) (.bytes b t)
  | tup {l a vs} : σ a = none → IsTup h a vs → vs.size ≤ 1000 → VRels σ h l vs.toList → VRel σ h (.tup l) (.ref a)
  | list {l a vs} : σ a = none → h.PlainList a vs → vs.size ≤ 1000 → VRels σ h l vs.toList → VRel σ h (.list l) (.ref a)
  | ref {a} : VRel σ h (.ref a) (.ref a)
inductive VRels (σ : AHeap) (h : Heap) : List V → List Value → Prop
  | nil : VRels σ h [] []
  | cons {v val l vs} : VRel σ h v val → VRels σ h l vs → VRels σ h (v :: l) (val :: vs)
end
theorem VRels.length {σ : AHeap} {h : Heap} : ∀ {l : List V} {vs : List Value}, VRels σ h l vs → l.length = vs.length
  | [], _, .nil => rfl
  | _ :: _, _, .cons _ r => by simp [r.length]
theorem VRels.get {σ : AHeap} {h : Heap} : ∀ {l : List V} {vs : List Value}, VRels σ h l vs → ∀ {i : Nat} {v : V}, l[i]? = some v → ∃ val, vs[i]? = some val ∧ VRel σ h v val
  | [], _, .nil, i, v, e => by simp at e
  | _ :: _, _, .cons x r, 0, v, e => by simp at e; subst e; exact ⟨_, by simp, x⟩
  | _ :: _, _, .cons x r, i + 1, v, e => by simp at e; obtain ⟨val, e', q⟩ := r.get e; exact ⟨val, by simpa using e', q⟩
theorem VRels.append {σ : AHeap} {h : Heap} : ∀ {l l' : List V} {vs vs' : List Value}, VRels σ h l vs → VRels σ h l' vs' → VRels σ h (l ++ l') (vs ++ vs')
  | [], _, _, _, .nil, y => y
  | _ :: _, _, _, _, .cons x r, y => .cons x (r.append y)
theorem VRels.snoc {σ : AHeap} {h : Heap} {l : List V} {vs : List Value} {v : V} {val : Value} (x : VRels σ h l vs) (y : VRel σ h v val) : VRels σ h (l ++ [v]) (vs ++ [val]) := x.append (.cons y .nil)
theorem VRels.take {σ : AHeap} {h : Heap} : ∀ {l : List V} {vs : List Value}, VRels σ h l vs → ∀ n : Nat, VRels σ h (l.take n) (vs.take n)
  | _, _, _, 0 => by simpa using VRels.nil
  | [], _, .nil, n + 1 => by simpa using VRels.nil
  | _ :: _, _, .cons x r, n + 1 => by simpa using VRels.cons x (r.take n)
theorem VRels.drop {σ : AHeap} {h : Heap} : ∀ {l : List V} {vs : List Value}, VRels σ h l vs → ∀ n : Nat, VRels σ h (l.drop n) (vs.drop n)
  | _, _, x, 0 => by simpa using x
  | [], _, .nil, n + 1 => by simpa using VRels.nil
  | _ :: _, _, .cons x r, n + 1 => by simpa using r.drop n
theorem VRels.reverse {σ : AHeap} {h : Heap} : ∀ {l : List V} {vs : List Value}, VRels σ h l vs → VRels σ h l.reverse vs.reverse
  | [], _, .nil => by simpa using VRels.nil
  | _ :: _, _, .cons x r => by simpa using r.reverse.snoc x
def clsL : List Nat := [92, 226, 274, 307]
def anL : List String := ["octets", "size", "last", "before", "least", "window", "chain", "ahead", "row", "roots", "smaller", "greater", "rows", "tree",
  "key", "put", "newest", "enter", "limit", "length", "alike", "is_near", "every", "best", "candidates", "hang", "part", "__init__", "LAYERS", "TREE"]
def an (k : Nat) : PySem.Str := PySem.Str.ofString (anL.getD k "")
structure Cx where
  prog : Program
  w : World
  K : Frag
  H0 : Heap
  G : Addr
def NsAt (h : Heap) (G : Addr) : Prop := ∃ m, h.Ns G m
theorem NsAt.ne {h : Heap} {G a : Addr} {o : Obj} (x : NsAt h G) (e : h.get? a = some o) (hd : ∀ es ep, o.data ≠ .dict es ep) : a ≠ G := fun q => by
  obtain ⟨m, o', es, ep, e', d, _⟩ := x
  rw [q, e'] at e
  cases e
  exact hd _ _ d
structure Up (G : Addr) (σ : AHeap) (h : Heap) (σ' : AHeap) (h' : Heap) : Prop where
  at_ : ∀ b o, b ≠ G → h.get? b = some o → σ b = none → h'.get? b = some o ∧ σ' b = none
  ns : NsAt h G
mutual
theorem VRel.up {G : Addr} {σ σ' : AHeap} {h h' : Heap} (u : Up G σ h σ' h') : ∀ {v : V} {val : Value}, VRel σ h v val → VRel σ' h' v val
  | _, _, .undef => .undef
  | _, _, .none => .none
  | _, _, .bool => .bool
  | _, _, .int => .int
  | _, _, .str => .str
  | _, _, .bytes e n => .bytes e n
  | _, _, .ref => .ref
  | _, _, .tup e ⟨o, ho, hc, k, hd⟩ n x =>
    have ne := u.ns.ne ho (fun es ep q => by rw [hd] at q; cases q)
    .tup (u.at_ _ _ ne ho e).2 ⟨o, (u.at_ _ _ ne ho e).1, hc, k, hd⟩ n (x.up u)
  | _, _, .list e ⟨k, ho⟩ n x =>
    have ne := u.ns.ne ho (fun es ep q => by cases q)
    .list (u.at_ _ _ ne ho e).2 ⟨k, (u.at_ _ _ ne ho e).1⟩ n (x.up u)
theorem VRels.up {G : Addr} {σ σ' : AHeap} {h h' : Heap} (u : Up G σ h σ' h') : ∀ {l : List V} {vs : List Value}, VRels σ h l vs → VRels σ' h' l vs
  | _, _, .nil => .nil
  | _, _, .cons x r => .cons (x.up u) (r.up u)
end
def ORelO (σ : AHeap) (h : Heap) : Option V → Option Value → Prop
  | none, none => True
  | some v, some val => VRel σ h v val
  | _, _ => False
inductive FRel (X : Cx) (σ : AHeap) (h : Heap) : List (Nat × V) → List DictEntry → Prop
  | nil : FRel X σ h [] []
  | cons {k v fs es t val} : VRel σ h v val → FRel X σ h fs es → FRel X σ h ((k, v) :: fs) (⟨PyData.keyHash X.w.params (an k), .str (an k) t, val⟩ :: es)
def ORel (X : Cx) (σ : AHeap) (h : Heap) (a : Addr) : AObj → Prop
  | .list l => ∃ vs, h.PlainList a vs ∧ vs.size ≤ 1000 ∧ VRels σ h l vs.toList
  | .dict n m => ∃ f : Int → Option Value, h.MapOf (intKind X.prog X.w) a f ∧ (h.DictLe a n ∧ n ≤ 1000) ∧ ∀ k, ORelO σ h (m k) (f k)
  | .inst C fs => ∃ dx es n, h.get? a = some (instObj C dx) ∧ σ dx = some (.sub a) ∧ h.get? dx = some (dictOf es n) ∧ FRel X σ h fs es ∧ C ∈ clsL ∧ fs.length ≤ 100 ∧ ∀ p ∈ fs, p.1 < 14
  | .sub _ => True
  | .hidden => True
structure St (X : Cx) (N : Hid) (σ : AHeap) (s : Shared) : Prop where
  keep : ∀ b o, X.H0.get? b = some o → s.heap.get? b = some o
  fresh : ∀ a o, σ a = some o → X.H0.get? a = none
  objs : ∀ a o, σ a = some o → ORel X (hid N σ) s.heap a o
  live : ∀ a o, σ a = some o → ∃ ob, s.heap.get? a = some ob
  ns : NsAt s.heap X.G
  gfree : σ X.G = none
  gH0 : X.H0.get? X.G = none
  hids : ∀ a o, N a = some o → σ a = none ∧ (∃ ob, s.heap.get? a = some ob) ∧ X.H0.get? a = none ∧ a ≠ X.G
structure Step (X : Cx) (σ : AHeap) (s : Shared) (σ' : AHeap) (s' : Shared) : Prop where
  keep : ∀ b o, b ≠ X.G → s.heap.get? b = some o → σ b = none → s'.heap.get? b = some o
  sink : ∀ m, s.heap.Ns X.G m → s'.heap.Ns X.G m
  new : ∀ b o, σ b = none → σ' b = some o → s.heap.get? b = none
  live : ∀ b o, s.heap.get? b = some o → ∃ o', s'.heap.get? b = some o'
  rest : ∃ h' tk, s' = { s with heap := h', toks := tk }
theorem Step.refl (X : Cx) (σ : AHeap) (s : Shared) : Step X σ s σ s := ⟨fun _ _ _ e _ => e, fun _ n => n, fun _ _ e e' => (by rw [e] at e'; cases e'), fun _ o e => ⟨o, e⟩, s.heap, s.toks, rfl⟩
theorem Step.up0 {X : Cx} {σ σ' : AHeap} {s s' : Shared} (x : Step X σ s σ' s') : ∀ b o, b ≠ X.G → s.heap.get? b = some o → σ b = none → s'.heap.get? b = some o ∧ σ' b = none := fun b o n e q => ⟨x.keep b o n e q, by
  cases q' : σ' b with
  | none => rfl
  | some o' => have := x.new b o' q q'; rw [e] at this; cases this⟩
theorem Step.up {X : Cx} {N : Hid} {σ σ' : AHeap} {s s' : Shared} (x : Step X σ s σ' s') (S : St X N σ s) : Up X.G (hid N σ) s.heap (hid N σ') s'.heap := ⟨fun b o n e q => by
  obtain ⟨q1, q2⟩ := hid_none.mp q
  exact ⟨(x.up0 b o n e q2).1, hid_none.mpr ⟨q1, (x.up0 b o n e q2).2⟩⟩, S.ns⟩
theorem Step.trans {X : Cx} {σ σ₁ σ₂ : AHeap} {s s₁ s₂ : Shared} (x : Step X σ s σ₁ s₁) (y : Step X σ₁ s₁ σ₂ s₂) (S : σ X.G = none) (S2 : σ₂ X.G = none) : Step X σ s σ₂ s₂ where
  keep := fun b o n e q => y.keep b o n (x.keep b o n e q) (x.up0 b o n e q).2
  sink := fun m n => y.sink m (x.sink m n)
  new := fun b o q q' => by
    cases e : s.heap.get? b with
    | none => rfl
    | some o' =>
      have n : b ≠ X.G := fun z => by rw [z, S2] at q'; cases q'
      have h1 := x.up0 b o' n e q
      have h2 := y.up0 b o' n h1.1 h1.2
      rw [q'] at h2
      cases h2.2
  live := fun b o e => let ⟨o', e'⟩ := x.live b o e; y.live b o' e'
  rest := by
    obtain ⟨h1, t1, rfl⟩ := x.rest
    obtain ⟨h2, t2, rfl⟩ := y.rest
    exact ⟨h2, t2, rfl⟩
theorem Step.tok {X : Cx} {σ : AHeap} {s : Shared} (tk : Nat) : Step X σ s σ { s with toks := tk } := ⟨fun _ _ _ e _ => e, fun _ n => n, fun _ _ e e' => (by rw [e] at e'; cases e'), fun _ o e => ⟨o, e⟩, s.heap, tk, rfl⟩
theorem FRel.up {X : Cx} {σ σ' : AHeap} {h h' : Heap} (u : Up X.G σ h σ' h') : ∀ {fs : List (Nat × V)} {es : List DictEntry}, FRel X σ h fs es → FRel X σ' h' fs es
  | _, _, .nil => .nil
  | _, _, .cons x r => .cons (x.up u) (r.up u)
theorem ORelO.up {G : Addr} {σ σ' : AHeap} {h h' : Heap} (u : Up G σ h σ' h') : ∀ {v : Option V} {val : Option Value}, ORelO σ h v val → ORelO σ' h' v val
  | none, none, _ => trivial
  | some _, some _, x => VRel.up u x
  | some _, none, x => x.elim
  | none, some _, x => x.elim
theorem ORel.up {X : Cx} {σ σ' : AHeap} {h h' : Heap} {a : Addr} {o : AObj} (u : Up X.G σ h σ' h') (x : ORel X σ h a o) (ha : ∀ ob, h.get? a = some ob → h'.get? a = some ob)
    (hd : ∀ dx, σ dx = some (.sub a) → σ' dx = some (.sub a) ∧ ∀ ob, h.get? dx = some ob → h'.get? dx = some ob) : ORel X σ' h' a o := by
  cases o with
  | list l =>
    obtain ⟨vs, ⟨ob, e⟩, n, y⟩ := x
    exact ⟨vs, ⟨ob, ha _ e⟩, n, y.up u⟩
  | dict n m =>
    obtain ⟨f, ⟨ob, es, ep, e, r⟩, ⟨z, zn⟩, y⟩ := x
    exact ⟨f, ⟨ob, es, ep, ha _ e, r⟩, ⟨fun o' es' ep' e' => by rw [ha _ e] at e'; cases e'; exact z _ _ _ e, zn⟩, fun k => (y k).up u⟩
  | inst C fs =>
    obtain ⟨dx, es, n, e1, e2, e3, y, r⟩ := x
    exact ⟨dx, es, n, ha _ e1, (hd dx e2).1, (hd dx e2).2 _ e3, y.up u, r⟩
  | sub b => trivial
  | hidden => trivial
theorem St.tok {X : Cx} {N : Hid} {σ : AHeap} {s : Shared} (x : St X N σ s) (tk : Nat) : St X N σ { s with toks := tk } := ⟨x.keep, x.fresh, x.objs, x.live, x.ns, x.gfree, x.gH0, x.hids⟩
theorem St.hid_fresh {X : Cx} {N : Hid} {σ : AHeap} {s : Shared} (x : St X N σ s) {a : Addr} (e : s.heap.get? a = none) : N a = none := by
  cases q : N a with
  | none => rfl
  | some o => obtain ⟨ob, this⟩ := (x.hids a o q).2.1; rw [e] at this; cases this
theorem St.hid_tracked {X : Cx} {N : Hid} {σ : AHeap} {s : Shared} (x : St X N σ s) {a : Addr} {o : AObj} (e : σ a = some o) : N a = none := by
  cases q : N a with
  | none => rfl
  | some o' => have := (x.hids a o' q).1; rw [e] at this; cases this
theorem St.hid_H0 {X : Cx} {N : Hid} {σ : AHeap} {s : Shared} (x : St X N σ s) {a : Addr} {o : Obj} (e : X.H0.get? a = some o) : N a = none := by
  cases q : N a with
  | none => rfl
  | some o' => have := (x.hids a o' q).2.2.1; rw [e] at this; cases this
theorem St.hid_G {X : Cx} {N : Hid} {σ : AHeap} {s : Shared} (x : St X N σ s) : N X.G = none := by
  cases q : N X.G with
  | none => rfl
  | some o' => exact absurd rfl (x.hids X.G o' q).2.2.2
theorem St.hid_eq {X : Cx} {N : Hid} {σ : AHeap} {s : Shared} (x : St X N σ s) {a : Addr} {o : AObj} (e : σ a = some o) : Mine.hid N σ a = some o := by rw [hid_of (x.hid_tracked e)]; exact e
theorem St.none_of_H0 {X : Cx} {N : Hid} {σ : AHeap} {s : Shared} (x : St X N σ s) {a : Addr} {o : Obj} (e : X.H0.get? a = some o) : σ a = none := by
  cases q : σ a with
  | none => rfl
  | some o' => have := x.fresh a o' q; rw [e] at this; cases this
theorem get_ge_none {h : Heap} {a : Addr} (ha : h.objs.size ≤ a) : h.get? a = none := by
  cases e : h.get? a with
  | none => rfl
  | some o => exact absurd (Heap.lt_size e) (Nat.not_lt.mpr ha)
theorem St.free_of_none {X : Cx} {N : Hid} {σ : AHeap} {s : Shared} (x : St X N σ s) {a : Addr} (e : s.heap.get? a = none) : σ a = none := by
  cases q : σ a with
  | none => rfl
  | some o' => obtain ⟨ob, e'⟩ := x.live _ _ q; rw [e] at e'; cases e'
theorem St.H0_of_none {X : Cx} {N : Hid} {σ : AHeap} {s : Shared} (x : St X N σ s) {a : Addr} (e : s.heap.get? a = none) : X.H0.get? a = none := by
  cases q : X.H0.get? a with
  | none => rfl
  | some o' => have := x.keep _ _ q; rw [e] at this; cases this
theorem NsAt.lt {h : Heap} {G : Addr} (x : NsAt h G) : G < h.objs.size := let ⟨_, n⟩ := x; n.lt
structure Grow (X : Cx) (h h' : Heap) : Prop where
  at_ : ∀ b o, b ≠ X.G → h.get? b = some o → h'.get? b = some o
  sink : ∀ m, h.Ns X.G m → h'.Ns X.G m
  live : ∀ b o, h.get? b = some o → ∃ o', h'.get? b = some o'
theorem Grow.of_all {X : Cx} {h h' : Heap} (k : ∀ b o, h.get? b = some o → h'.get? b = some o) : Grow X h h' := ⟨fun b o _ e => k b o e, fun _ n => n.keeps k, fun b o e => ⟨o, k b o e⟩⟩
theorem Grow.up {X : Cx} {N : Hid} {σ : AHeap} {s : Shared} {h' : Heap} (g : Grow X s.heap h') (S : St X N σ s) : Up X.G (hid N σ) s.heap (hid N σ) h' := ⟨fun b o n e q => ⟨g.at_ b o n e, q⟩, S.ns⟩
theorem St.hfree_of_none {X : Cx} {N : Hid} {σ : AHeap} {s : Shared} (x : St X N σ s) {a : Addr} (e : s.heap.get? a = none) : hid N σ a = none := hid_none.mpr ⟨x.hid_fresh e, x.free_of_none e⟩
theorem St.hnone_of_H0 {X : Cx} {N : Hid} {σ : AHeap} {s : Shared} (x : St X N σ s) {a : Addr} {o : Obj} (e : X.H0.get? a = some o) : hid N σ a = none := hid_none.mpr ⟨x.hid_H0 e, x.none_of_H0 e⟩
theorem St.ne_G {X : Cx} {N : Hid} {σ : AHeap} {s : Shared} (x : St X N σ s) {a : Addr} {o : AObj} (e : σ a = some o) : a ≠ X.G := fun z => by rw [z, x.gfree] at e; cases e
theorem St.grow {X : Cx} {N : Hid} {σ : AHeap} {s : Shared} (x : St X N σ s) {h' : Heap} {tk : Nat} (g : Grow X s.heap h') : St X N σ { s with heap := h', toks := tk } where
  keep := fun b o e => g.at_ b o (fun z => by rw [z, x.gH0] at e; cases e) (x.keep b o e)
  fresh := x.fresh
  objs := fun a o q => (x.objs a o q).up (g.up x) (fun ob e => g.at_ a ob (x.ne_G q) e) (fun dx z => ⟨z, fun ob e => g.at_ dx ob (x.ne_G (hid_sub.mp z).2) e⟩)
  live := fun a o q => let ⟨ob, e⟩ := x.live a o q; ⟨ob, g.at_ a ob (x.ne_G q) e⟩
  ns := let ⟨m, n⟩ := x.ns; ⟨m, g.sink m n⟩
  gfree := x.gfree
  gH0 := x.gH0
  hids := fun a o q => let ⟨h1, ⟨ob, h2⟩, h3, h4⟩ := x.hids a o q; ⟨h1, ⟨ob, g.at_ a ob h4 h2⟩, h3, h4⟩
theorem Step.grow {X : Cx} {σ : AHeap} {s : Shared} {h' : Heap} {tk : Nat} (g : Grow X s.heap h') : Step X σ s σ { s with heap := h', toks := tk } :=
  ⟨fun b o n e _ => g.at_ b o n e, g.sink, fun _ _ e e' => (by rw [e] at e'; cases e'), g.live, h', tk, rfl⟩
structure Poke (X : Cx) (N : Hid) (σ : AHeap) (s : Shared) (p : Addr) (h' : Heap) : Prop where
  free : σ p = none
  h0 : X.H0.get? p = none
  ns : NsAt h' X.G
  kind : (∀ o xs n, s.heap.get? p = some o → o.data ≠ .seq xs n) ∨ (∃ o, N p = some o)
  at_ : ∀ b o, b ≠ p → s.heap.get? b = some o → h'.get? b = some o
  live : (∃ o, N p = some o) → ∃ o', h'.get? p = some o'
mutual
theorem VRel.poke {X : Cx} {N : Hid} {σ : AHeap} {s : Shared} {p : Addr} {h' : Heap} (u : Poke X N σ s p h') : ∀ {v : V} {val : Value}, VRel (hid N σ) s.heap v val → VRel (hid N σ) h' v val
  | _, _, .undef => .undef
  | _, _, .none => .none
  | _, _, .bool => .bool
  | _, _, .int => .int
  | _, _, .str => .str
  | _, _, .bytes e n => .bytes e n
  | _, _, .ref => .ref
  | _, _, .tup e ⟨o, ho, hc, k, hd⟩ n x =>
    have ne := fun (q : _ = p) => u.kind.elim (fun h => h o _ _ (q ▸ ho) hd) fun ⟨o', e'⟩ => by subst q; rw [(hid_none.mp e).1] at e'; cases e'
    .tup e ⟨o, u.at_ _ _ ne ho, hc, k, hd⟩ n (x.poke u)
  | _, _, .list e ⟨k, ho⟩ n x =>
    have ne := fun (q : _ = p) => u.kind.elim (fun h => h _ _ _ (q ▸ ho) rfl) fun ⟨o', e'⟩ => by subst q; rw [(hid_none.mp e).1] at e'; cases e'
    .list e ⟨k, u.at_ _ _ ne ho⟩ n (x.poke u)
theorem VRels.poke {X : Cx} {N : Hid} {σ : AHeap} {s : Shared} {p : Addr} {h' : Heap} (u : Poke X N σ s p h') : ∀ {l : List V} {vs : List Value}, VRels (hid N σ) s.heap l vs → VRels (hid N σ) h' l vs
  | _, _, .nil => .nil
  | _, _, .cons x r => .cons (x.poke u) (r.poke u)
end
theorem FRel.poke {X : Cx} {N : Hid} {σ : AHeap} {s : Shared} {p : Addr} {h' : Heap} (u : Poke X N σ s p h') : ∀ {fs : List (Nat × V)} {es : List DictEntry}, FRel X (hid N σ) s.heap fs es → FRel X (hid N σ) h' fs es
  | _, _, .nil => .nil
  | _, _, .cons x r => .cons (x.poke u) (r.poke u)
theorem ORelO.poke {X : Cx} {N : Hid} {σ : AHeap} {s : Shared} {p : Addr} {h' : Heap} (u : Poke X N σ s p h') : ∀ {v : Option V} {val : Option Value}, ORelO (hid N σ) s.heap v val → ORelO (hid N σ) h' v val
  | none, none, _ => trivial
  | some _, some _, x => VRel.poke u x
  | some _, none, x => x.elim
  | none, some _, x => x.elim
theorem St.poke {X : Cx} {N : Hid} {σ : AHeap} {s : Shared} {p : Addr} {h' : Heap} {tk : Nat} (S : St X N σ s) (u : Poke X N σ s p h') : St X N σ { s with heap := h', toks := tk } where
  keep := fun b o e => u.at_ b o (fun z => by rw [z, u.h0] at e; cases e) (S.keep b o e)
  fresh := S.fresh
  objs := fun a o q => by
    have na : a ≠ p := fun z => by rw [z, u.free] at q; cases q
    have x := S.objs a o q
    cases o with
    | list l =>
      obtain ⟨vs, ⟨ob, e⟩, n, y⟩ := x
      exact ⟨vs, ⟨ob, u.at_ _ _ na e⟩, n, y.poke u⟩
    | dict n m =>
      obtain ⟨f, ⟨ob, es, ep, e, r⟩, ⟨z, zn⟩, y⟩ := x
      have e2 := u.at_ _ _ na e
      exact ⟨f, ⟨ob, es, ep, e2, r⟩, ⟨fun o' es' ep' e' => by rw [e2] at e'; cases e'; exact z _ _ _ e, zn⟩, fun k => (y k).poke u⟩
    | inst C fs =>
      obtain ⟨dx, es, n, e1, e2, e3, y, r⟩ := x
      have nd : dx ≠ p := fun z => by have := (hid_sub.mp e2).2; rw [z, u.free] at this; cases this
      exact ⟨dx, es, n, u.at_ _ _ na e1, e2, u.at_ _ _ nd e3, y.poke u, r⟩
    | sub b => trivial
    | hidden => trivial
  live := fun a o q => by
    have na : a ≠ p := fun z => by rw [z, u.free] at q; cases q
    obtain ⟨ob, e⟩ := S.live a o q
    exact ⟨ob, u.at_ _ _ na e⟩
  ns := u.ns
  gfree := S.gfree
  gH0 := S.gH0
  hids := fun a o q => by
    obtain ⟨h1, ⟨ob, h2⟩, h3, h4⟩ := S.hids a o q
    refine ⟨h1, ?_, h3, h4⟩
    by_cases z : a = p
    · subst z; exact u.live ⟨_, q⟩
    · exact ⟨ob, u.at_ _ _ z h2⟩
theorem Step.poke {X : Cx} {N : Hid} {σ₀ σ : AHeap} {s₀ s : Shared} {p : Addr} {h' : Heap} {tk : Nat} (T : Step X σ₀ s₀ σ s) (u : Poke X N σ s p h') (hp : s₀.heap.get? p = none) : Step X σ₀ s₀ σ { s with heap := h', toks := tk } where
  keep := fun b o n e q => u.at_ b o (fun z => by rw [z, hp] at e; cases e) (T.keep b o n e q)
  sink := fun m n => by
    obtain ⟨o, es, ep, ho, r⟩ := T.sink m n
    have ne : X.G ≠ p := fun z => by
      obtain ⟨o', _, _, ho', _⟩ := n
      rw [z, hp] at ho'; cases ho'
    exact ⟨o, es, ep, u.at_ _ _ ne ho, r⟩
  new := T.new
  live := fun b o e => by
    obtain ⟨o', e'⟩ := T.live b o e
    exact ⟨o', u.at_ _ _ (fun z => by rw [z, hp] at e; cases e) e'⟩
  rest := by
    obtain ⟨h1, t1, rfl⟩ := T.rest
    exact ⟨h', tk, rfl⟩
theorem Step.fresh {X : Cx} {σ₀ σ : AHeap} {s₀ s : Shared} (T : Step X σ₀ s₀ σ s) {p : Addr} (h : s.heap.get? p = none) : s₀.heap.get? p = none := by
  cases e : s₀.heap.get? p with
  | none => rfl
  | some o => obtain ⟨o', e'⟩ := T.live p o e; rw [h] at e'; cases e'
theorem Poke.mk' {X : Cx} {N : Hid} {σ : AHeap} {s : Shared} {p : Addr} {h' : Heap} (S : St X N σ s) (free : σ p = none) (h0 : X.H0.get? p = none) (neG : p ≠ X.G) (kind : (∀ o xs n, s.heap.get? p = some o → o.data ≠ .seq xs n) ∨ (∃ o, N p = some o))
    (at_ : ∀ b o, b ≠ p → s.heap.get? b = some o → h'.get? b = some o) (live : (∃ o, N p = some o) → ∃ o', h'.get? p = some o') : Poke X N σ s p h' :=
  ⟨free, h0, let ⟨m, o, es, ep, ho, r⟩ := S.ns; ⟨m, o, es, ep, at_ _ _ (Ne.symm neG) ho, r⟩, kind, at_, live⟩
theorem VRel.light {τ τ' : AHeap} {h : Heap} (k : ∀ a, τ a = Option.none → τ' a = Option.none) : ∀ {v : V} {val : Value}, VRel τ h v val → VRel τ' h v val := by
  intro v val x
  refine VRel.rec (motive_1 := fun v val _ => VRel τ' h v val) (motive_2 := fun l vs _ => VRels τ' h l vs) .undef .none .bool .int .str (fun e n => .bytes e n) (fun e i n _ x => .tup (k _ e) i n x) (fun e i n _ x => .list (k _ e) i n x) .ref .nil (fun _ _ x y => .cons x y) x
theorem VRels.light {τ τ' : AHeap} {h : Heap} (k : ∀ a, τ a = none → τ' a = none) : ∀ {l : List V} {vs : List Value}, VRels τ h l vs → VRels τ' h l vs
  | _, _, .nil => .nil
  | _, _, .cons x r => .cons (x.light k) (r.light k)
end Mine
end

section
open PySem PySem.Calls PyProof.Rows PySem.W
namespace Mine
def gnL : List String := ["PlaceRow", "Matcher", "Finder", "TreeFinder", "LayeredFinder", "finder_for", "_law_box", "_law_take", "_law_text", "_law_numbers", "_law_common", "_law_order", "_law_sides", "_law_longest", "_law_outwards", "_law_pairs_right", "_law_wide_right", "_law_narrow_right"]
def gn (k : Nat) : PySem.Str := PySem.Str.ofString (gnL.getD k "")
def gaL : List Nat := [92, 183, 226, 274, 307, 317, 324, 331, 336, 343, 350, 355, 362, 367, 372, 379, 384, 389]
def ga (k : Nat) : Addr := gaL.getD k 0
def methL : List (Nat × Nat × Nat) := [(92, 27, 68), (92, 14, 75), (92, 15, 82), (92, 16, 89),
  (183, 27, 110), 
  (226, 27, 202), (226, 15, 117), (226, 17, 209), (226, 18, 138), (226, 19, 145), (226, 20, 152), (226, 21, 159), (226, 22, 223), (226, 23, 180), (226, 24, 216),
  (274, 27, 243), (274, 15, 117), (274, 17, 257), (274, 18, 138), (274, 19, 145), (274, 20, 152), (274, 21, 159), (274, 22, 271), (274, 23, 180), (274, 25, 250), (274, 26, 264),
  (307, 27, 290), (307, 15, 117), (307, 17, 297), (307, 18, 138), (307, 19, 145), (307, 20, 152), (307, 21, 159), (307, 22, 304), (307, 23, 180)]
def meth (C m : Nat) : Option Nat := (methL.find? fun p => p.1 == C && p.2.1 == m).map (·.2.2)
inductive Bop where | add | sub | mul | fdiv | mod | pow deriving DecidableEq
inductive Cop where | lt | le | gt | ge | eq | ne deriving DecidableEq
inductive Tg where | v (i : Nat) | tup (is : List Nat)
def Tg.slots : Tg → List Nat | .v i => [i] | .tup is => is
mutual
inductive E where
  | v (i : Nat) | int (n : Int) | bool (b : Bool) | str (x : String) | none
  | neg (n : Int)
  | nowhere
  | bin (op : Bop) (a b : E)
  | cmp (a : E) (op : Cop) (b : E)
  | cmp2 (a : E) (op : Cop) (b : E) (op2 : Cop) (c : E)
  | isnone (neg : Bool) (a : E)
  | and (a b : E) | or (a b : E) | not (a : E)
  | ite (c a b : E)
  | idx (a i : E)
  | last (a : E)
  | slice (a lo hi : E)
  | rev (a : E)
  | attr (a : E) (n : Nat)
  | layers (a : E) | treesize (a : E)
  | tup (es : Es) | lst (es : Es) | nlst (es : Es)
  | ndict
  | frz (a : E)
  | callf (f : Nat) (es : Es)
  | meth (o : E) (m : Nat) (es : Es)
  | cmeth (f m : Nat) (es : Es)
  | len (a : E) | min2 (a b : E) | max2 (a b : E) | max1 (a : E) | bytes (a : E) | tuple (a : E) | sorted (a : E)
  | listr (it : It)
  | lappend (o x : E) | dget (o k d : E) | lindex (o x : E)
  | nrep (x n : E)
  | ncat (a b : E)
  | comp (new : Bool) (elt : E) (gs : Gs)
inductive Es where | nil | cons (e : E) (r : Es)
inductive It where | e (a : E) | r1 (a : E) | r2 (a b : E) | r3 (a b c : E)
inductive Gs where | nil | cons (t : Tg) (it : It) (c : E) (r : Gs)
end
mutual
inductive S where
  | asg (t : Tg) (e : E)
  | setattr (o : E) (n : Nat) (e : E)
  | setidx (o i e : E)
  | aug (i : Nat) (op : Bop) (e : E)
  | ife (c : E) (a b : Ss)
  | forr (t : Tg) (it : It) (body : Ss)
  | wh (c : E) (body : Ss)
  | ret (e : E) | retn
  | brk | pass | raise
  | expr (e : E)
inductive Ss where | nil | cons (s : S) (r : Ss) | fz (i : Nat) (r : Ss)
end
inductive Fl where | next | brk | ret (v : V)
def asList (σ : AHeap) : V → Option (List V)
  | .list l => some l
  | .ref a => match σ a with | some (.list l) => some l | _ => none
  | _ => none
def isDict (σ : AHeap) : V → Bool
  | .ref a => match σ a with | some (.dict ..) => true | _ => false
  | _ => false
def asItems (σ : AHeap) : V → Option (List V)
  | .tup l => some l
  | .bytes l => some (l.map fun (n : Nat) => .int (n : Int))
  | v => asList σ v
def asFrozen : V → Option (List V)
  | .tup l => some l
  | .bytes l => some (l.map fun (n : Nat) => .int (n : Int))
  | .list l => some l
  | _ => none
def thaw (σ : AHeap) : V → V
  | .ref a => match σ a with | some (.list l) => .list l | _ => .ref a
  | v => v
def V.dataN : Nat → V → Bool
  | _, .int _ => true
  | n + 1, .tup l => l.all (V.dataN n)
  | n + 1, .list l => l.all (V.dataN n)
  | _, _ => false
abbrev V.data (v : V) : Bool := v.dataN 8
mutual
def V.beq : V → V → Bool
  | .int a, .int b => decide (a = b)
  | .tup l, .tup l' => V.beqs l l'
  | .list l, .list l' => V.beqs l l'
  | _, _ => false
def V.beqs : List V → List V → Bool
  | [], [] => true
  | a :: r, b :: r' => a.beq b && V.beqs r r'
  | _, _ => false
end
def V.isNone : V → Bool
  | .none => true
  | _ => false
def intsOf : List V → Option (List Int)
  | [] => some []
  | .int i :: r => (intsOf r).map (i :: ·)
  | _ => none
def pairsOf : List V → Option (List (Int × Int))
  | [] => some []
  | .tup [.int i, .int j] :: r => (pairsOf r).map ((i, j) :: ·)
  | _ => none
def pairV (p : Int × Int) : V := .tup [.int p.1, .int p.2]
def pairLe (p q : Int × Int) : Prop := p.1 < q.1 ∨ (p.1 = q.1 ∧ p.2 ≤ q.2)
def ipow (a : Int) (b : Int) : Int := a ^ b.toNat
def copI (op : Cop) (a b : Int) : Bool := match op with
  | .lt => decide (a < b) | .le => decide (a ≤ b) | .gt => decide (b < a) | .ge => decide (b ≤ a) | .eq => decide (a = b) | .ne => !decide (a = b)
def mkList (new : Bool) (l : List V) (σ : AHeap) (Q : V → AHeap → Prop) : Prop :=
  l.length ≤ 1000 ∧ if new then ∀ a, σ a = none → Q (.ref a) (upd σ a (.list l)) else Q (.list l) σ
def binI (op : Bop) (a b : Int) (Q : Int → Prop) : Prop := match op with
  | .add => Q (a + b)
  | .sub => Q (a - b)
  | .mul => IntMulOk a b ∧ Q (a * b)
  | .fdiv => b ≠ 0 ∧ Builtin.divisionGoesByPylong a b = false ∧ Q (a.fdiv b)
  | .mod => b ≠ 0 ∧ Q (a.fmod b)
  | .pow => 0 ≤ b ∧ (Builtin.Int.intBits a : Int) * b ≤ 2 ^ 27 ∧ Q (ipow a b)
def binP (op : Bop) (u v : V) (σ : AHeap) (Q : V → AHeap → Prop) : Prop :=
  match u, v with
  | .int a, .int b => binI op a b fun r => Q (.int r) σ
  | u, v => match op, asList σ u, asList σ v with
    | .add, some l, some l' => (l ++ l').length ≤ 1000 ∧ Q (.list (l ++ l')) σ
    | _, _, _ => False
def ncatP (u v : V) (σ : AHeap) (Q : V → AHeap → Prop) : Prop := match asList σ u, asList σ v with
  | some l, some l' => mkList true (l ++ l') σ Q
  | _, _ => False
def cmpP (op : Cop) (u v : V) (σ : AHeap) (Q : Bool → Prop) : Prop :=
  match u, v with
  | .int a, .int b => Q (copI op a b)
  | .str a, .str b => match op with | .eq => Q (a == b) | _ => False
  | u, v => (thaw σ u).data = true ∧ (thaw σ v).data = true ∧ match op with
    | .eq => Q ((thaw σ u).beq (thaw σ v))
    | .ne => Q (!(thaw σ u).beq (thaw σ v))
    | _ => False
def truthP (v : V) (Q : Bool → Prop) : Prop := match v with | .bool b => Q b | _ => False
def idxP (u i : V) (σ : AHeap) (Q : V → Prop) : Prop :=
  match asItems σ u, i with
  | some l, .int k => 0 ≤ k ∧ ∃ x, l[k.toNat]? = some x ∧ Q x
  | _, _ => False
def lastP (u : V) (σ : AHeap) (Q : V → Prop) : Prop := match asList σ u with
  | some l => ∃ x, l.getLast? = some x ∧ Q x
  | none => False
def bndP (lo hi : V) (Q : Nat → Option Nat → Prop) : Prop := match lo, hi with
  | .none, .none => Q 0 none
  | .int a, .none => 0 ≤ a ∧ Q a.toNat none
  | .none, .int b => 0 ≤ b ∧ Q 0 (some b.toNat)
  | .int a, .int b => 0 ≤ a ∧ 0 ≤ b ∧ Q a.toNat (some b.toNat)
  | _, _ => False
def cut {α : Type} (l : List α) (a : Nat) (b : Option Nat) : List α := match b with
  | none => l.drop a
  | some b => (l.take b).drop a
def sliceP (u lo hi : V) (σ : AHeap) (Q : V → Prop) : Prop := bndP lo hi fun a b => match u with
  | .bytes l => Q (.bytes (cut l a b))
  | u => match asList σ u with | some l => Q (.list (cut l a b)) | none => False
def revP (u : V) (σ : AHeap) (Q : V → Prop) : Prop := match u with
  | .bytes l => Q (.bytes l.reverse)
  | u => match asList σ u with | some l => Q (.list l.reverse) | none => False
def lenP (u : V) (σ : AHeap) (Q : Int → Prop) : Prop := match asItems σ u with | some l => Q l.length | none => False
def max1P (u : V) (σ : AHeap) (Q : V → Prop) : Prop := match asList σ u with
  | some l => match intsOf l with
    | some x => 0 < x.length ∧ ∀ m, m ∈ x → (∀ a ∈ x, a ≤ m) → Q (.int m)
    | none => match pairsOf l with
      | some x => 0 < x.length ∧ ∀ p, p ∈ x → (∀ q ∈ x, pairLe q p) → Q (pairV p)
      | none => False
  | none => False
def sortP (u : V) (σ : AHeap) (Q : V → Prop) : Prop := match asList σ u with
  | some l => l.length < 64 ∧ match intsOf l with
    | some x => ∀ y : List Int, y.Perm x → y.Pairwise (· ≤ ·) → Q (.list (y.map .int))
    | none => match pairsOf l with
      | some x => 2 ≤ l.length ∧ x.Nodup ∧ ∀ y : List (Int × Int), y.Perm x → y.Pairwise pairLe → Q (.list (y.map pairV))
      | none => False
  | none => False
def bytesP (u : V) (σ : AHeap) (Q : V → Prop) : Prop := match u with
  | .bytes l => Q (.bytes l)
  | u => match asList σ u with
    | some l => ∃ ns : List Nat, l = ns.map (fun (n : Nat) => V.int (n : Int)) ∧ (∀ n ∈ ns, n < 256) ∧ ns.length ≤ 1000 ∧ Q (.bytes ns)
    | none => False
def dgetP (u key d : V) (σ : AHeap) (Q : V → Prop) : Prop := match u, key with
  | .ref a, .int k => match σ a with
    | some (.dict _ m) => Q ((m k).getD d)
    | _ => False
  | _, _ => False
def indexP (u x : V) (σ : AHeap) (Q : Int → Prop) : Prop := match asList σ u, x with
  | some l, .int k => match intsOf l with
    | some ns => k ∈ ns ∧ Q (ns.idxOf k : Nat)
    | none => False
  | _, _ => False
def appendP (u x : V) (σ : AHeap) (Q : V → AHeap → Prop) : Prop := match u with
  | .ref a => match σ a with
    | some (.list l) => l.length < 1000 ∧ Q .none (upd σ a (.list (l ++ [x])))
    | _ => False
  | _ => False
def attrP (u : V) (n : Nat) (σ : AHeap) (Q : V → Prop) : Prop := match u with
  | .ref a => match σ a with
    | some (.inst _ fs) => ∃ v, fs.lookup n = some v ∧ v ≠ .undef ∧ Q v
    | _ => False
  | _ => False
def cattrP (u : V) (n : Nat) (w : V) (σ : AHeap) (Q : V → Prop) : Prop := match u with
  | .ref a => match σ a with
    | some (.inst C fs) => C = 307 ∧ fs.lookup n = none ∧ Q w
    | _ => False
  | _ => False
def methP (u : V) (m : Nat) (σ : AHeap) (Q : Addr → Addr → Prop) : Prop := match u with
  | .ref a => match σ a with
    | some (.inst C fs) => fs.lookup m = none ∧ ∃ f, meth C m = some f ∧ Q a f
    | _ => False
  | _ => False
def frzP (u : V) (σ : AHeap) (Q : V → AHeap → Prop) : Prop := match u with
  | .ref a => match σ a with
    | some (.list l) => Q (.list l) (del σ a)
    | _ => False
  | _ => False
def rangeL (a b c : Int) : List V := if 0 < c then (List.range ((b - a + c - 1) / c).toNat).map (fun (i : Nat) => V.int (a + c * (i : Int))) else (List.range ((a - b - c - 1) / (-c)).toNat).map (fun (i : Nat) => V.int (a + c * (i : Int)))
def small (i : Int) : Prop := -1000 ≤ i ∧ i ≤ 1000
def range1P (a : V) (Q : List V → Prop) : Prop := match a with | .int n => small n ∧ Q ((List.range n.toNat).map fun (i : Nat) => V.int (i : Int)) | _ => False
def range2P (a b : V) (Q : List V → Prop) : Prop := match a, b with | .int x, .int y => small x ∧ small y ∧ Q ((List.range (y - x).toNat).map fun (i : Nat) => V.int (x + (i : Int))) | _, _ => False
def range3P (a b c : V) (Q : List V → Prop) : Prop := match a, b, c with | .int x, .int y, .int z => small x ∧ small y ∧ z = -1 ∧ Q ((List.range (x - y).toNat).map fun (i : Nat) => V.int (x - (i : Int))) | _, _, _ => False
def setAll : List V → List Nat → List V → List V
  | ρ, i :: is, v :: vs => setAll (ρ.set i v) is vs
  | ρ, _, _ => ρ
def asgP (t : Tg) (v : V) (ρ : List V) (Q : List V → Prop) : Prop := match t with
  | .v i => Q (ρ.set i v)
  | .tup is => match v with
    | .tup l => l.length = is.length ∧ Q (setAll ρ is l)
    | .list l => l.length = is.length ∧ Q (setAll ρ is l)
    | _ => False
def clr (ρ : List V) (is : List Nat) : List V := is.foldl (fun r i => r.set i .undef) ρ
def Gs.slots : Gs → List Nat
  | .nil => []
  | .cons t _ _ r => t.slots ++ r.slots
def Room (k : Nat) (A : Around) : Prop := A.handled = none ∧ A.depth + 4 * k + 10 ≤ recursionLimit ∧ A.units + 20 * k + 200 ≤ cLine
def PostE (X : Cx) (N : Hid) (σ : AHeap) (s : Shared) (Q : V → AHeap → Prop) (val : Value) (s' : Shared) : Prop :=
  ∃ v σ', St X N σ' s' ∧ Step X σ s σ' s' ∧ VRel (hid N σ') s'.heap v val ∧ Q v σ'
def WC (X : Cx) (k : Nat) (f : Value) (args : List V) (σ : AHeap) (Q : V → AHeap → Prop) : Prop :=
  ∀ N A s vals, Room k A → St X N σ s → VRels (hid N σ) s.heap args vals → wpAny (model X.prog X.w) A (call f vals) (PostE X N σ s Q) (fun _ _ => False) s
theorem WC.mono {X : Cx} {k : Nat} {f : Value} {args : List V} {σ : AHeap} {Q Q' : V → AHeap → Prop} (h : WC X k f args σ Q) (hQ : ∀ v σ', Q v σ' → Q' v σ') : WC X k f args σ Q' :=
  fun N A s vals R S V => wpAny_mono (h N A s vals R S V) (fun _ _ ⟨v, σ', a, b, c, d⟩ => ⟨v, σ', a, b, c, hQ v σ' d⟩) fun _ _ x => x
mutual
def wpE (X : Cx) (k : Nat) : E → List V → AHeap → (V → AHeap → Prop) → Prop
  | .v i, ρ, σ, Q => ∃ v, ρ[i]? = some v ∧ v ≠ .undef ∧ Q v σ
  | .int n, _, σ, Q => Q (.int n) σ
  | .bool b, _, σ, Q => Q (.bool b) σ
  | .str x, _, σ, Q => Q (.str (PySem.Str.ofString x)) σ
  | .none, _, σ, Q => Q .none σ
  | .neg n, _, σ, Q => Q (.int (-n)) σ
  | .nowhere, _, σ, Q => Q (.int (-1)) σ
  | .bin op a b, ρ, σ, Q => wpE X k a ρ σ fun u σ₁ => wpE X k b ρ σ₁ fun v σ₂ => binP op u v σ₂ Q
  | .cmp a op b, ρ, σ, Q => wpE X k a ρ σ fun u σ₁ => wpE X k b ρ σ₁ fun v σ₂ => cmpP op u v σ₂ fun r => Q (.bool r) σ₂
  | .cmp2 a op b op2 c, ρ, σ, Q => wpE X k a ρ σ fun u σ₁ => wpE X k b ρ σ₁ fun v σ₂ => cmpP op u v σ₂ fun r => if r = true then wpE X k c ρ σ₂ fun w σ₃ => cmpP op2 v w σ₃ fun r2 => Q (.bool r2) σ₃ else Q (.bool false) σ₂
  | .isnone neg a, ρ, σ, Q => wpE X k a ρ σ fun u σ₁ => u ≠ .undef ∧ Q (.bool (u.isNone != neg)) σ₁
  | .and a b, ρ, σ, Q => wpE X k a ρ σ fun u σ₁ => truthP u fun r => if r = true then wpE X k b ρ σ₁ Q else Q (.bool false) σ₁
  | .or a b, ρ, σ, Q => wpE X k a ρ σ fun u σ₁ => truthP u fun r => if r = true then Q (.bool true) σ₁ else wpE X k b ρ σ₁ Q
  | .not a, ρ, σ, Q => wpE X k a ρ σ fun u σ₁ => truthP u fun r => Q (.bool (!r)) σ₁
  | .ite c a b, ρ, σ, Q => wpE X k c ρ σ fun u σ₁ => truthP u fun r => if r = true then wpE X k a ρ σ₁ Q else wpE X k b ρ σ₁ Q
  | .idx a i, ρ, σ, Q => wpE X k a ρ σ fun u σ₁ => wpE X k i ρ σ₁ fun v σ₂ => idxP u v σ₂ fun x => Q x σ₂
  | .last a, ρ, σ, Q => wpE X k a ρ σ fun u σ₁ => lastP u σ₁ fun x => Q x σ₁
  | .slice a lo hi, ρ, σ, Q => wpE X k a ρ σ fun u σ₁ => wpE X k lo ρ σ₁ fun x σ₂ => wpE X k hi ρ σ₂ fun y σ₃ => sliceP u x y σ₃ fun r => Q r σ₃
  | .rev a, ρ, σ, Q => wpE X k a ρ σ fun u σ₁ => revP u σ₁ fun r => Q r σ₁
  | .attr a n, ρ, σ, Q => wpE X k a ρ σ fun u σ₁ => attrP u n σ₁ fun r => Q r σ₁
  | .layers a, ρ, σ, Q => wpE X k a ρ σ fun u σ₁ => cattrP u 28 (.tup [.int 2, .int 3]) σ₁ fun r => Q r σ₁
  | .treesize a, ρ, σ, Q => wpE X k a ρ σ fun u σ₁ => cattrP u 29 (.int 4) σ₁ fun r => Q r σ₁
  | .tup es, ρ, σ, Q => wpEs X k es ρ σ fun l σ₁ => l.length ≤ 1000 ∧ Q (.tup l) σ₁
  | .lst es, ρ, σ, Q => wpEs X k es ρ σ fun l σ₁ => mkList false l σ₁ Q
  | .nlst es, ρ, σ, Q => wpEs X k es ρ σ fun l σ₁ => mkList true l σ₁ Q
  | .ndict, _, σ, Q => ∀ a, σ a = none → Q (.ref a) (upd σ a (.dict 0 fun _ => none))
  | .frz a, ρ, σ, Q => wpE X k a ρ σ fun u σ₁ => frzP u σ₁ Q
  | .callf f es, ρ, σ, Q => wpEs X k es ρ σ fun l σ₁ => WC X k (.ref (ga f)) l σ₁ Q
  | .meth o m es, ρ, σ, Q => wpE X k o ρ σ fun u σ₁ => methP u m σ₁ fun a f => wpEs X k es ρ σ₁ fun l σ₂ => WC X k (.ref f) (.ref a :: l) σ₂ Q
  | .cmeth c m es, ρ, σ, Q => ∃ f, meth (ga c) m = some f ∧ wpEs X k es ρ σ fun l σ₁ => WC X k (.ref f) l σ₁ Q
  | .len a, ρ, σ, Q => wpE X k a ρ σ fun u σ₁ => lenP u σ₁ fun r => Q (.int r) σ₁
  | .min2 a b, ρ, σ, Q => wpE X k a ρ σ fun u σ₁ => wpE X k b ρ σ₁ fun v σ₂ => (match u, v with | .int x, .int y => Q (.int (min x y)) σ₂ | _, _ => False)
  | .max2 a b, ρ, σ, Q => wpE X k a ρ σ fun u σ₁ => wpE X k b ρ σ₁ fun v σ₂ => (match u, v with | .int x, .int y => Q (.int (max x y)) σ₂ | _, _ => False)
  | .max1 a, ρ, σ, Q => wpE X k a ρ σ fun u σ₁ => max1P u σ₁ fun r => Q r σ₁
  | .bytes a, ρ, σ, Q => wpE X k a ρ σ fun u σ₁ => bytesP u σ₁ fun r => Q r σ₁
  | .tuple a, ρ, σ, Q => wpE X k a ρ σ fun u σ₁ => (match u with | .tup l => Q (.tup l) σ₁ | _ => False)
  | .sorted a, ρ, σ, Q => wpE X k a ρ σ fun u σ₁ => sortP u σ₁ fun r => Q r σ₁
  | .listr it, ρ, σ, Q => wpI X k it ρ σ fun l σ₁ => mkList false l σ₁ Q
  | .lappend o x, ρ, σ, Q => wpE X k o ρ σ fun u σ₁ => (asList σ₁ u).isSome = true ∧ wpE X k x ρ σ₁ fun v σ₂ => appendP u v σ₂ Q
  | .dget o key d, ρ, σ, Q => wpE X k o ρ σ fun u σ₁ => isDict σ₁ u = true ∧ wpE X k key ρ σ₁ fun v σ₂ => wpE X k d ρ σ₂ fun z σ₃ => dgetP u v z σ₃ fun r => Q r σ₃
  | .lindex o x, ρ, σ, Q => wpE X k o ρ σ fun u σ₁ => (asList σ₁ u).isSome = true ∧ wpE X k x ρ σ₁ fun v σ₂ => indexP u v σ₂ fun r => Q (.int r) σ₂
  | .nrep x n, ρ, σ, Q => wpE X k x ρ σ fun u σ₁ => wpE X k n ρ σ₁ fun v σ₂ => (match u, v with | .int i, .int m => 0 ≤ m ∧ mkList true (List.replicate m.toNat (.int i)) σ₂ Q | _, _ => False)
  | .ncat a b, ρ, σ, Q => wpE X k a ρ σ fun u σ₁ => wpE X k b ρ σ₁ fun v σ₂ => ncatP u v σ₂ Q
  | .comp new elt gs, ρ, σ, Q => wpG X k (fun ρ σ Q => wpE X k elt ρ σ Q) gs (some ρ) (clr ρ gs.slots) σ [] fun l σ₁ => mkList new l σ₁ Q
def wpEs (X : Cx) (k : Nat) : Es → List V → AHeap → (List V → AHeap → Prop) → Prop
  | .nil, _, σ, Q => Q [] σ
  | .cons e r, ρ, σ, Q => wpE X k e ρ σ fun v σ₁ => wpEs X k r ρ σ₁ fun l σ₂ => Q (v :: l) σ₂
def wpI (X : Cx) (k : Nat) : It → List V → AHeap → (List V → AHeap → Prop) → Prop
  | .e a, ρ, σ, Q => wpE X k a ρ σ fun u σ₁ => (match asFrozen u with | some l => Q l σ₁ | none => False)
  | .r1 a, ρ, σ, Q => wpE X k a ρ σ fun u σ₁ => range1P u fun l => Q l σ₁
  | .r2 a b, ρ, σ, Q => wpE X k a ρ σ fun u σ₁ => wpE X k b ρ σ₁ fun v σ₂ => range2P u v fun l => Q l σ₂
  | .r3 a b c, ρ, σ, Q => wpE X k a ρ σ fun u σ₁ => wpE X k b ρ σ₁ fun v σ₂ => wpE X k c ρ σ₂ fun z σ₃ => range3P u v z fun l => Q l σ₃
def wpG (X : Cx) (k : Nat) (elt : List V → AHeap → (V → AHeap → Prop) → Prop) : Gs → Option (List V) → List V → AHeap → List V → (List V → AHeap → Prop) → Prop
  | .nil, _, ρ, σ, acc, Q => elt ρ σ fun v σ₁ => Q (acc ++ [v]) σ₁
  | .cons t it c r, first, ρ, σ, acc, Q => wpI X k it (first.getD ρ) σ fun items σ₁ =>
      items.foldr (fun x (K : List V → AHeap → Prop) acc σ => asgP t x ρ fun ρ' => wpE X k c ρ' σ fun u σ₂ => truthP u fun b => if b = true then acc.length < 1000 ∧ wpG X k elt r none ρ' σ₂ acc K else K acc σ₂) Q acc σ₁
end
end Mine
end

section
open PySem PySem.Calls PyProof.Rows PySem.W
namespace Mine
def setidxP (u i x : V) (σ : AHeap) (Q : AHeap → Prop) : Prop := match u, i with
  | .ref a, .int k => match σ a with
    | some (.list l) => 0 ≤ k ∧ k < l.length ∧ Q (upd σ a (.list (l.set k.toNat x)))
    | some (.dict n m) => n < 1000 ∧ Q (upd σ a (.dict (n + 1) fun j => if j = k then some x else m j))
    | _ => False
  | _, _ => False
def putF (n : Nat) (v : V) : List (Nat × V) → List (Nat × V)
  | [] => [(n, v)]
  | (k, w) :: r => if k = n then (k, v) :: r else (k, w) :: putF n v r
def setattrP (u : V) (n : Nat) (x : V) (σ : AHeap) (Q : AHeap → Prop) : Prop := match u with
  | .ref a => match σ a with
    | some (.inst C fs) => n < 14 ∧ fs.length < 100 ∧ Q (upd σ a (.inst C (putF n x fs)))
    | _ => False
  | _ => False
def fzP (i : Nat) (ρ : List V) (σ : AHeap) (Q : List V → AHeap → Prop) : Prop := match ρ[i]? with
  | some (.ref a) => match σ a with
    | some (.list l) => Q (ρ.set i (.list l)) (del σ a)
    | _ => False
  | _ => False
def whileP (test : List V → AHeap → (Bool → AHeap → Prop) → Prop) (body : List V → AHeap → (Fl → List V → AHeap → Prop) → Prop) (Q : Fl → List V → AHeap → Prop) : Nat → List V → AHeap → Prop
  | 0, _, _ => False
  | n + 1, ρ, σ => test ρ σ fun b σ₁ => if b = true then body ρ σ₁ (fun fl ρ' σ' => match fl with
      | .next => whileP test body Q n ρ' σ'
      | .brk => Q .next ρ' σ'
      | .ret v => Q (.ret v) ρ' σ') else Q .next ρ σ₁
def forP (t : Tg) (body : List V → AHeap → (Fl → List V → AHeap → Prop) → Prop) (Q : Fl → List V → AHeap → Prop) : List V → List V → AHeap → Prop
  | [], ρ, σ => Q .next ρ σ
  | x :: r, ρ, σ => asgP t x ρ fun ρ₁ => body ρ₁ σ (fun fl ρ' σ' => match fl with
      | .next => forP t body Q r ρ' σ'
      | .brk => Q .next ρ' σ'
      | .ret v => Q (.ret v) ρ' σ')
mutual
def wpS (X : Cx) (k : Nat) : S → List V → AHeap → (Fl → List V → AHeap → Prop) → Prop
  | .asg t e, ρ, σ, Q => wpE X k e ρ σ fun v σ₁ => asgP t v ρ fun ρ' => Q .next ρ' σ₁
  | .setattr o n e, ρ, σ, Q => wpE X k e ρ σ fun v σ₁ => wpE X k o ρ σ₁ fun u σ₂ => setattrP u n v σ₂ fun σ₃ => Q .next ρ σ₃
  | .setidx o i e, ρ, σ, Q => wpE X k e ρ σ fun v σ₁ => wpE X k o ρ σ₁ fun u σ₂ => wpE X k i ρ σ₂ fun j σ₃ => setidxP u j v σ₃ fun σ₄ => Q .next ρ σ₄
  | .aug i op e, ρ, σ, Q => ∃ u, ρ[i]? = some u ∧ u ≠ .undef ∧ wpE X k e ρ σ fun v σ₁ => (match u, v with
      | .int a, .int b => op = .add ∧ Q .next (ρ.set i (.int (a + b))) σ₁
      | _, _ => False)
  | .ife c a b, ρ, σ, Q => wpE X k c ρ σ fun u σ₁ => truthP u fun r => if r = true then wpSs X k a ρ σ₁ Q else wpSs X k b ρ σ₁ Q
  | .forr t it body, ρ, σ, Q => wpI X k it ρ σ fun items σ₁ => forP t (fun ρ σ Q => wpSs X k body ρ σ Q) Q items ρ σ₁
  | .wh c body, ρ, σ, Q => ∃ n, whileP (fun ρ σ Q => wpE X k c ρ σ fun u σ₁ => truthP u fun b => Q b σ₁) (fun ρ σ Q => wpSs X k body ρ σ Q) Q n ρ σ
  | .ret e, ρ, σ, Q => wpE X k e ρ σ fun v σ₁ => Q (.ret v) ρ σ₁
  | .retn, ρ, σ, Q => Q (.ret .none) ρ σ
  | .brk, ρ, σ, Q => Q .brk ρ σ
  | .pass, ρ, σ, Q => Q .next ρ σ
  | .raise, _, _, _ => False
  | .expr e, ρ, σ, Q => wpE X k e ρ σ fun _ σ₁ => Q .next ρ σ₁
def wpSs (X : Cx) (k : Nat) : Ss → List V → AHeap → (Fl → List V → AHeap → Prop) → Prop
  | .nil, ρ, σ, Q => Q .next ρ σ
  | .cons s r, ρ, σ, Q => wpS X k s ρ σ fun fl ρ' σ' => match fl with
      | .next => wpSs X k r ρ' σ' Q
      | .brk => Q .brk ρ' σ'
      | .ret v => Q (.ret v) ρ' σ'
  | .fz i r, ρ, σ, Q => fzP i ρ σ fun ρ' σ' => wpSs X k r ρ' σ' Q
end
def nmD : PySem.Str := PySem.Str.ofString "__debug__"
def nmC : PySem.Str := PySem.Str.ofString "__classdict__"
def isVar (sc : Scope) (nm : List (PySem.Str × Nat)) (id : PySem.Str) (i : Nat) : Bool :=
  nm.lookup id == some i && (match sc.names.lookup id with | some .local => true | some .cell => true | some .free => true | _ => false) && !(id == nmD) && !(id == nmC)
def isGlob (sc : Scope) (id n : PySem.Str) : Bool := id == n && sc.names.lookup id == some .globalImplicit && !(id == nmD)
def bopOf : Bop → Operator | .add => .Add | .sub => .Sub | .mul => .Mult | .fdiv => .FloorDiv | .mod => .Mod | .pow => .Pow
def copOf : Cop → CmpOp | .lt => .Lt | .le => .LtE | .gt => .Gt | .ge => .GtE | .eq => .Eq | .ne => .NotEq
def tgsNm : List Nat → List PySem.Expr → List (PySem.Str × Nat)
  | i :: is, .Name id _ :: r => (id, i) :: tgsNm is r
  | _, _ => []
def tgNm (t : Tg) (x : PySem.Expr) : List (PySem.Str × Nat) := match t, x with
  | .v i, .Name id _ => [(id, i)]
  | .tup is, .Tuple r _ _ => tgsNm is r
  | _, _ => []
def gsNm : Gs → List Comprehension → List (PySem.Str × Nat)
  | .cons t _ _ r, ⟨tg, _, _, _⟩ :: rest => tgNm t tg ++ gsNm r rest
  | _, _ => []
def relabelS (sc' sc : Scope) : Scope :=
  { sc' with names := sc'.names.map fun (n, k) => if (k == .free && sc.kind == .function && sc.names.lookup n == some .cell) then (n, .cell) else (n, k) }
def blockOk (sc' sc : Scope) : Bool :=
  sc'.kind == .function && sc'.names.all (fun y => y.2 != .cell) && sc'.names.all (fun y => y.2 != .local || sc'.names.lookup y.1 == some .local) &&
  sc'.names.all (fun y => y.2 != .free || sc.names.lookup y.1 == some .cell || sc.names.lookup y.1 == some .free)
def matTg (sc : Scope) (nm : List (PySem.Str × Nat)) (loc : Bool) : Tg → PySem.Expr → Bool
  | .v i, .Name id _ => nm.lookup id == some i && (sc.names.lookup id == some .local || (!loc && sc.names.lookup id == some .cell))
  | .tup is, .Tuple es _ _ => matTgs is es
  | _, _ => false
where matTgs : List Nat → List PySem.Expr → Bool
  | [], [] => true
  | i :: is, .Name id _ :: es => nm.lookup id == some i && (sc.names.lookup id == some .local || (!loc && sc.names.lookup id == some .cell)) && matTgs is es
  | _, _ => false
def notSlice : PySem.Expr → Bool
  | .Slice .. => false
  | _ => true
def notComp : PySem.Expr → Bool
  | .ListComp .. => false
  | _ => true
def isCall : PySem.Expr → Bool
  | .Call .. => true
  | _ => false
def notE : It → Bool
  | .e _ => false
  | _ => true
def isNoneE : E → Bool
  | .none => true
  | _ => false
def isTrueE : E → Bool
  | .bool true => true
  | _ => false
def tst : E → Bool
  | .frz _ => false
  | .not a => tst a
  | .and a b => tst a && tst b
  | .or a b => tst a && tst b
  | .ite c a b => tst c && tst a && tst b
  | _ => true
def optE (f : PySem.Expr → Bool) (n : Bool) : Option PySem.Expr → Bool
  | some e => f e
  | none => n
def ifsE (t : Bool) (f : PySem.Expr → Bool) (n : Bool) : List PySem.Expr → Bool
  | [] => n
  | [e] => t && f e
  | _ => false
def baseOk : PySem.Expr → Bool
  | .Name .. => true
  | .Attribute .. => true
  | _ => false
mutual
def matE (sc : Scope) (nm : List (PySem.Str × Nat)) : E → PySem.Expr → Bool
  | .v i, x => match x with | .Name id _ => isVar sc nm id i | _ => false
  | .int n, x => match x with | .Constant (.int i) _ _ => i == n | _ => false
  | .bool b, x => match x with | .Constant (.bool c) _ _ => c == b | _ => false
  | .str t, x => match x with | .Constant (.str u) _ _ => u == PySem.Str.ofString t | _ => false
  | .none, x => match x with | .Constant .none _ _ => true | _ => false
  | .neg n, x => match x with | .UnaryOp .USub (.Constant (.int i) _ _) _ => i == n | _ => false
  | .nowhere, x => match x with | .Name id _ => isGlob sc id (PySem.Str.ofString "NOWHERE") | _ => false
  | .bin op a b, x => match x with | .BinOp l o r _ => o == bopOf op && matE sc nm a l && matE sc nm b r | _ => false
  | .cmp a op b, x => match x with | .Compare l [o] [r] _ => o == copOf op && matE sc nm a l && matE sc nm b r | _ => false
  | .cmp2 a op b op2 c, x => match x with | .Compare l [o, o2] [r, r2] _ => o == copOf op && o2 == copOf op2 && matE sc nm a l && matE sc nm b r && matE sc nm c r2 | _ => false
  | .isnone neg a, x => match x with | .Compare l [o] [.Constant .none _ _] _ => o == (if neg then .IsNot else .Is) && matE sc nm a l | _ => false
  | .and a b, x => match x with
    | .BoolOp .And [l, r] _ => matE sc nm a l && matE sc nm b r
    | .BoolOp .And [l, r, r2] p => matE sc nm a l && matE sc nm b (.BoolOp .And [r, r2] p)
    | _ => false
  | .or a b, x => match x with | .BoolOp .Or [l, r] _ => matE sc nm a l && matE sc nm b r | _ => false
  | .not a, x => match x with | .UnaryOp .Not l _ => matE sc nm a l | _ => false
  | .ite c a b, x => match x with | .IfExp t l r _ => tst c && matE sc nm c t && matE sc nm a l && matE sc nm b r | _ => false
  | .idx a i, x => match x with | .Subscript l s _ => notSlice s && matE sc nm a l && matE sc nm i s | _ => false
  | .last a, x => match x with | .Subscript l (.UnaryOp .USub (.Constant (.int i) _ _) _) _ => i == 1 && matE sc nm a l | _ => false
  | .slice a lo hi, x => match x with
    | .Subscript l (.Slice lo' hi' none _) _ => matE sc nm a l && optE (matE sc nm lo) (isNoneE lo) lo' && optE (matE sc nm hi) (isNoneE hi) hi'
    | _ => false
  | .rev a, x => match x with | .Subscript l (.Slice none none (some (.UnaryOp .USub (.Constant (.int i) _ _) _)) _) _ => i == 1 && matE sc nm a l | _ => false
  | .attr a n, x => match x with | .Attribute l t _ => t == an n && decide (n < 14) && baseOk l && matE sc nm a l | _ => false
  | .layers a, x => match x with | .Attribute l t _ => t == an 28 && baseOk l && matE sc nm a l | _ => false
  | .treesize a, x => match x with | .Attribute l t _ => t == an 29 && baseOk l && matE sc nm a l | _ => false
  | .tup es, x => match x with | .Tuple l _ _ => matEs sc nm es l | _ => false
  | .lst es, x => match x with | .List l _ => matEs sc nm es l | _ => false
  | .nlst es, x => match x with | .List l _ => matEs sc nm es l | _ => false
  | .ndict, x => match x with | .Dict [] [] _ => true | _ => false
  | .frz a, x => matE sc nm a x
  | .callf f es, x => match x with | .Call (.Name id _) l [] _ => isGlob sc id (gn f) && decide (f < 18) && matEs sc nm es l | _ => false
  | .meth o m es, x => match x with | .Call (.Attribute b t ap) l [] p => t == an m && decide (l.length < 30) && baseOk b && ap.endLine == p.line && matE sc nm o b && matEs sc nm es l | _ => false
  | .cmeth c m es, x => match x with | .Call (.Attribute (.Name id _) t ap) l [] p => c == 1 && m == 27 && isGlob sc id (gn 1) && t == an 27 && decide (l.length < 30) && ap.endLine == p.line && matEs sc nm es l | _ => false
  | .len a, x => match x with | .Call (.Name id _) [l] [] _ => isGlob sc id (PySem.Str.ofString "len") && matE sc nm a l | _ => false
  | .min2 a b, x => match x with | .Call (.Name id _) [l, r] [] _ => isGlob sc id (PySem.Str.ofString "min") && matE sc nm a l && matE sc nm b r | _ => false
  | .max2 a b, x => match x with | .Call (.Name id _) [l, r] [] _ => isGlob sc id (PySem.Str.ofString "max") && matE sc nm a l && matE sc nm b r | _ => false
  | .max1 a, x => match x with | .Call (.Name id _) [l] [] _ => isGlob sc id (PySem.Str.ofString "max") && matE sc nm a l | _ => false
  | .bytes a, x => match x with | .Call (.Name id _) [l] [] _ => isGlob sc id (PySem.Str.ofString "bytes") && matE sc nm a l | _ => false
  | .tuple a, x => match x with | .Call (.Name id _) [l] [] _ => isGlob sc id (PySem.Str.ofString "tuple") && matE sc nm a l | _ => false
  | .sorted a, x => match x with | .Call (.Name id _) [l] [] _ => isGlob sc id (PySem.Str.ofString "sorted") && matE sc nm a l | _ => false
  | .listr it, x => match x with | .Call (.Name id _) [l] [] _ => isGlob sc id (PySem.Str.ofString "list") && notE it && matI sc nm it l | _ => false
  | .lappend o e, x => match x with | .Call (.Attribute b t ap) [l] [] p => t == PySem.Str.ofString "append" && baseOk b && ap.endLine == p.line && matE sc nm o b && matE sc nm e l | _ => false
  | .dget o key d, x => match x with | .Call (.Attribute b t ap) [l, r] [] p => t == PySem.Str.ofString "get" && baseOk b && ap.endLine == p.line && matE sc nm o b && matE sc nm key l && matE sc nm d r | _ => false
  | .lindex o e, x => match x with | .Call (.Attribute b t ap) [l] [] p => t == PySem.Str.ofString "index" && baseOk b && ap.endLine == p.line && matE sc nm o b && matE sc nm e l | _ => false
  | .nrep e n, x => match x with | .BinOp (.List [l] _) .Mult r _ => matE sc nm e l && matE sc nm n r | _ => false
  | .ncat a b, x => match x with | .BinOp l o r _ => o == .Add && matE sc nm a l && matE sc nm b r | _ => false
  | .comp _ elt gs, x => match x with
    | .ListComp l gens sc' _ =>
      let nm' := gsNm gs gens ++ nm
      blockOk sc' sc && (gsNm gs gens).all (fun y => sc'.names.lookup y.1 == some .local) && decide (((gsNm gs gens).map (·.1)).Nodup) && decide (((gsNm gs gens).map (·.2)).Nodup) &&
      (gsNm gs gens).all (fun y => nm.all fun z => z.2 != y.2) &&
      decide ((gsNm gs gens).map (·.2) = gs.slots) && sc'.names.all (fun y => y.2 != .local || (gsNm gs gens).any (·.1 == y.1) || (nm.lookup y.1).isNone) &&
      !gens.isEmpty && matG sc nm (relabelS sc' sc) nm' gs gens && matE (relabelS sc' sc) nm' elt l
    | _ => false
def matEs (sc : Scope) (nm : List (PySem.Str × Nat)) : Es → List PySem.Expr → Bool
  | .nil, l => match l with | [] => true | _ => false
  | .cons e r, l => match l with | x :: xs => matE sc nm e x && matEs sc nm r xs | _ => false
def matI (sc : Scope) (nm : List (PySem.Str × Nat)) : It → PySem.Expr → Bool
  | .e a, x => matE sc nm a x
  | .r1 a, x => match x with | .Call (.Name id _) [l] [] _ => isGlob sc id (PySem.Str.ofString "range") && matE sc nm a l | _ => false
  | .r2 a b, x => match x with | .Call (.Name id _) [l, r] [] _ => isGlob sc id (PySem.Str.ofString "range") && matE sc nm a l && matE sc nm b r | _ => false
  | .r3 a b c, x => match x with | .Call (.Name id _) [l, r, t] [] _ => isGlob sc id (PySem.Str.ofString "range") && matE sc nm a l && matE sc nm b r && matE sc nm c t | _ => false
def matG (sc₁ : Scope) (nm₁ : List (PySem.Str × Nat)) (sc : Scope) (nm : List (PySem.Str × Nat)) : Gs → List Comprehension → Bool
  | .nil, l => match l with | [] => true | _ => false
  | .cons t it c r, l => match l with
    | ⟨tg, itx, ifs, ia⟩ :: rest => ia == 0 && matTg sc nm true t tg && matI sc₁ nm₁ it itx &&
      ifsE (tst c && !isTrueE c) (matE sc nm c) (isTrueE c) ifs && matG sc nm sc nm r rest
    | _ => false
end
def isCompE : E → Bool
  | .comp .. => true
  | _ => false
def swapOk : PySem.Expr → Bool
  | .Tuple vs _ _ => !(vs.all (constantsAlone 8)) || vs.all (foldedForSure 8)
  | .SetComp .. => false
  | .DictComp .. => false
  | _ => true
mutual
def matS (sc : Scope) (nm : List (PySem.Str × Nat)) : S → Stmt → Bool
  | .asg t e, x => match x with | .Assign [tg] v _ => matTg sc nm false t tg && decide t.slots.Nodup && swapOk v && (notComp v || isCompE e) && matE sc nm e v | _ => false
  | .setattr o n e, x => match x with | .Assign [.Attribute b t _] v _ => t == an n && matE sc nm o b && matE sc nm e v | _ => false
  | .setidx o i e, x => match x with | .Assign [.Subscript b s _] v _ => matE sc nm o b && matE sc nm i s && matE sc nm e v && notSlice s | _ => false
  | .aug i op e, x => match x with | .AugAssign (.Name id _) o v _ => isVar sc nm id i && o == bopOf op && sc.names.lookup id != some .free && matE sc nm e v | _ => false
  | .ife c a b, x => match x with | .If t l r _ => tst c && matE sc nm c t && matSs sc nm a l && matSs sc nm b r | _ => false
  | .forr t it body, x => match x with | .For tg i l [] _ => matTg sc nm false t tg && decide t.slots.Nodup && matI sc nm it i && matSs sc nm body l | _ => false
  | .wh c body, x => match x with | .While t l [] _ => tst c && matE sc nm c t && matSs sc nm body l | _ => false
  | .ret e, x => match x with | .Return (some v) _ => matE sc nm e v | _ => false
  | .retn, x => match x with | .Return none _ => true | _ => false
  | .brk, x => match x with | .Break _ => true | _ => false
  | .pass, x => match x with | .Pass _ => true | _ => false
  | .raise, x => match x with | .Raise .. => true | _ => false
  | .expr e, x => match x with | .Expr v _ => matE sc nm e v && isCall v | _ => false
def matSs (sc : Scope) (nm : List (PySem.Str × Nat)) : Ss → List Stmt → Bool
  | .nil, l => match l with | [] => true | _ => false
  | .cons s r, l => match l with | x :: xs => matS sc nm s x && matSs sc nm r xs | _ => false
  | .fz _ r, l => matSs sc nm r l
end
structure Fn where
  nm : List (String × Nat)
  np : Nat
  ns : Nat
  body : Ss
def Fn.names (f : Fn) : List (PySem.Str × Nat) := f.nm.map fun p => (PySem.Str.ofString p.1, p.2)
end Mine
end

section
open PySem PySem.Calls PyProof.Rows PySem.W
set_option maxRecDepth 20000
namespace Mine
variable {N : Hid}
abbrev NoE : Value → Shared → Prop := fun _ _ => False
structure Base (X : Cx) : Prop where
  inK : X.K.In X.H0
  nolimit : X.H0.NoLimit
  sysm : ∃ o, X.H0.get? sysModules = some o
  top : ∃ mg mb, X.H0.Ns mainGlobals mg ∧ X.H0.Ns builtinsNs mb ∧ ∀ x : PySem.Str, x ≠ "__name__" → mb x = bootBuiltins x
  gl : ∀ f, f < 18 → nsIn X.K mainGlobals (gn f) = some (some (.ref (ga f))) ∧ keepIn X.K (.ref (ga f)) = true
  nowhere : ∃ t, nsIn X.K mainGlobals (PySem.Str.ofString "NOWHERE") = some (some (.int (-1) t))
  blt : ∀ x ∈ (["len", "range", "min", "max", "list", "tuple", "bytes", "sorted"] : List String), nsIn X.K mainGlobals (PySem.Str.ofString x) = some none
  meths : ∀ C m f, meth C m = some f → findIn X.K (.ref C) (an m) = some (some (.ref f)) ∧ isFn X.K (.ref f) = true ∧ keepIn X.K (.ref f) = true
  cls : ∀ C ∈ clsL, hasDictIn X.K C = true ∧ plainGet X.K C (an 0) = true ∧ findIn X.K (.ref C) "__setattr__" = some (some (.builtin "object.__setattr__")) ∧ plainOver X.K C = true ∧ makesIn X.K C = true
  attrs : ∀ C ∈ clsL, ∀ n, n < 14 → findIn X.K (.ref C) (an n) = some none ∧ takerIn X.K C (an n) = some none
  minit : specialIn X.K (.ref 183) "__getattribute__" = some (some (.builtin "type.__getattribute__")) ∧ (∃ mc, readsIn X.K 183 mc = true ∧ findCls X.K (.ref 183) mc (an 27) = some (.val (.ref 110)))
  layers : ∃ o : Obj, X.K.lookup 284 = some o ∧ o.cls = .type "tuple" ∧ (∃ n t u, o.data = .seq #[.int 2 t, .int 3 u] n) ∧ findIn X.K (.ref 307) (an 28) = some (some (.ref 284)) ∧ specialIn X.K (.ref 284) "__get__" = some none
  treesize : ∃ t, findIn X.K (.ref 307) (an 29) = some (some (.int 4 t)) ∧ specialIn X.K (.int 4 t) "__get__" = some none
structure FrOk (X : Cx) (N : Hid) (sc : Scope) (nm : List (PySem.Str × Nat)) (env : Env) (ρ : List V) (σ : AHeap) (h : Heap) : Prop where
  scope : env.scope = sc
  kind : sc.kind = .function
  glob : env.globals = mainGlobals
  blt : env.builtins = builtinsNs
  ns : ∃ m, h.Ns env.locals m ∧ ∀ x i, nm.lookup x = some i → sc.names.lookup x = some .local → ∀ v, ρ[i]? = some v → v ≠ .undef → ∃ val, m x = some val ∧ VRel (hid N σ) h v val
  cell : ∀ x, sc.names.lookup x = some .cell ∨ sc.names.lookup x = some .free → ∃ c ov, env.cells.lookup x = some c ∧ h.IsCell c ov ∧ hid N σ c = none ∧ X.H0.get? c = none ∧
    ∀ i, nm.lookup x = some i → ∀ v, ρ[i]? = some v → v ≠ .undef → ∃ val, ov = some val ∧ VRel (hid N σ) h v val
  own : hid N σ env.locals = none ∧ X.H0.get? env.locals = none
  inj : ∀ x y i, nm.lookup x = some i → nm.lookup y = some i → x = y
  cinj : ∀ x y c, env.cells.lookup x = some c → env.cells.lookup y = some c → x = y
theorem ns_up {G : Addr} {σ σ' : AHeap} {h h' : Heap} (u : Up G σ h σ' h') (uG : ∀ m, h.Ns G m → h'.Ns G m) {a : Addr} {m} (n : h.Ns a m) (e : σ a = none) : h'.Ns a m := by
  by_cases q : a = G
  · subst q; exact uG m n
  · obtain ⟨o, es, ep, ho, r⟩ := n; exact ⟨o, es, ep, (u.at_ _ _ q ho e).1, r⟩
theorem cell_up {G : Addr} {σ σ' : AHeap} {h h' : Heap} (u : Up G σ h σ' h') {c : Addr} {ov} (n : h.IsCell c ov) (e : σ c = none) : h'.IsCell c ov ∧ σ' c = none := by
  obtain ⟨o, ho, hd⟩ := n
  have ne := u.ns.ne ho (fun es ep q => by rw [hd] at q; cases q)
  exact ⟨⟨o, (u.at_ _ _ ne ho e).1, hd⟩, (u.at_ _ _ ne ho e).2⟩
theorem FrOk.up {X : Cx} {sc : Scope} {nm : List (PySem.Str × Nat)} {env : Env} {ρ : List V} {σ σ' : AHeap} {h h' : Heap} (F : FrOk X N sc nm env ρ σ h) (u : Up X.G (hid N σ) h (hid N σ') h') (uG : ∀ m, h.Ns X.G m → h'.Ns X.G m) (g : hid N σ' X.G = none) :
    FrOk X N sc nm env ρ σ' h' where
  scope := F.scope
  kind := F.kind
  glob := F.glob
  blt := F.blt
  ns := by
    obtain ⟨m, n, r⟩ := F.ns
    exact ⟨m, ns_up u uG n F.own.1, fun x i e k v q z => let ⟨val, a, b⟩ := r x i e k v q z; ⟨val, a, b.up u⟩⟩
  cell := fun x k => by
    obtain ⟨c, ov, a, b, d, e, r⟩ := F.cell x k
    have b' := cell_up u b d
    exact ⟨c, ov, a, b'.1, b'.2, e, fun i e v q z => let ⟨val, a, b⟩ := r i e v q z; ⟨val, a, b.up u⟩⟩
  own := ⟨by
    by_cases q : env.locals = X.G
    · rw [q]; exact g
    · obtain ⟨m, ⟨o, es, ep, ho, r⟩, _⟩ := F.ns; exact (u.at_ _ _ q ho F.own.1).2, F.own.2⟩
  inj := F.inj
  cinj := F.cinj
theorem FrOk.step {X : Cx} {sc : Scope} {nm : List (PySem.Str × Nat)} {env : Env} {ρ : List V} {σ σ' : AHeap} {s s' : Shared} (F : FrOk X N sc nm env ρ σ s.heap) (S : St X N σ s) (S' : St X N σ' s') (T : Step X σ s σ' s') : FrOk X N sc nm env ρ σ' s'.heap :=
  F.up (T.up S) T.sink (hid_none.mpr ⟨S'.hid_G, S'.gfree⟩)
theorem PostE.mk {X : Cx} {σ : AHeap} {s : Shared} {Q : V → AHeap → Prop} {val : Value} {s' : Shared} {v : V} {σ' : AHeap} (a : St X N σ' s') (b : Step X σ s σ' s') (c : VRel (hid N σ') s'.heap v val) (d : Q v σ') : PostE X N σ s Q val s' := ⟨v, σ', a, b, c, d⟩
theorem PostE.up {X : Cx} {σ σ₁ : AHeap} {s s₁ : Shared} {Q : V → AHeap → Prop} {val : Value} {s' : Shared} (S : St X N σ s) (T : Step X σ s σ₁ s₁) (p : PostE X N σ₁ s₁ Q val s') : PostE X N σ s Q val s' :=
  let ⟨v, σ', a, b, c, d⟩ := p; ⟨v, σ', a, T.trans b S.gfree a.gfree, c, d⟩
theorem seqE {M : Model} {A : Around} {t : Sem Value} {X : Cx} {σ : AHeap} {s : Shared} {Q : V → AHeap → Prop} {G : Value → Shared → Prop} (h : wpAny M A t (PostE X N σ s Q) NoE s)
    (k : ∀ val s₁ v σ₁, St X N σ₁ s₁ → Step X σ s σ₁ s₁ → VRel (hid N σ₁) s₁.heap v val → Q v σ₁ → G val s₁) : wpAny M A t G NoE s :=
  wpAny_mono h (fun val s₁ ⟨v, σ₁, a, b, c, d⟩ => k val s₁ v σ₁ a b c d) fun _ _ x => x
theorem PostE.here {X : Cx} {σ : AHeap} {s : Shared} {Q : V → AHeap → Prop} {val : Value} {v : V} (S : St X N σ s) (c : VRel (hid N σ) s.heap v val) (d : Q v σ) : PostE X N σ s Q val s := ⟨v, σ, S, .refl .., c, d⟩
theorem PostE.tok {X : Cx} {σ : AHeap} {s : Shared} {Q : V → AHeap → Prop} {val : Value} {v : V} {tk : Nat} (S : St X N σ s) (c : VRel (hid N σ) s.heap v val) (d : Q v σ) : PostE X N σ s Q val { s with toks := tk } := ⟨v, σ, S.tok tk, .tok tk, c, d⟩
def PostB (X : Cx) (N : Hid) (σ : AHeap) (s : Shared) (Q : Bool → AHeap → Prop) (b : Bool) (s' : Shared) : Prop := ∃ σ', St X N σ' s' ∧ Step X σ s σ' s' ∧ Q b σ'
def PostL (X : Cx) (N : Hid) (σ : AHeap) (s : Shared) (Q : List V → AHeap → Prop) (vals : List Value) (s' : Shared) : Prop := ∃ l σ', St X N σ' s' ∧ Step X σ s σ' s' ∧ VRels (hid N σ') s'.heap l vals ∧ Q l σ'
def ET (X : Cx) (k : Nat) (e : E) : Prop := ∀ {N : Hid} {sc : Scope} {nm : List (PySem.Str × Nat)} {env : Env} {x : PySem.Expr} {ρ : List V} {σ : AHeap} {Q : V → AHeap → Prop} {A : Around} {s : Shared},
  matE sc nm e x = true → wpE X k e ρ σ Q → Room k A → St X N σ s → FrOk X N sc nm env ρ σ s.heap → wpAny (model X.prog X.w) A (eval x env) (PostE X N σ s Q) NoE s
def BT (X : Cx) (k : Nat) (e : E) : Prop := tst e = true → ∀ {N : Hid} {sc : Scope} {nm : List (PySem.Str × Nat)} {env : Env} {x : PySem.Expr} {ρ : List V} {σ : AHeap} {Q : Bool → AHeap → Prop} {A : Around} {s : Shared},
  matE sc nm e x = true → wpE X k e ρ σ (fun u σ₁ => truthP u fun b => Q b σ₁) → Room k A → St X N σ s → FrOk X N sc nm env ρ σ s.heap → wpAny (model X.prog X.w) A (isTrue x env (eval x env)) (PostB X N σ s Q) NoE s
def EsT (X : Cx) (k : Nat) (es : Es) : Prop := ∀ {N : Hid} {sc : Scope} {nm : List (PySem.Str × Nat)} {env : Env} {xs : List PySem.Expr} {pos : Pos} {ρ : List V} {σ : AHeap} {Q : List V → AHeap → Prop} {A : Around} {s : Shared},
  matEs sc nm es xs = true → wpEs X k es ρ σ Q → Room k A → St X N σ s → FrOk X N sc nm env ρ σ s.heap → wpAny (model X.prog X.w) A (spliced (backTo pos (starEach xs env))) (PostL X N σ s Q) NoE s
theorem VRel.int_inv {σ : AHeap} {h : Heap} {i : Int} {val : Value} (x : VRel (hid N σ) h (.int i) val) : ∃ t, val = .int i t := by cases x; exact ⟨_, rfl⟩
theorem VRel.bool_inv {σ : AHeap} {h : Heap} {b : Bool} {val : Value} (x : VRel (hid N σ) h (.bool b) val) : val = .bool b := by cases x; rfl
theorem VRel.str_inv {σ : AHeap} {h : Heap} {y : PySem.Str} {val : Value} (x : VRel (hid N σ) h (.str y) val) : ∃ t, val = .str y t := by cases x; exact ⟨_, rfl⟩
theorem VRel.ref_inv {σ : AHeap} {h : Heap} {a : Addr} {val : Value} (x : VRel (hid N σ) h (.ref a) val) : val = .ref a := by cases x; rfl
theorem VRel.none_inv {σ : AHeap} {h : Heap} {val : Value} (x : VRel (hid N σ) h .none val) : val = .none := by cases x; rfl
section
variable {X : Cx} {k : Nat}
theorem isVar_inv {sc : Scope} {nm : List (PySem.Str × Nat)} {id : PySem.Str} {i : Nat} (h : isVar sc nm id i = true) :
    nm.lookup id = some i ∧ (sc.names.lookup id = some .local ∨ sc.names.lookup id = some .cell ∨ sc.names.lookup id = some .free) ∧ (id == ("__debug__" : PySem.Str)) = false ∧ (id == ("__classdict__" : PySem.Str)) = false := by
  unfold isVar at h
  simp only [Bool.and_eq_true, beq_iff_eq, Bool.not_eq_true'] at h
  obtain ⟨⟨⟨h1, h2⟩, h3⟩, h4⟩ := h
  refine ⟨h1, ?_, h3, h4⟩
  split at h2 <;> simp_all
theorem isGlob_inv {sc : Scope} {id n : PySem.Str} (h : isGlob sc id n = true) : id = n ∧ sc.names.lookup id = some .globalImplicit ∧ (id == ("__debug__" : PySem.Str)) = false := by
  unfold isGlob at h
  simp only [Bool.and_eq_true, beq_iff_eq, Bool.not_eq_true'] at h
  exact ⟨h.1.1, h.1.2, h.2⟩
theorem load_var {sc : Scope} {nm : List (PySem.Str × Nat)} {env : Env} {ρ : List V} {σ : AHeap} {A : Around} {s : Shared} {id : PySem.Str} {i : Nat} {v : V} {G : Value → Shared → Prop} (F : FrOk X N sc nm env ρ σ s.heap)
    (hm : nm.lookup id = some i) (hk : sc.names.lookup id = some .local ∨ sc.names.lookup id = some .cell ∨ sc.names.lookup id = some .free) (hv : ρ[i]? = some v) (hu : v ≠ .undef)
    (h : ∀ val, VRel (hid N σ) s.heap v val → G val s) (hcd : (id == ("__classdict__" : PySem.Str)) = false) : wpAny (model X.prog X.w) A (loadName env id) G NoE s := by
  have hke : env.scope.kind = .function := by rw [F.scope]; exact F.kind
  have kind : env.kindOf id = sc.names.lookup id := by unfold Env.kindOf; rw [F.scope]
  rcases hk with hk | hk | hk
  · obtain ⟨m, n, r⟩ := F.ns
    obtain ⟨val, a, b⟩ := r id i hm hk v hv hu
    exact wpAny_loadName_local hke (kind.trans hk) n a (h val b)
  · obtain ⟨c, ov, a, b, _, _, r⟩ := F.cell id (.inl hk)
    obtain ⟨val, rfl, q⟩ := r i hm v hv hu
    exact wpAny_loadName_cell hke (kind.trans hk) a b (h val q)
  · obtain ⟨c, ov, a, b, _, _, r⟩ := F.cell id (.inr hk)
    obtain ⟨val, rfl, q⟩ := r i hm v hv hu
    exact wpAny_loadName_free hke (kind.trans hk) a b (h val q) hcd
theorem load_glob (B : Base X) {sc : Scope} {nm : List (PySem.Str × Nat)} {env : Env} {ρ : List V} {σ : AHeap} {A : Around} {s : Shared} {id : PySem.Str} {pos : Pos} {val : Value} {G : Value → Shared → Prop} (S : St X N σ s) (F : FrOk X N sc nm env ρ σ s.heap)
    (hk : sc.names.lookup id = some .globalImplicit) (hd : (id == ("__debug__" : PySem.Str)) = false) (e : nsIn X.K mainGlobals id = some (some val)) (h : G val s) : wpAny (model X.prog X.w) A (eval (.Name id pos) env) G NoE s := by
  obtain ⟨mg, mb, g, b, _⟩ := B.top
  have hke : env.scope.kind = .function := by rw [F.scope]; exact F.kind
  refine Name_function_global hke (by unfold Env.kindOf; rw [F.scope]; exact hk) (loadGlobal_global (mg := mg) (by rw [F.glob]; exact g.keeps S.keep) (mg_of B.inK g e) h) hd
theorem load_blt (B : Base X) {sc : Scope} {nm : List (PySem.Str × Nat)} {env : Env} {ρ : List V} {σ : AHeap} {A : Around} {s : Shared} {id : PySem.Str} {pos : Pos} {val : Value} {G : Value → Shared → Prop} (S : St X N σ s) (F : FrOk X N sc nm env ρ σ s.heap)
    (hk : sc.names.lookup id = some .globalImplicit) (hd : (id == ("__debug__" : PySem.Str)) = false) (e : nsIn X.K mainGlobals id = some none) (hb : bootBuiltins id = some val) (hn : id ≠ "__name__") (h : G val s) :
    wpAny (model X.prog X.w) A (eval (.Name id pos) env) G NoE s := by
  obtain ⟨mg, mb, g, b, r⟩ := B.top
  have hke : env.scope.kind = .function := by rw [F.scope]; exact F.kind
  exact Name_function_global hke (by unfold Env.kindOf; rw [F.scope]; exact hk)
    (loadGlobal_builtin (mg := mg) (mb := mb) (by rw [F.glob]; exact g.keeps S.keep) (mg_none_of B.inK g e) (by rw [F.blt]; exact b.keeps S.keep) ((r id hn).trans hb) h) hd
end
end Mine
end

section
open PySem PySem.Calls PyProof.Rows PySem.W
set_option maxRecDepth 20000
namespace Mine
variable {N : Hid}
section
variable {X : Cx} {k : Nat}
theorem Ns.unique {h : Heap} {a : Addr} {m m' : PySem.Str → Option Value} (x : h.Ns a m) (y : h.Ns a m') : m = m' := by
  obtain ⟨o, es, ep, ho, hd, _, hf⟩ := x
  obtain ⟨o', es', ep', ho', hd', _, hf'⟩ := y
  rw [ho] at ho'
  cases ho'
  rw [hd] at hd'
  cases hd'
  funext n
  rw [← hf n, ← hf' n]
theorem ledger {σ : AHeap} {s : Shared} (S : St X N σ s) : ∃ m news, Fr ({} : Heap) X.G s.heap m ∧ News ({} : Heap) X.G s.heap news ∧ ∀ b o, b ≠ X.G → s.heap.get? b = some o → (b, o) ∈ news := by
  obtain ⟨m, n⟩ := S.ns
  have no : ∀ b, ({} : Heap).get? b = none := fun b => get_ge_none (Nat.zero_le _)
  refine ⟨m, (List.range s.heap.objs.size).filterMap (fun b => if b = X.G then none else (s.heap.get? b).map fun o => (b, o)), ⟨n, fun b o e => (by rw [no] at e; cases e), Nat.zero_le _⟩, ?_, ?_⟩
  · intro p hp
    obtain ⟨b, _, hb⟩ := List.mem_filterMap.mp hp
    split at hb
    · cases hb
    · rename_i q
      obtain ⟨o, ho, rfl⟩ := Option.map_eq_some_iff.mp hb
      exact ⟨ho, q, no _⟩
  · intro b o q e
    exact List.mem_filterMap.mpr ⟨b, List.mem_range.mpr (Heap.lt_size e), by rw [if_neg q, e]; rfl⟩
theorem Grow.of_news {h h' : Heap} {m : PySem.Str → Option Value} {news news' : List (Addr × Obj)} (F : Fr ({} : Heap) X.G h m) (all : ∀ b o, b ≠ X.G → h.get? b = some o → (b, o) ∈ news) (F' : Fr ({} : Heap) X.G h' m) (N' : News ({} : Heap) X.G h' news')
    (sub : ∀ p ∈ news, p ∈ news') : Grow X h h' :=
  ⟨fun b o q e => (N' _ (sub _ (all b o q e))).1, fun m' n => by rw [Ns.unique n F.ns]; exact F'.ns, fun b o e => by
    by_cases q : b = X.G
    · subst q; obtain ⟨ob, _, _, hb, _⟩ := F'.ns; exact ⟨ob, hb⟩
    · exact ⟨o, (N' _ (sub _ (all b o q e))).1⟩⟩
theorem asList_inv {σ : AHeap} {s : Shared} (S : St X N σ s) {v : V} {l : List V} {val : Value} (e : asList σ v = some l) (x : VRel (hid N σ) s.heap v val) :
    ∃ a vs, val = .ref a ∧ s.heap.PlainList a vs ∧ vs.size ≤ 1000 ∧ VRels (hid N σ) s.heap l vs.toList := by
  cases x with
  | list h1 h2 h3 h4 => cases e; exact ⟨_, _, rfl, h2, h3, h4⟩
  | ref =>
    rename_i a
    simp only [asList] at e
    split at e
    · rename_i l' q
      cases e
      obtain ⟨vs, a1, a2, a3⟩ := S.objs _ _ q
      exact ⟨a, vs, rfl, a1, a2, a3⟩
    · cases e
  | _ => cases e
theorem St.add {σ : AHeap} {s₁ : Shared} (S : St X N σ s₁) {h' : Heap} {tk : Nat} {a : Addr} {o : AObj} {ob : Obj} (g : Grow X s₁.heap h') (ha : s₁.heap.get? a = none) (ho : h'.get? a = some ob) (hr : ORel X (hid N (upd σ a o)) h' a o) :
    St X N (upd σ a o) { s₁ with heap := h', toks := tk } ∧ Step X σ s₁ (upd σ a o) { s₁ with heap := h', toks := tk } := by
  have fa := S.free_of_none ha
  have na := S.hid_fresh ha
  have hG : a ≠ X.G := fun q => by
    obtain ⟨m, ob', es, ep, ho', _⟩ := S.ns
    rw [← q, ha] at ho'; cases ho'
  have ne : ∀ {b o'}, s₁.heap.get? b = some o' → b ≠ a := fun e z => by rw [z, ha] at e; cases e
  have u : Up X.G (Mine.hid N σ) s₁.heap (Mine.hid N (upd σ a o)) h' := ⟨fun b o' n e q => ⟨g.at_ b o' n e, by
    obtain ⟨q1, q2⟩ := hid_none.mp q
    exact hid_none.mpr ⟨q1, by rw [upd_ne (ne e)]; exact q2⟩⟩, S.ns⟩
  have keepσ : ∀ b o', σ b = some o' → upd σ a o b = some o' := fun b o' q => by rw [upd_ne (fun z => by rw [z, fa] at q; cases q)]; exact q
  have S' := S.grow g (tk := tk)
  refine ⟨⟨S'.keep, fun b o' q => ?_, fun b o' q => ?_, fun b o' q => ?_, S'.ns, by rw [upd_ne (Ne.symm hG)]; exact S.gfree, S.gH0, fun b o' q => ?_⟩, ⟨fun b o' n e _ => g.at_ b o' n e, g.sink, fun b o' e e' => ?_, g.live, h', tk, rfl⟩⟩
  · by_cases z : b = a
    · subst z; exact S.H0_of_none ha
    · rw [upd_ne z] at q; exact S.fresh b o' q
  · by_cases z : b = a
    · subst z; rw [upd_self] at q; cases q; exact hr
    · rw [upd_ne z] at q
      exact (S.objs b o' q).up u (fun ob e => g.at_ b ob (S.ne_G q) e) (fun dx z => ⟨hid_sub.mpr ⟨(hid_sub.mp z).1, keepσ _ _ (hid_sub.mp z).2⟩, fun ob e => g.at_ dx ob (S.ne_G (hid_sub.mp z).2) e⟩)
  · by_cases z : b = a
    · subst z; exact ⟨ob, ho⟩
    · rw [upd_ne z] at q
      obtain ⟨ob, e⟩ := S.live b o' q
      exact ⟨ob, g.at_ b ob (S.ne_G q) e⟩
  · obtain ⟨h1, h2, h3, h4⟩ := S'.hids b o' q
    refine ⟨?_, h2, h3, h4⟩
    rw [upd_ne (fun z => by rw [z, na] at q; cases q)]
    exact h1
  · by_cases z : b = a
    · subst z; exact ha
    · rw [upd_ne z, e] at e'; cases e'
theorem newList_end {σ : AHeap} {s₁ : Shared} (S : St X N σ s₁) {h' : Heap} {tk : Nat} {a : Addr} {vs : Array Value} {l : List V} {new : Bool} {Q : V → AHeap → Prop} (g : Grow X s₁.heap h') (ha : s₁.heap.get? a = none) (hl : h'.PlainList a vs)
    (R : VRels (hid N σ) s₁.heap l vs.toList) (hq : mkList new l σ Q) : PostE X N σ s₁ Q (.ref a) { s₁ with heap := h', toks := tk } := by
  obtain ⟨hn, hq⟩ := hq
  have hsz : vs.size ≤ 1000 := by have := R.length; simp only [Array.length_toList] at this; omega
  have R' := R.up (g.up S)
  have fa := S.free_of_none ha
  cases new with
  | false => exact ⟨.list l, σ, S.grow g, .grow g, .list (S.hfree_of_none ha) hl hsz R', hq⟩
  | true =>
    obtain ⟨ob, hob⟩ := id hl
    have u : Up X.G (hid N σ) s₁.heap (hid N (upd σ a (.list l))) h' := ⟨fun b o n e q => ⟨g.at_ b o n e, by
      obtain ⟨q1, q2⟩ := hid_none.mp q
      exact hid_none.mpr ⟨q1, by rw [upd_ne (fun z => by rw [z, ha] at e; cases e)]; exact q2⟩⟩, S.ns⟩
    obtain ⟨S', T'⟩ := S.add (tk := tk) g ha hob (o := .list l) ⟨vs, hl, hsz, R.up u⟩
    exact ⟨.ref a, _, S', T', .ref, hq a fa⟩
theorem size_line (n : Nat) (h : n ≤ 1000) : n ≤ sizeLine := by rw [sizeLine_eq]; omega
theorem ET.v (i : Nat) : ET X k (.v i) := by
  intro N sc nm env x ρ σ Q A s hm hq R S F
  cases x <;> first | cases hm | skip
  rename_i id pos
  obtain ⟨h1, h2, h3, h4⟩ := isVar_inv hm
  obtain ⟨v, e, hu, hq⟩ := hq
  exact wpAny_Name (load_var F h1 h2 e hu (fun val r => .here S r hq) h4) h3
theorem ET.int (n : Int) : ET X k (.int n) := by
  intro N sc nm env x ρ σ Q A s hm hq R S F
  cases x <;> first | cases hm | skip
  rename_i c _ _
  cases c <;> first | cases hm | skip
  obtain rfl := eq_of_beq hm
  exact wpAny_Constant_int (PostE.tok S .int hq)
theorem ET.bool (n : Bool) : ET X k (.bool n) := by
  intro N sc nm env x ρ σ Q A s hm hq R S F
  cases x <;> first | cases hm | skip
  rename_i c _ _
  cases c <;> first | cases hm | skip
  obtain rfl := eq_of_beq hm
  exact wpAny_Constant_bool (.here S .bool hq)
theorem ET.str (n : String) : ET X k (.str n) := by
  intro N sc nm env x ρ σ Q A s hm hq R S F
  cases x <;> first | cases hm | skip
  rename_i c _ _
  cases c <;> first | cases hm | skip
  obtain rfl := eq_of_beq hm
  exact wpAny_Constant_str (PostE.tok S .str hq)
theorem ET.none : ET X k .none := by
  intro N sc nm env x ρ σ Q A s hm hq R S F
  cases x <;> first | cases hm | skip
  rename_i c _ _
  cases c <;> first | cases hm | skip
  exact wpAny_Constant_none (.here S .none hq)
theorem ET.neg (n : Int) : ET X k (.neg n) := by
  intro N sc nm env x ρ σ Q A s hm hq R S F
  cases x <;> first | cases hm | skip
  rename_i o c _
  cases o <;> first | cases hm | skip
  cases c <;> first | cases hm | skip
  rename_i c _ _
  cases c <;> first | cases hm | skip
  obtain rfl := eq_of_beq hm
  exact wpAny_UnaryOp (wpAny_Constant_int (neg_int (PostE.tok (tk := _) S .int hq)))
theorem ET.nowhere (B : Base X) : ET X k .nowhere := by
  intro N sc nm env x ρ σ Q A s hm hq R S F
  cases x <;> first | cases hm | skip
  obtain ⟨rfl, h2, h3⟩ := isGlob_inv hm
  obtain ⟨t, e⟩ := B.nowhere
  exact load_glob B S F h2 h3 e (.here S .int hq)
theorem bin_ints {op : Bop} {a b : Int} {t u : Tok} {σ : AHeap} {s : Shared} {A : Around} {Q : V → AHeap → Prop} (S : St X N σ s) (h : binI op a b fun r => Q (.int r) σ) :
    wpAny (model X.prog X.w) A (binaryOp (bopOf op) (.int a t) (.int b u)) (PostE X N σ s Q) NoE s := by
  cases op with
  | add => dsimp only [bopOf, binI] at h ⊢; (with_reducible refine PyProof.Rows.add_int ?_); exact .tok S .int h
  | sub => dsimp only [bopOf, binI] at h ⊢; (with_reducible refine PyProof.Rows.sub_int ?_); exact .tok S .int h
  | mul => dsimp only [bopOf, binI] at h ⊢; (with_reducible refine PyProof.Rows.mul_int ?_ h.1); exact .tok S .int h.2
  | fdiv => dsimp only [bopOf, binI] at h ⊢; (with_reducible refine floordiv_int h.1 ?_ (.inl h.2.1)); exact .tok S .int h.2.2
  | mod => dsimp only [bopOf, binI] at h ⊢; (with_reducible refine PyProof.Rows.mod_int h.1 ?_); exact .tok S .int h.2
  | pow =>
    dsimp only [bopOf, binI, ipow] at h ⊢
    with_reducible refine pow_int h.1 h.2.1 ?_
    exact .tok S .int h.2.2
theorem bin_lists {l l' : List V} {u v : V} {a b : Value} {σ : AHeap} {s : Shared} {A : Around} {Q : V → AHeap → Prop} (S : St X N σ s) (e1 : asList σ u = some l) (e2 : asList σ v = some l') (x : VRel (hid N σ) s.heap u a) (y : VRel (hid N σ) s.heap v b)
    (hz : (l ++ l').length ≤ 1000) (h : Q (.list (l ++ l')) σ) : wpAny (model X.prog X.w) A (binaryOp .Add a b) (PostE X N σ s Q) NoE s := by
  obtain ⟨c, vs, rfl, i1, i2, i3⟩ := asList_inv S e1 x
  obtain ⟨d, ws, rfl, j1, j2, j3⟩ := asList_inv S e2 y
  obtain ⟨m, news, Fm, Nw, all⟩ := ledger S
  have hsz : vs.size + ws.size ≤ sizeLine := by rw [sizeLine_eq]; omega
  refine add_arrays Fm Nw i1.isList j1.isList (fun h' F' N' => ?_) hsz
  have ho := (N' _ List.mem_cons_self).1
  have g : Grow X s.heap h' := Grow.of_news Fm all F' N' fun p hp => List.mem_cons_of_mem _ hp
  have il : h'.PlainList s.heap.objs.size (vs.toList ++ ws.toList).toArray := ⟨_, ho⟩
  have hn : s.heap.get? s.heap.objs.size = Option.none := get_ge_none (Nat.le_refl _)
  have hR : VRels (hid N σ) s.heap (l ++ l') (vs.toList ++ ws.toList).toArray.toList := i3.append j3
  have fin := newList_end (new := false) S (tk := s.toks) (Q := Q) g hn il hR ⟨hz, h⟩
  exact fin
theorem bin_any {op : Bop} {u v : V} {a b : Value} {σ : AHeap} {s : Shared} {A : Around} {Q : V → AHeap → Prop} (S : St X N σ s) (x : VRel (hid N σ) s.heap u a) (y : VRel (hid N σ) s.heap v b) (h : binP op u v σ Q) :
    wpAny (model X.prog X.w) A (binaryOp (bopOf op) a b) (PostE X N σ s Q) NoE s := by
  unfold binP at h
  split at h
  · obtain ⟨t, rfl⟩ := x.int_inv
    obtain ⟨t', rfl⟩ := y.int_inv
    replace h : binI op _ _ fun r => Q (.int r) σ := h
    with_reducible exact bin_ints S h
  · split at h
    · rename_i e1 e2
      exact bin_lists S e1 e2 x y h.1 h.2
    · exact h.elim
theorem upE {M : Model} {A : Around} {t : Sem Value} {X : Cx} {σ σ₁ : AHeap} {s s₁ s₀ : Shared} {Q : V → AHeap → Prop} (S : St X N σ s) (T : Step X σ s σ₁ s₁) (h : wpAny M A t (PostE X N σ₁ s₁ Q) NoE s₀) : wpAny M A t (PostE X N σ s Q) NoE s₀ :=
  wpAny_mono h (fun _ _ p => p.up S T) fun _ _ x => x
theorem ET.bin {op : Bop} {a b : E} (ha : ET X k a) (hb : ET X k b) : ET X k (.bin op a b) := by
  intro N sc nm env x ρ σ Q A s hm hq R S F
  cases x <;> first | cases hm | skip
  rename_i l o r _
  have hm : (o == bopOf op && matE sc nm a l && matE sc nm b r) = true := hm
  simp only [Bool.and_eq_true, beq_iff_eq] at hm
  obtain ⟨⟨rfl, m1⟩, m2⟩ := hm
  replace hq : wpE X k a ρ σ (fun u σ₁ => wpE X k b ρ σ₁ fun v σ₂ => binP op u v σ₂ Q) := hq
  refine wpAny_BinOp (seqE (ha m1 hq R S F) fun val s₁ u σ₁ S₁ T₁ V₁ h₁ => seqE (hb m2 h₁ R S₁ (F.step S S₁ T₁)) fun val' s₂ v σ₂ S₂ T₂ V₂ h₂ => ?_)
  exact upE S (T₁.trans T₂ S.gfree S₂.gfree) (bin_any S₂ (V₁.up (T₂.up S₁)) V₂ h₂)
end
end Mine
end

section
open PySem PySem.Calls PyProof.Rows PySem.W
set_option maxRecDepth 20000
namespace Mine
variable {N : Hid}
section
variable {X : Cx} {k : Nat}
mutual
def V.py : V → PyData
  | .int i => .int i
  | .tup l => .tuple (V.pys l)
  | .list l => .list (V.pys l)
  | _ => .none
def V.pys : List V → List PyData
  | [] => []
  | v :: r => v.py :: V.pys r
end
theorem all_cons {α : Type} {p : α → Bool} {a : α} {l : List α} (h : (a :: l).all p = true) : p a = true ∧ l.all p = true := by simpa using h
theorem reads_of {σ : AHeap} {h : Heap} : ∀ (n : Nat) (v : V) (val : Value), v.dataN n = true → VRel (hid N σ) h v val → (∃ as, Reads h val v.py as) ∧ v.py.canLay0 = true ∧ v.py.depth ≤ n := by
  intro n
  induction n with
  | zero =>
    intro v val hd x
    cases v <;> first | (simp [V.dataN] at hd; done) | skip
    obtain ⟨t, rfl⟩ := x.int_inv
    exact ⟨⟨_, by rw [V.py]; exact .int _ _⟩, by rw [V.py]; rfl, by rw [V.py]; exact Nat.le_refl _⟩
  | succ n ih =>
    have alls : ∀ (l : List V) (vals : List Value), l.all (V.dataN n) = true → VRels (hid N σ) h l vals → (∃ as, ReadsAll h vals (V.pys l) as) ∧ PyData.canLayAll0 (V.pys l) = true ∧ PyData.depthAll (V.pys l) ≤ n := by
      intro l
      induction l with
      | nil => intro vals _ x; cases x; exact ⟨⟨_, by rw [V.pys]; exact .nil⟩, by rw [V.pys]; rfl, by rw [V.pys]; exact Nat.zero_le _⟩
      | cons v r ihl =>
        intro vals hd x
        cases x with
        | cons x1 x2 =>
          obtain ⟨d1, d2⟩ := all_cons hd
          obtain ⟨⟨as, r1⟩, c1, e1⟩ := ih _ _ d1 x1
          obtain ⟨⟨bs, r2⟩, c2, e2⟩ := ihl _ d2 x2
          exact ⟨⟨_, by rw [V.pys]; exact .cons r1 r2⟩, by rw [V.pys]; simp [PyData.canLayAll0, c1, c2], by rw [V.pys]; simp only [PyData.depthAll]; omega⟩
    intro v val hd x
    cases v <;> first | (simp [V.dataN] at hd; done) | skip
    · obtain ⟨t, rfl⟩ := x.int_inv
      exact ⟨⟨_, by rw [V.py]; exact .int _ _⟩, by rw [V.py]; rfl, by rw [V.py]; exact Nat.zero_le _⟩
    · cases x with
      | tup _ hl _ hr =>
        obtain ⟨o, ho, hc, m, hd'⟩ := hl
        obtain ⟨⟨as, r1⟩, c1, e1⟩ := alls _ _ (by simpa [V.dataN] using hd) hr
        exact ⟨⟨_, by rw [V.py]; exact .tuple ho hc hd' r1⟩, by rw [V.py]; simpa [PyData.canLay0] using c1, by rw [V.py]; simp only [PyData.depth]; omega⟩
    · cases x with
      | list _ hl _ hr =>
        obtain ⟨m, ho⟩ := hl
        obtain ⟨⟨as, r1⟩, c1, e1⟩ := alls _ _ (by simpa [V.dataN] using hd) hr
        exact ⟨⟨_, by rw [V.py]; exact .list ho rfl rfl r1⟩, by rw [V.py]; simpa [PyData.canLay0] using c1, by rw [V.py]; simp only [PyData.depth]; omega⟩
theorem reads_thaw {σ : AHeap} {s : Shared} (S : St X N σ s) {v : V} {val : Value} (hd : (thaw σ v).data = true) (x : VRel (hid N σ) s.heap v val) :
    (∃ as, Reads s.heap val (thaw σ v).py as) ∧ (thaw σ v).py.canLay0 = true ∧ (thaw σ v).py.depth ≤ 8 := by
  cases v with
  | ref a =>
    obtain rfl := x.ref_inv
    cases q : σ a with
    | none => simp [thaw, q, V.dataN] at hd
    | some o =>
      cases o with
      | list l =>
        obtain ⟨vs, ⟨m, ho⟩, _, hr⟩ := S.objs _ _ q
        have e : thaw σ (.ref a) = .list l := by simp [thaw, q]
        rw [e] at hd ⊢
        have hd2 : l.all (V.dataN 7) = true := by simpa [V.data, V.dataN] using hd
        have alls : ∀ (l : List V) (vals : List Value), l.all (V.dataN 7) = true → VRels (hid N σ) s.heap l vals → (∃ as, ReadsAll s.heap vals (V.pys l) as) ∧ PyData.canLayAll0 (V.pys l) = true ∧ PyData.depthAll (V.pys l) ≤ 7 := by
          intro l
          induction l with
          | nil => intro vals _ x; cases x; exact ⟨⟨_, by rw [V.pys]; exact .nil⟩, by rw [V.pys]; rfl, by rw [V.pys]; exact Nat.zero_le _⟩
          | cons v r ihl =>
            intro vals hd x
            cases x with
            | cons x1 x2 =>
              obtain ⟨d1, d2⟩ := all_cons hd
              obtain ⟨⟨as, r1⟩, c1, e1⟩ := reads_of 7 _ _ d1 x1
              obtain ⟨⟨bs, r2⟩, c2, e2⟩ := ihl _ d2 x2
              exact ⟨⟨_, by rw [V.pys]; exact .cons r1 r2⟩, by rw [V.pys]; simp [PyData.canLayAll0, c1, c2], by rw [V.pys]; simp only [PyData.depthAll]; omega⟩
        obtain ⟨⟨as, r1⟩, c1, e1⟩ := alls _ _ hd2 hr
        exact ⟨⟨_, by rw [V.py]; exact .list ho rfl rfl r1⟩, by rw [V.py]; simpa [PyData.canLay0] using c1, by rw [V.py]; simp only [PyData.depth]; omega⟩
      | _ => simp [thaw, q, V.dataN] at hd
  | _ => exact reads_of 8 _ _ hd x
theorem py_eqv : ∀ (n m : Nat) (u v : V), u.dataN n = true → v.dataN m = true → PyData.eqv u.py v.py = u.beq v := by
  have alls : ∀ n, (∀ m (u v : V), u.dataN n = true → v.dataN m = true → PyData.eqv u.py v.py = u.beq v) → ∀ m (l l' : List V), l.all (V.dataN n) = true → l'.all (V.dataN m) = true → PyData.eqvAll (V.pys l) (V.pys l') = V.beqs l l' := by
    intro n ih m l
    induction l with
    | nil => intro l' _ _; cases l' <;> simp [V.pys, PyData.eqvAll, V.beqs]
    | cons a r ihl =>
      intro l' h1 h2
      cases l' with
      | nil => simp [V.pys, PyData.eqvAll, V.beqs]
      | cons b r' =>
        obtain ⟨a1, a2⟩ := all_cons h1
        obtain ⟨b1, b2⟩ := all_cons h2
        simp only [V.pys, PyData.eqvAll, V.beqs, ih m _ _ a1 b1, ihl _ a2 b2]
  intro n
  induction n with
  | zero =>
    intro m u v h1 h2
    cases u <;> first | (simp [V.dataN] at h1; done) | skip
    cases v <;> cases m <;> first | (simp [V.dataN] at h2; done) | (simp [V.py, PyData.eqv, V.beq]; done) | (simp only [V.py, PyData.eqv, V.beq]; exact decide_eq_decide.mpr Iff.rfl) | skip
  | succ n ih =>
    intro m u v h1 h2
    cases u <;> first | (simp [V.dataN] at h1; done) | skip
    · cases v <;> cases m <;> first | (simp [V.dataN] at h2; done) | (simp [V.py, PyData.eqv, V.beq]; done) | (simp only [V.py, PyData.eqv, V.beq]; exact decide_eq_decide.mpr Iff.rfl) | skip
    · cases v <;> cases m <;> first | (simp [V.dataN] at h2; done) | (simp [V.py, PyData.eqv, V.beq]; done) | skip
      · rename_i l l' m
        simp only [V.py, PyData.eqv, V.beq]
        exact alls n ih m l l' (by simpa [V.dataN] using h1) (by simpa [V.dataN] using h2)
    · cases v <;> cases m <;> first | (simp [V.dataN] at h2; done) | (simp [V.py, PyData.eqv, V.beq]; done) | skip
      · rename_i l l' m
        simp only [V.py, PyData.eqv, V.beq]
        exact alls n ih m l l' (by simpa [V.dataN] using h1) (by simpa [V.dataN] using h2)
def PostC (s : Shared) (Q : Bool → Prop) (val : Value) (s' : Shared) : Prop := ∃ b tk, val = .bool b ∧ s' = { s with toks := tk } ∧ Q b
theorem cmp_vals {op : Cop} {u v : V} {a b : Value} {σ : AHeap} {s : Shared} {A : Around} {Q : Bool → Prop} (R : Room k A) (S : St X N σ s) (x : VRel (hid N σ) s.heap u a) (y : VRel (hid N σ) s.heap v b) (h : cmpP op u v σ Q) :
    wpAny (model X.prog X.w) A (compareOp (copOf op) a b) (PostC s Q) NoE s := by
  unfold cmpP at h
  split at h
  · obtain ⟨t, rfl⟩ := x.int_inv
    obtain ⟨t', rfl⟩ := y.int_inv
    cases op <;> dsimp only [copOf, copI] at h ⊢
    · (with_reducible refine lt_int ?_); exact ⟨_, s.toks, rfl, rfl, h⟩
    · (with_reducible refine le_int ?_); exact ⟨_, s.toks, rfl, rfl, h⟩
    · (with_reducible refine gt_int ?_); exact ⟨_, s.toks, rfl, rfl, h⟩
    · (with_reducible refine ge_int ?_); exact ⟨_, s.toks, rfl, rfl, h⟩
    · (with_reducible refine eq_int ?_); exact ⟨_, s.toks, rfl, rfl, h⟩
    · (with_reducible refine ne_int ?_); exact ⟨_, s.toks, rfl, rfl, h⟩
  · obtain ⟨t, rfl⟩ := x.str_inv
    obtain ⟨t', rfl⟩ := y.str_inv
    cases op <;> first | exact h.elim | skip
    dsimp only [copOf] at h ⊢
    with_reducible refine PyProof.Rows.eq_str ?_
    exact ⟨_, s.toks, rfl, rfl, h⟩
  · obtain ⟨d1, d2, h⟩ := h
    obtain ⟨⟨as, r1⟩, c1, e1⟩ := reads_thaw S d1 x
    obtain ⟨⟨bs, r2⟩, c2, e2⟩ := reads_thaw S d2 y
    have q := py_eqv 8 8 _ _ d1 d2
    have hu : A.units + min (thaw σ u).py.depth (thaw σ v).py.depth < cLine := by
      have := R.2.2
      omega
    cases op <;> first | exact h.elim | skip
    · dsimp only [copOf] at h ⊢
      with_reducible refine SeqAt.compareEq_reads r1 r2 c1 c2 hu ?_
      rw [q]; exact ⟨_, s.toks, rfl, rfl, h⟩
    · dsimp only [copOf] at h ⊢
      with_reducible refine SeqAt.compareNe_reads r1 r2 c1 c2 hu ?_
      rw [q]; exact ⟨_, s.toks, rfl, rfl, h⟩
theorem behind_false (op : Cop) (e : PySem.Expr) : behindInMarks (copOf op) e = false := by cases e <;> cases op <;> first | rfl | simp [behindInMarks, copOf]
theorem seqC {M : Model} {A : Around} {t : Sem Value} {s : Shared} {Q : Bool → Prop} {G : Value → Shared → Prop} (h : wpAny M A t (PostC s Q) NoE s)
    (g : ∀ b tk, Q b → G (.bool b) { s with toks := tk }) : wpAny M A t G NoE s :=
  wpAny_mono h (fun val s₁ ⟨b, tk, e1, e2, q⟩ => by subst e1 e2; exact g b tk q) fun _ _ x => x
theorem ET.cmp {op : Cop} {a b : E} (ha : ET X k a) (hb : ET X k b) : ET X k (.cmp a op b) := by
  intro N sc nm env x ρ σ Q A s hm hq R S F
  cases x <;> first | cases hm | skip
  rename_i l ops rs _
  match ops, rs with
  | [o], [r] =>
    replace hm : (o == copOf op && matE sc nm a l && matE sc nm b r) = true := hm
    simp only [Bool.and_eq_true, beq_iff_eq] at hm
    obtain ⟨⟨rfl, m1⟩, m2⟩ := hm
    replace hq : wpE X k a ρ σ (fun u σ₁ => wpE X k b ρ σ₁ fun v σ₂ => cmpP op u v σ₂ fun r => Q (.bool r) σ₂) := hq
    refine wpAny_Compare1 (seqE (ha m1 hq R S F) fun val s₁ u σ₁ S₁ T₁ V₁ h₁ => seqE (hb m2 h₁ R S₁ (F.step S S₁ T₁)) fun val' s₂ v σ₂ S₂ T₂ V₂ h₂ => ?_) (behind_false op r)
    have T := T₁.trans T₂ S.gfree S₂.gfree
    exact seqC (cmp_vals R S₂ (V₁.up (T₂.up S₁)) V₂ h₂) fun b tk hb => PostE.up S T (.tok S₂ .bool hb)
  | [], _ => cases hm
  | [_], [] => cases hm
  | [_], _ :: _ :: _ => cases hm
  | _ :: _ :: _, _ => cases hm
theorem BT.cmp {op : Cop} {a b : E} (ha : ET X k a) (hb : ET X k b) : BT X k (.cmp a op b) := by
  intro _ N sc nm env x ρ σ Q A s hm hq R S F
  cases x <;> first | cases hm | skip
  rename_i l ops rs _
  match ops, rs with
  | [o], [r] =>
    replace hm : (o == copOf op && matE sc nm a l && matE sc nm b r) = true := hm
    simp only [Bool.and_eq_true, beq_iff_eq] at hm
    obtain ⟨⟨rfl, m1⟩, m2⟩ := hm
    replace hq : wpE X k a ρ σ (fun u σ₁ => wpE X k b ρ σ₁ fun v σ₂ => cmpP op u v σ₂ fun r => Q r σ₂) := hq
    refine wpAny_isTrue_Compare1 (seqE (ha m1 hq R S F) fun val s₁ u σ₁ S₁ T₁ V₁ h₁ => seqE (hb m2 h₁ R S₁ (F.step S S₁ T₁)) fun val' s₂ v σ₂ S₂ T₂ V₂ h₂ => ?_) (behind_false op r)
    have T := T₁.trans T₂ S.gfree S₂.gfree
    refine seqC (cmp_vals R S₂ (V₁.up (T₂.up S₁)) V₂ h₂) fun b tk hb => wpAny_truthy_bool ⟨σ₂, S₂.tok tk, T.trans (.tok tk) S.gfree S₂.gfree, hb⟩
  | [], _ => cases hm
  | [_], [] => cases hm
  | [_], _ :: _ :: _ => cases hm
  | _ :: _ :: _, _ => cases hm
end
end Mine
end

section
open PySem PySem.Calls PyProof.Rows PySem.W
set_option maxRecDepth 20000
namespace Mine
variable {N : Hid}
section
variable {X : Cx} {k : Nat}
theorem seqB {M : Model} {A : Around} {t : Sem Bool} {X : Cx} {σ : AHeap} {s : Shared} {Q : Bool → AHeap → Prop} {G : Bool → Shared → Prop} (h : wpAny M A t (PostB X N σ s Q) NoE s)
    (k : ∀ b s₁ σ₁, St X N σ₁ s₁ → Step X σ s σ₁ s₁ → Q b σ₁ → G b s₁) : wpAny M A t G NoE s :=
  wpAny_mono h (fun b s₁ ⟨σ₁, a, c, d⟩ => k b s₁ σ₁ a c d) fun _ _ x => x
theorem PostB.up {X : Cx} {σ σ₁ : AHeap} {s s₁ : Shared} {Q : Bool → AHeap → Prop} {b : Bool} {s' : Shared} (S : St X N σ s) (T : Step X σ s σ₁ s₁) (p : PostB X N σ₁ s₁ Q b s') : PostB X N σ s Q b s' :=
  let ⟨σ', a, c, d⟩ := p; ⟨σ', a, T.trans c S.gfree a.gfree, d⟩
theorem upB {M : Model} {A : Around} {t : Sem Bool} {X : Cx} {σ σ₁ : AHeap} {s s₁ s₀ : Shared} {Q : Bool → AHeap → Prop} (S : St X N σ s) (T : Step X σ s σ₁ s₁) (h : wpAny M A t (PostB X N σ₁ s₁ Q) NoE s₀) : wpAny M A t (PostB X N σ s Q) NoE s₀ :=
  wpAny_mono h (fun _ _ p => p.up S T) fun _ _ x => x
theorem truth_bool {v : V} {val : Value} {σ : AHeap} {s : Shared} {A : Around} {Q : Bool → Prop} {G : Bool → Shared → Prop} (x : VRel (hid N σ) s.heap v val) (h : truthP v Q) (g : ∀ b, Q b → G b s) : wpAny (model X.prog X.w) A (truthy val) G NoE s := by
  cases v <;> first | exact h.elim | skip
  obtain rfl := x.bool_inv
  exact wpAny_truthy_bool (g _ h)
def plainTest : PySem.Expr → Bool
  | .UnaryOp .Not _ _ => false
  | .BoolOp .. => false
  | .IfExp .. => false
  | .Compare .. => false
  | _ => true
theorem isTrue_plainT {x : PySem.Expr} (h : plainTest x = true) (env : Env) (w : Sem Value) : isTrue x env w = (do let v ← w; standAt x.pos; holding [v] (truthy v)) := by
  cases x <;> first | rfl | (cases h; done) | skip
  rename_i o _ _
  cases o <;> first | rfl | (cases h; done)
theorem BT.ofET {e : E} (h : ET X k e) (hx : ∀ {sc : Scope} {nm : List (PySem.Str × Nat)} {x : PySem.Expr}, matE sc nm e x = true → plainTest x = true) : BT X k e := by
  intro _ N sc nm env x ρ σ Q A s hm hq R S F
  refine wpAny_isTrue_value (seqE (h hm hq R S F) fun val s₁ v σ₁ S₁ T₁ V₁ h₁ => ?_) (isTrue_plainT (hx hm) _ _)
  exact truth_bool V₁ h₁ fun b hb => ⟨σ₁, S₁, T₁, hb⟩
theorem BT.not {a : E} (ha : BT X k a) : BT X k (.not a) := by
  intro ht N sc nm env x ρ σ Q A s hm hq R S F
  cases x <;> first | cases hm | skip
  rename_i o l _
  cases o <;> first | cases hm | skip
  replace hm : matE sc nm a l = true := hm
  replace hq : wpE X k a ρ σ (fun u σ₁ => truthP u fun r => truthP (.bool (!r)) fun b => Q b σ₁) := hq
  exact wpAny_isTrue_Not (seqB (ha ht hm hq R S F) fun b s₁ σ₁ S₁ T₁ h₁ => ⟨σ₁, S₁, T₁, h₁⟩)
theorem ET.not {a : E} (ha : ET X k a) : ET X k (.not a) := by
  intro N sc nm env x ρ σ Q A s hm hq R S F
  cases x <;> first | cases hm | skip
  rename_i o l _
  cases o <;> first | cases hm | skip
  replace hm : matE sc nm a l = true := hm
  replace hq : wpE X k a ρ σ (fun u σ₁ => truthP u fun r => Q (.bool (!r)) σ₁) := hq
  exact wpAny_UnaryOp (seqE (ha hm hq R S F) fun val s₁ v σ₁ S₁ T₁ V₁ h₁ => not_value (truth_bool V₁ h₁ fun b hb => ⟨.bool (!b), σ₁, S₁, T₁, .bool, hb⟩))
theorem mono_truth {u : V} {Q Q' : Bool → Prop} (h : truthP u Q) (g : ∀ b, Q b → Q' b) : truthP u Q' := by cases u <;> first | exact h.elim | exact g _ h
theorem wpE_and (a b : E) (ρ : List V) (σ : AHeap) (Q : V → AHeap → Prop) : wpE X k (.and a b) ρ σ Q = wpE X k a ρ σ fun u σ₁ => truthP u fun r => if r = true then wpE X k b ρ σ₁ Q else Q (.bool false) σ₁ := rfl
theorem wpE_or (a b : E) (ρ : List V) (σ : AHeap) (Q : V → AHeap → Prop) : wpE X k (.or a b) ρ σ Q = wpE X k a ρ σ fun u σ₁ => truthP u fun r => if r = true then Q (.bool true) σ₁ else wpE X k b ρ σ₁ Q := rfl
theorem and3 {M : Model} {A : Around} {env : Env} {E : Value → Shared → Prop} {s : Shared} {x y z : PySem.Expr} {pos : Pos} {Q : Value → Shared → Prop}
    (h : wpAny M A (eval x env) (fun v s₁ => wpAny M A (truthy v) (fun t s₂ => if t then wpAny M A (eval (.BoolOp .And [y, z] pos) env) Q E s₂ else Q v s₂) E s₁) E s) : wpAny M A (eval (.BoolOp .And [x, y, z] pos) env) Q E s := by
  show wpAny M A (do
    let v ← eval x env
    standAt pos
    let t ← holding [v] (truthy v)
    match BoolOp.And, t with
    | .And, false | .Or, true => pure v
    | _, _ => eval (.BoolOp .And [y, z] pos) env) Q E s
  refine wpAny_bind (wpAny_mono h (fun v s₁ h₁ => wpAny_bind (wpAny_standAt (wpAny_bind (wpAny_holding (wpAny_mono h₁ (fun t s₂ h₂ => ?_) fun _ _ x => x))))) fun _ _ x => x)
  cases t with
  | true => exact h₂
  | false => exact wpAny_pure h₂
theorem ET.and {a b : E} (ha : ET X k a) (hb : ET X k b) : ET X k (.and a b) := by
  intro N sc nm env x ρ σ Q A s hm hq R S F
  cases x <;> first | cases hm | skip
  rename_i o vs _
  match o, vs with
  | .And, [l, r] =>
    replace hm : (matE sc nm a l && matE sc nm b r) = true := hm
    simp only [Bool.and_eq_true] at hm
    rw [wpE_and] at hq
    refine wpAny_And2 (seqE (ha hm.1 hq R S F) fun val s₁ u σ₁ S₁ T₁ V₁ h₁ => ?_)
    cases u <;> first | exact h₁.elim | skip
    rename_i c
    obtain rfl := V₁.bool_inv
    refine wpAny_truthy_bool ?_
    cases c with
    | true => exact upE S T₁ (hb hm.2 h₁ R S₁ (F.step S S₁ T₁))
    | false => exact ⟨.bool false, σ₁, S₁, T₁, .bool, h₁⟩
  | .And, [l, r, r2] =>
    rename_i pos
    replace hm : (matE sc nm a l && matE sc nm b (.BoolOp .And [r, r2] pos)) = true := hm
    simp only [Bool.and_eq_true] at hm
    rw [wpE_and] at hq
    refine and3 (seqE (ha hm.1 hq R S F) fun val s₁ u σ₁ S₁ T₁ V₁ h₁ => ?_)
    cases u <;> first | exact h₁.elim | skip
    rename_i c
    obtain rfl := V₁.bool_inv
    refine wpAny_truthy_bool ?_
    cases c with
    | true => exact upE S T₁ (hb hm.2 h₁ R S₁ (F.step S S₁ T₁))
    | false => exact ⟨.bool false, σ₁, S₁, T₁, .bool, h₁⟩
  | .Or, _ => cases hm
  | .And, [] => cases hm
  | .And, [_] => cases hm
  | .And, _ :: _ :: _ :: _ :: _ => cases hm
theorem ET.or {a b : E} (ha : ET X k a) (hb : ET X k b) : ET X k (.or a b) := by
  intro N sc nm env x ρ σ Q A s hm hq R S F
  cases x <;> first | cases hm | skip
  rename_i o vs _
  match o, vs with
  | .Or, [l, r] =>
    replace hm : (matE sc nm a l && matE sc nm b r) = true := hm
    simp only [Bool.and_eq_true] at hm
    rw [wpE_or] at hq
    refine wpAny_Or2 (seqE (ha hm.1 hq R S F) fun val s₁ u σ₁ S₁ T₁ V₁ h₁ => ?_)
    cases u <;> first | exact h₁.elim | skip
    rename_i c
    obtain rfl := V₁.bool_inv
    refine wpAny_truthy_bool ?_
    cases c with
    | false => exact upE S T₁ (hb hm.2 h₁ R S₁ (F.step S S₁ T₁))
    | true => exact ⟨.bool true, σ₁, S₁, T₁, .bool, h₁⟩
  | .And, _ => cases hm
  | .Or, [] => cases hm
  | .Or, [_] => cases hm
  | .Or, _ :: _ :: _ :: _ => cases hm
theorem BT.and {a b : E} (ha : BT X k a) (hb : BT X k b) : BT X k (.and a b) := by
  intro ht N sc nm env x ρ σ Q A s hm hq R S F
  obtain ⟨t1, t2⟩ := Bool.and_eq_true_iff.mp (show (tst a && tst b) = true from ht)
  cases x <;> first | cases hm | skip
  rename_i o vs _
  match o, vs with
  | .And, [l, r] =>
    replace hm : (matE sc nm a l && matE sc nm b r) = true := hm
    simp only [Bool.and_eq_true] at hm
    replace hq : wpE X k a ρ σ (fun u σ₁ => truthP u fun r => if r = true then wpE X k b ρ σ₁ (fun u σ₁ => truthP u fun b => Q b σ₁) else Q false σ₁) := hq
    refine wpAny_isTrue_BoolOp (wpAny_allTrue_And_cons (seqB (ha t1 hm.1 hq R S F) fun c s₁ σ₁ S₁ T₁ h₁ => ?_))
    cases c with
    | true => exact wpAny_allTrue_And_cons (seqB (hb t2 hm.2 h₁ R S₁ (F.step S S₁ T₁)) fun d s₂ σ₂ S₂ T₂ h₂ => by
        have T := T₁.trans T₂ S.gfree S₂.gfree
        cases d with
        | true => exact wpAny_allTrue_And_nil ⟨σ₂, S₂, T, h₂⟩
        | false => exact ⟨σ₂, S₂, T, h₂⟩)
    | false => exact ⟨σ₁, S₁, T₁, h₁⟩
  | .And, [l, r, r2] =>
    rename_i pos
    replace hm : (matE sc nm a l && matE sc nm b (.BoolOp .And [r, r2] pos)) = true := hm
    simp only [Bool.and_eq_true] at hm
    replace hq : wpE X k a ρ σ (fun u σ₁ => truthP u fun r => if r = true then wpE X k b ρ σ₁ (fun u σ₁ => truthP u fun b => Q b σ₁) else Q false σ₁) := hq
    refine wpAny_isTrue_BoolOp (wpAny_allTrue_And_cons (seqB (ha t1 hm.1 hq R S F) fun c s₁ σ₁ S₁ T₁ h₁ => ?_))
    cases c with
    | true =>
      have hb' := hb t2 hm.2 h₁ R S₁ (F.step S S₁ T₁)
      rw [arm_isTrue_BoolOp] at hb'
      exact upB S T₁ hb'
    | false => exact ⟨σ₁, S₁, T₁, h₁⟩
  | .Or, _ => cases hm
  | .And, [] => cases hm
  | .And, [_] => cases hm
  | .And, _ :: _ :: _ :: _ :: _ => cases hm
theorem BT.or {a b : E} (ha : BT X k a) (hb : BT X k b) : BT X k (.or a b) := by
  intro ht N sc nm env x ρ σ Q A s hm hq R S F
  obtain ⟨t1, t2⟩ := Bool.and_eq_true_iff.mp (show (tst a && tst b) = true from ht)
  cases x <;> first | cases hm | skip
  rename_i o vs _
  match o, vs with
  | .Or, [l, r] =>
    replace hm : (matE sc nm a l && matE sc nm b r) = true := hm
    simp only [Bool.and_eq_true] at hm
    replace hq : wpE X k a ρ σ (fun u σ₁ => truthP u fun r => if r = true then Q true σ₁ else wpE X k b ρ σ₁ (fun u σ₁ => truthP u fun b => Q b σ₁)) := hq
    refine wpAny_isTrue_BoolOp (wpAny_allTrue_Or_cons (seqB (ha t1 hm.1 hq R S F) fun c s₁ σ₁ S₁ T₁ h₁ => ?_))
    cases c with
    | false => exact wpAny_allTrue_Or_cons (seqB (hb t2 hm.2 h₁ R S₁ (F.step S S₁ T₁)) fun d s₂ σ₂ S₂ T₂ h₂ => by
        have T := T₁.trans T₂ S.gfree S₂.gfree
        cases d with
        | false => exact wpAny_allTrue_Or_nil ⟨σ₂, S₂, T, h₂⟩
        | true => exact ⟨σ₂, S₂, T, h₂⟩)
    | true => exact ⟨σ₁, S₁, T₁, h₁⟩
  | .And, _ => cases hm
  | .Or, [] => cases hm
  | .Or, [_] => cases hm
  | .Or, _ :: _ :: _ :: _ => cases hm
theorem ET.ite {c a b : E} (hc : BT X k c) (ha : ET X k a) (hb : ET X k b) : ET X k (.ite c a b) := by
  intro N sc nm env x ρ σ Q A s hm hq R S F
  cases x <;> first | cases hm | skip
  rename_i t l r _
  replace hm : (tst c && matE sc nm c t && matE sc nm a l && matE sc nm b r) = true := hm
  simp only [Bool.and_eq_true] at hm
  obtain ⟨⟨⟨t1, m1⟩, m2⟩, m3⟩ := hm
  replace hq : wpE X k c ρ σ (fun u σ₁ => truthP u fun r => (if r = true then wpE X k a ρ σ₁ Q else wpE X k b ρ σ₁ Q)) := hq
  refine wpAny_IfExp (seqB (Q := fun r σ₁ => if r = true then wpE X k a ρ σ₁ Q else wpE X k b ρ σ₁ Q) (hc t1 m1 hq R S F) fun d s₁ σ₁ S₁ T₁ h₁ => ?_)
  cases d with
  | true => exact upE S T₁ (ha m2 h₁ R S₁ (F.step S S₁ T₁))
  | false => exact upE S T₁ (hb m3 h₁ R S₁ (F.step S S₁ T₁))
theorem BT.ite {c a b : E} (hc : BT X k c) (ha : BT X k a) (hb : BT X k b) : BT X k (.ite c a b) := by
  intro ht N sc nm env x ρ σ Q A s hm hq R S F
  replace ht : (tst c && tst a && tst b) = true := ht
  simp only [Bool.and_eq_true] at ht
  cases x <;> first | cases hm | skip
  rename_i t l r _
  replace hm : (tst c && matE sc nm c t && matE sc nm a l && matE sc nm b r) = true := hm
  simp only [Bool.and_eq_true] at hm
  obtain ⟨⟨⟨t1, m1⟩, m2⟩, m3⟩ := hm
  replace hq : wpE X k c ρ σ (fun u σ₁ => truthP u fun r => (if r = true then wpE X k a ρ σ₁ (fun u σ₁ => truthP u fun b => Q b σ₁) else wpE X k b ρ σ₁ (fun u σ₁ => truthP u fun b => Q b σ₁))) := hq
  show wpAny _ _ (do
    if ← isTrue t env (eval t env) then isTrue l env (eval l env) else isTrue r env (eval r env)) _ _ _
  refine wpAny_bind (seqB (Q := fun r σ₁ => if r = true then wpE X k a ρ σ₁ (fun u σ₁ => truthP u fun b => Q b σ₁) else wpE X k b ρ σ₁ (fun u σ₁ => truthP u fun b => Q b σ₁)) (hc t1 m1 hq R S F) fun d s₁ σ₁ S₁ T₁ h₁ => ?_)
  cases d with
  | true => exact upB S T₁ (ha ht.1.2 m2 h₁ R S₁ (F.step S S₁ T₁))
  | false => exact upB S T₁ (hb ht.2 m3 h₁ R S₁ (F.step S S₁ T₁))
theorem marks_false {o o2 : Cop} {r r2 : PySem.Expr} : lastMarks [copOf o, copOf o2] [r, r2] = false := behind_false o2 r2
theorem ET.cmp2 {op op2 : Cop} {a b c : E} (ha : ET X k a) (hb : ET X k b) (hc : ET X k c) : ET X k (.cmp2 a op b op2 c) := by
  intro N sc nm env x ρ σ Q A s hm hq R S F
  cases x <;> first | cases hm | skip
  rename_i l ops rs _
  match ops, rs with
  | [o, o2], [r, r2] =>
    replace hm : (o == copOf op && o2 == copOf op2 && matE sc nm a l && matE sc nm b r && matE sc nm c r2) = true := hm
    simp only [Bool.and_eq_true, beq_iff_eq] at hm
    obtain ⟨⟨⟨⟨rfl, rfl⟩, m1⟩, m2⟩, m3⟩ := hm
    replace hq : wpE X k a ρ σ (fun u σ₁ => wpE X k b ρ σ₁ fun v σ₂ => cmpP op u v σ₂ fun r => if r = true then wpE X k c ρ σ₂ fun w σ₃ => cmpP op2 v w σ₃ fun r2 => Q (.bool r2) σ₃ else Q (.bool false) σ₂) := hq
    refine Compare_chain (seqE (ha m1 hq R S F) fun val s₁ u σ₁ S₁ T₁ V₁ h₁ => chain_link (seqE (hb m2 h₁ R S₁ (F.step S S₁ T₁)) fun val' s₂ v σ₂ S₂ T₂ V₂ h₂ => ?_)) marks_false
    have T := T₁.trans T₂ S.gfree S₂.gfree
    refine seqC (cmp_vals R S₂ (V₁.up (T₂.up S₁)) V₂ h₂) fun d tk hb => wpAny_truthy_bool ?_
    have T' := T.trans (Step.tok (X := X) (σ := σ₂) (s := s₂) tk) S.gfree S₂.gfree
    cases d with
    | true =>
      refine chain_last (seqE (hc m3 hb R (S₂.tok tk) (F.step S (S₂.tok tk) T')) fun val'' s₃ w σ₃ S₃ T₃ V₃ h₃ => ?_)
      exact seqC (cmp_vals R S₃ (V₂.up (T₃.up (S₂.tok tk))) V₃ h₃) fun d tk' hd => PostE.up S (T'.trans T₃ S.gfree S₃.gfree) (.tok S₃ .bool hd)
    | false => exact ⟨.bool false, σ₂, S₂.tok tk, T', .bool, hb⟩
  | [], _ => cases hm
  | [_], _ => cases hm
  | [_, _], [] => cases hm
  | [_, _], [_] => cases hm
  | [_, _], _ :: _ :: _ :: _ => cases hm
  | _ :: _ :: _ :: _, _ => cases hm
theorem BT.cmp2 {op op2 : Cop} {a b c : E} (ha : ET X k a) (hb : ET X k b) (hc : ET X k c) : BT X k (.cmp2 a op b op2 c) := by
  intro _ N sc nm env x ρ σ Q A s hm hq R S F
  cases x <;> first | cases hm | skip
  rename_i l ops rs _
  match ops, rs with
  | [o, o2], [r, r2] =>
    replace hm : (o == copOf op && o2 == copOf op2 && matE sc nm a l && matE sc nm b r && matE sc nm c r2) = true := hm
    simp only [Bool.and_eq_true, beq_iff_eq] at hm
    obtain ⟨⟨⟨⟨rfl, rfl⟩, m1⟩, m2⟩, m3⟩ := hm
    replace hq : wpE X k a ρ σ (fun u σ₁ => wpE X k b ρ σ₁ fun v σ₂ => cmpP op u v σ₂ fun r => if r = true then wpE X k c ρ σ₂ fun w σ₃ => cmpP op2 v w σ₃ fun r2 => Q r2 σ₃ else Q false σ₂) := hq
    refine isTrue_chain (seqE (ha m1 hq R S F) fun val s₁ u σ₁ S₁ T₁ V₁ h₁ => test_link (seqE (hb m2 h₁ R S₁ (F.step S S₁ T₁)) fun val' s₂ v σ₂ S₂ T₂ V₂ h₂ => ?_)) marks_false
    have T := T₁.trans T₂ S.gfree S₂.gfree
    refine seqC (cmp_vals R S₂ (V₁.up (T₂.up S₁)) V₂ h₂) fun d tk hb => wpAny_truthy_bool ?_
    have T' := T.trans (Step.tok (X := X) (σ := σ₂) (s := s₂) tk) S.gfree S₂.gfree
    cases d with
    | true =>
      refine test_last (seqE (hc m3 hb R (S₂.tok tk) (F.step S (S₂.tok tk) T')) fun val'' s₃ w σ₃ S₃ T₃ V₃ h₃ => ?_)
      exact seqC (cmp_vals R S₃ (V₂.up (T₃.up (S₂.tok tk))) V₃ h₃) fun d tk' hd => wpAny_truthy_bool ⟨σ₃, S₃.tok tk', (T'.trans T₃ S.gfree S₃.gfree).trans (.tok tk') S.gfree S₃.gfree, hd⟩
    | false => exact ⟨σ₂, S₂.tok tk, T', hb⟩
  | [], _ => cases hm
  | [_], _ => cases hm
  | [_, _], [] => cases hm
  | [_, _], [_] => cases hm
  | [_, _], _ :: _ :: _ :: _ => cases hm
  | _ :: _ :: _ :: _, _ => cases hm
theorem none_eq {u : V} {val : Value} {τ : AHeap} {h : Heap} (x : VRel τ h u val) (hu : u ≠ .undef) : (val == Value.none) = u.isNone := by
  cases x <;> first | exact absurd rfl hu | rfl
theorem is_value {neg : Bool} {u : V} {val : Value} {σ : AHeap} {s : Shared} {A : Around} {Q : Value → Shared → Prop} (x : VRel (hid N σ) s.heap u val) (hu : u ≠ .undef) (h : Q (.bool (u.isNone != neg)) s) :
    wpAny (model X.prog X.w) A (compareOp (if neg then .IsNot else .Is) val .none) Q NoE s := by
  have e := none_eq x hu
  cases neg with
  | false => exact is_none (by rw [e]; simpa using h)
  | true => exact isNot_none (by rw [e]; simpa using h)
theorem behind_is (neg : Bool) (e : PySem.Expr) : behindInMarks (if neg then .IsNot else .Is) e = false := by cases e <;> cases neg <;> first | rfl | simp [behindInMarks]
theorem ET.isnone {neg : Bool} {a : E} (ha : ET X k a) : ET X k (.isnone neg a) := by
  intro N sc nm env x ρ σ Q A s hm hq R S F
  cases x <;> first | cases hm | skip
  rename_i l ops rs _
  rcases ops with _ | ⟨o, _ | ⟨_, _⟩⟩ <;> rcases rs with _ | ⟨r, _ | ⟨_, _⟩⟩ <;> first | (cases hm; done) | (cases r <;> first | (cases hm; done) | (rename_i c _ _; cases c <;> first | (cases hm; done) | skip) | (rename_i c _ _ _ _; cases c <;> first | (cases hm; done) | skip) | skip)
  · replace hm : (o == (if neg then CmpOp.IsNot else CmpOp.Is) && matE sc nm a l) = true := hm
    simp only [Bool.and_eq_true, beq_iff_eq] at hm
    obtain ⟨rfl, m1⟩ := hm
    replace hq : wpE X k a ρ σ (fun u σ₁ => u ≠ .undef ∧ Q (.bool (u.isNone != neg)) σ₁) := hq
    refine wpAny_Compare1 (seqE (ha m1 hq R S F) fun val s₁ u σ₁ S₁ T₁ V₁ h₁ => wpAny_Constant_none ?_) (behind_is neg _)
    exact is_value V₁ h₁.1 ⟨_, σ₁, S₁, T₁, .bool, h₁.2⟩
theorem BT.isnone {neg : Bool} {a : E} (ha : ET X k a) : BT X k (.isnone neg a) := by
  intro _ N sc nm env x ρ σ Q A s hm hq R S F
  cases x <;> first | cases hm | skip
  rename_i l ops rs _
  rcases ops with _ | ⟨o, _ | ⟨_, _⟩⟩ <;> rcases rs with _ | ⟨r, _ | ⟨_, _⟩⟩ <;> first | (cases hm; done) | (cases r <;> first | (cases hm; done) | (rename_i c _ _; cases c <;> first | (cases hm; done) | skip) | (rename_i c _ _ _ _; cases c <;> first | (cases hm; done) | skip) | skip)
  · replace hm : (o == (if neg then CmpOp.IsNot else CmpOp.Is) && matE sc nm a l) = true := hm
    simp only [Bool.and_eq_true, beq_iff_eq] at hm
    obtain ⟨rfl, m1⟩ := hm
    replace hq : wpE X k a ρ σ (fun u σ₁ => u ≠ .undef ∧ Q (u.isNone != neg) σ₁) := hq
    refine wpAny_isTrue_Compare1 (seqE (ha m1 hq R S F) fun val s₁ u σ₁ S₁ T₁ V₁ h₁ => wpAny_Constant_none ?_) (behind_is neg _)
    exact is_value V₁ h₁.1 (wpAny_truthy_bool ⟨σ₁, S₁, T₁, h₁.2⟩)
end
end Mine
end

section
open PySem PySem.Calls PyProof.Rows PySem.W
set_option maxRecDepth 20000
namespace Mine
variable {N : Hid}
section
variable {X : Cx} {k : Nat}
theorem seqL {M : Model} {A : Around} {t : Sem (List Value)} {X : Cx} {σ : AHeap} {s : Shared} {Q : List V → AHeap → Prop} {G : List Value → Shared → Prop} (h : wpAny M A t (PostL X N σ s Q) NoE s)
    (g : ∀ vals s₁ l σ₁, St X N σ₁ s₁ → Step X σ s σ₁ s₁ → VRels (hid N σ₁) s₁.heap l vals → Q l σ₁ → G vals s₁) : wpAny M A t G NoE s :=
  wpAny_mono h (fun vals s₁ ⟨l, σ₁, a, b, c, d⟩ => g vals s₁ l σ₁ a b c d) fun _ _ x => x
theorem star_of {e : E} {sc : Scope} {nm : List (PySem.Str × Nat)} {x : PySem.Expr} (h : matE sc nm e x = true) (rest : List PySem.Expr) (env : Env) : starEach (x :: rest) env = (false, eval x env) :: starEach rest env := by
  cases x <;> first | rfl | skip
  exfalso
  have key : ∀ e : E, ∀ v p, matE sc nm e (.Starred v p) = true → False := by
    intro e
    refine E.rec (motive_1 := fun e => ∀ v p, matE sc nm e (.Starred v p) = true → False) (motive_2 := fun _ => True) (motive_3 := fun _ => True) (motive_4 := fun _ => True)
      ?_ ?_ ?_ ?_ ?_ ?_ ?_ ?_ ?_ ?_ ?_ ?_ ?_ ?_ ?_ ?_ ?_ ?_ ?_ ?_ ?_ ?_ ?_ ?_ ?_ ?_ ?_ ?_ ?_ ?_ ?_ ?_ ?_ ?_ ?_ ?_ ?_ ?_ ?_ ?_ ?_ ?_ ?_ ?_ ?_ ?_ ?_ ?_ ?_ ?_ ?_ ?_ e
    all_goals first | (intros; trivial) | skip
    all_goals (intros; rename_i hh; first | (cases hh; done) | skip)
    all_goals (rename_i ih _ _; exact ih _ _ hh)
  exact key e _ _ h
theorem EsT.nil : EsT X k .nil := by
  intro N sc nm env xs pos ρ σ Q A s hm hq R S F
  cases xs <;> first | cases hm | skip
  exact wpAny_items_nil ⟨[], σ, S, .refl .., .nil, hq⟩
theorem EsT.cons {e : E} {r : Es} (he : ET X k e) (hr : EsT X k r) : EsT X k (.cons e r) := by
  intro N sc nm env xs pos ρ σ Q A s hm hq R S F
  cases xs <;> first | cases hm | skip
  rename_i x xs
  replace hm : (matE sc nm e x && matEs sc nm r xs) = true := hm
  simp only [Bool.and_eq_true] at hm
  replace hq : wpE X k e ρ σ (fun v σ₁ => wpEs X k r ρ σ₁ fun l σ₂ => Q (v :: l) σ₂) := hq
  refine wpAny_items_cons (seqE (he hm.1 hq R S F) fun val s₁ v σ₁ S₁ T₁ V₁ h₁ => seqL (hr hm.2 h₁ R S₁ (F.step S S₁ T₁)) fun vals s₂ l σ₂ S₂ T₂ V₂ h₂ => ?_) (star_of hm.1 xs env)
  exact ⟨v :: l, σ₂, S₂, T₁.trans T₂ S.gfree S₂.gfree, .cons (V₁.up (T₂.up S₁)) V₂, h₂⟩
theorem Grow.push (h : Heap) (o : Obj) : Grow X h (h.push o) := .of_all fun _ _ e => Heap.get?_push_of_some _ e
theorem newTup_end {σ : AHeap} {s₁ : Shared} (S : St X N σ s₁) {h' : Heap} {tk : Nat} {a : Addr} {vs : Array Value} {l : List V} {Q : V → AHeap → Prop} (g : Grow X s₁.heap h') (ha : s₁.heap.get? a = none) (hl : IsTup h' a vs)
    (R : VRels (hid N σ) s₁.heap l vs.toList) (hn : l.length ≤ 1000) (hq : Q (.tup l) σ) : PostE X N σ s₁ Q (.ref a) { s₁ with heap := h', toks := tk } := by
  have hsz : vs.size ≤ 1000 := by have := R.length; simp only [Array.length_toList] at this; omega
  exact ⟨.tup l, σ, S.grow g, .grow g, .tup (S.hfree_of_none ha) hl hsz (R.up (g.up S)), hq⟩
theorem ET.tup {es : Es} (h : EsT X k es) : ET X k (.tup es) := by
  intro N sc nm env x ρ σ Q A s hm hq R S F
  cases x <;> first | cases hm | skip
  rename_i xs n _
  replace hm : matEs sc nm es xs = true := hm
  replace hq : wpEs X k es ρ σ (fun l σ₁ => l.length ≤ 1000 ∧ Q (.tup l) σ₁) := hq
  refine wpAny_Tuple (seqL (h hm hq R S F) fun vals s₁ l σ₁ S₁ T₁ V₁ h₁ => ?_)
  have hlen := V₁.length
  refine ⟨size_line _ (by omega), ?_⟩
  refine PostE.up S T₁ ?_
  exact newTup_end S₁ (tk := s₁.toks) (Grow.push _ _) (get_ge_none (Nat.le_refl _)) ⟨_, Heap.get?_push_size _ rfl, rfl, _, rfl⟩ V₁ h₁.1 h₁.2
theorem list_disp {es : Es} (h : EsT X k es) {new : Bool} {sc : Scope} {nm : List (PySem.Str × Nat)} {env : Env} {xs : List PySem.Expr} {pos : Pos} {ρ : List V} {σ : AHeap} {Q : V → AHeap → Prop} {A : Around} {s : Shared}
    (hm : matEs sc nm es xs = true) (hq : wpEs X k es ρ σ fun l σ₁ => mkList new l σ₁ Q) (R : Room k A) (S : St X N σ s) (F : FrOk X N sc nm env ρ σ s.heap) : wpAny (model X.prog X.w) A (eval (.List xs pos) env) (PostE X N σ s Q) NoE s := by
  refine wpAny_List (seqL (h hm hq R S F) fun vals s₁ l σ₁ S₁ T₁ V₁ h₁ => ?_)
  have hlen := V₁.length
  have hn := h₁.1
  refine ⟨size_line _ (by omega), ?_⟩
  refine PostE.up S T₁ ?_
  exact newList_end S₁ (tk := s₁.toks) (Grow.push _ _) (get_ge_none (Nat.le_refl _)) ⟨_, Heap.get?_push_size _ rfl⟩ V₁ h₁
theorem ET.lst {es : Es} (h : EsT X k es) : ET X k (.lst es) := by
  intro N sc nm env x ρ σ Q A s hm hq R S F
  cases x <;> first | cases hm | skip
  exact list_disp h hm hq R S F
theorem ET.nlst {es : Es} (h : EsT X k es) : ET X k (.nlst es) := by
  intro N sc nm env x ρ σ Q A s hm hq R S F
  cases x <;> first | cases hm | skip
  exact list_disp h hm hq R S F
theorem subs_plain {sl : PySem.Expr} (h : notSlice sl = true) (o i : Value) : subscripted sl false o i = operate [o, i] (getItem o i) := by
  cases sl <;> first | rfl | cases h
theorem bytes_array {l : List Nat} {b : Array UInt8} (e : b.toList.map UInt8.toNat = l) : b.size = l.length := by rw [← e]; simp
theorem item_any {u : V} {o : Value} {i : Int} {t : Tok} {l : List V} {v : V} {value slice : PySem.Expr} {σ : AHeap} {s : Shared} {A : Around} {Q : V → AHeap → Prop} (S : St X N σ s) (x : VRel (hid N σ) s.heap u o) (e : asItems σ u = some l) (h0 : 0 ≤ i)
    (hv : l[i.toNat]? = some v) (hq : Q v σ) (hs : subscripted slice false o (.int i t) = operate [o, .int i t] (getItem o (.int i t))) :
    wpAny (model X.prog X.w) A (subscriptTail value slice o (.int i t)) (PostE X N σ s Q) NoE s := by
  have hlt : i.toNat < l.length := (List.getElem?_eq_some_iff.mp hv).1
  cases x with
  | tup a1 a2 a3 a4 =>
    cases e
    have hlen := a4.length
    simp only [Array.length_toList] at hlen
    obtain ⟨val, hval, r⟩ := a4.get hv
    exact tail_any a2.typeIs slot_tuple_getitem.lookup (getItem_tuple (j := i.toNat) a2 (by omega) (by omega) (by unfold seqIndex?; simp; omega) (by simpa using hval) (.here S r hq)) hs
  | bytes a1 a2 =>
    rename_i ls b tk
    have hsz := bytes_array a1
    have e' : l = ls.map fun (n : Nat) => V.int (n : Int) := by cases e; rfl
    have hl2 : l.length = ls.length := by rw [e']; simp
    have e3 := getItem_bytes (prog := X.prog) (w := X.w) (A := A) (E := NoE) (s := s) (l := b.toList) (i := i) (t := tk) (u := t) (Q := PostE X N σ s Q) (by simp; omega) h0 (by simp; omega) (by
      refine .tok S ?_ hq
      rw [e', List.getElem?_map] at hv
      have hb : ls[i.toNat]? = some (b.toList.getD i.toNat 0).toNat := by
        have hlt' : i.toNat < b.toList.length := by simp; omega
        rw [← a1, List.getElem?_map, List.getElem?_eq_getElem hlt', List.getD_eq_getElem?_getD, List.getElem?_eq_getElem hlt']; rfl
      rw [hb] at hv
      cases hv
      exact .int)
    rw [Array.toArray_toList] at e3
    exact tail_any (typeIs_bytes s b tk) FB.slot_bytes_getitem.lookup e3 hs
  | list a1 a2 a3 a4 =>
    cases e
    obtain ⟨val, hval, r⟩ := a4.get hv
    have hlen := a4.length
    simp only [Array.length_toList] at hlen
    exact tail_any a2.isList.typeIs slot_list_getitem.lookup (wpAny_getItem_list a2.isList h0 (by omega) (by simpa using hval) (.here S r hq)) hs
  | ref =>
    rename_i c
    have e : asList σ (.ref c) = some l := e
    obtain ⟨a, vs, e1, a2, a3, a4⟩ := asList_inv S e .ref
    cases e1
    obtain ⟨val, hval, r⟩ := a4.get hv
    have hlen := a4.length
    simp only [Array.length_toList] at hlen
    exact tail_any a2.isList.typeIs slot_list_getitem.lookup (wpAny_getItem_list a2.isList h0 (by omega) (by simpa using hval) (.here S r hq)) hs
  | _ => cases e
theorem ET.idx {a i : E} (ha : ET X k a) (hi : ET X k i) : ET X k (.idx a i) := by
  intro N sc nm env x ρ σ Q A s hm hq R S F
  cases x <;> first | cases hm | skip
  rename_i l sl _
  replace hm : (notSlice sl && matE sc nm a l && matE sc nm i sl) = true := hm
  simp only [Bool.and_eq_true] at hm
  obtain ⟨⟨m0, m1⟩, m2⟩ := hm
  replace hq : wpE X k a ρ σ (fun u σ₁ => wpE X k i ρ σ₁ fun v σ₂ => idxP u v σ₂ fun x => Q x σ₂) := hq
  refine Subscript_ (seqE (ha m1 hq R S F) fun val s₁ u σ₁ S₁ T₁ V₁ h₁ => seqE (hi m2 h₁ R S₁ (F.step S S₁ T₁)) fun val' s₂ v σ₂ S₂ T₂ V₂ h₂ => ?_)
  have T := T₁.trans T₂ S.gfree S₂.gfree
  unfold idxP at h₂
  split at h₂
  · rename_i l' n e
    obtain ⟨t, rfl⟩ := V₂.int_inv
    obtain ⟨h0, y, hy, hq'⟩ := h₂
    exact upE S T (item_any S₂ (V₁.up (T₂.up S₁)) e h0 hy hq' (subs_plain m0 _ _))
  · exact h₂.elim
theorem getItem_list_neg1 {l : Addr} {items : Array Value} {t : Tok} {x : Value} {A : Around} {s : Shared} {Q : Value → Shared → Prop} (hl : s.heap.IsList l items) (hx : items[items.size - 1]? = some x) (hz : items.size ≤ 1000) (h : Q x s) :
    wpAny (model X.prog X.w) A (getItem (.ref l) (.int (-1) t)) Q NoE s := by
  have h0 : 0 < items.size := by have := (Array.getElem?_eq_some_iff.mp hx).1; omega
  exact wpAny_getItem_list_neg hl (by decide) (by omega) (by decide) (by rw [show ((-1 : Int) + items.size).toNat = items.size - 1 by omega]; exact hx) h
theorem ET.last {a : E} (ha : ET X k a) : ET X k (.last a) := by
  intro N sc nm env x ρ σ Q A s hm hq R S F
  cases x <;> first | cases hm | skip
  rename_i l sl _
  cases sl <;> first | cases hm | skip
  rename_i o c _
  cases o <;> first | cases hm | skip
  cases c <;> first | cases hm | skip
  rename_i c _ _
  cases c <;> first | cases hm | skip
  rename_i n
  replace hm : (n == 1 && matE sc nm a l) = true := hm
  simp only [Bool.and_eq_true, beq_iff_eq] at hm
  obtain ⟨rfl, m1⟩ := hm
  replace hq : wpE X k a ρ σ (fun u σ₁ => lastP u σ₁ fun x => Q x σ₁) := hq
  refine Subscript_ (seqE (ha m1 hq R S F) fun val s₁ u σ₁ S₁ T₁ V₁ h₁ => wpAny_UnaryOp (wpAny_Constant_int (neg_int ?_)))
  unfold lastP at h₁
  split at h₁
  · rename_i l' e
    obtain ⟨v, hv, hq'⟩ := h₁
    obtain ⟨c, vs, rfl, i1, i2, i3⟩ := asList_inv S₁ e V₁
    have hlen := i3.length
    have hl0 : 0 < l'.length := by cases l' with | nil => cases hv | cons => simp
    rw [List.getLast?_eq_getElem?] at hv
    obtain ⟨val, hval, r⟩ := i3.get hv
    simp only [Array.length_toList] at hlen
    have hx : vs[vs.size - 1]? = some val := by rw [← hlen]; simpa using hval
    have S' := S₁.tok (s₁.toks + 1 + 1)
    have T' := T₁.trans (Step.tok (X := X) (σ := σ₁) (s := s₁) (s₁.toks + 1 + 1)) S.gfree S₁.gfree
    exact upE S T' (tail_any (Heap.IsList.typeIs (s := { s₁ with toks := s₁.toks + 1 + 1 }) i1.isList) slot_list_getitem.lookup (getItem_list_neg1 (s := { s₁ with toks := s₁.toks + 1 + 1 }) i1.isList hx i2 (.here S' r hq')) rfl)
  · exact h₁.elim
theorem part_of {σ : AHeap} {h : Heap} {u : V} {val : Value} (x : VRel (hid N σ) h u val) : (u = .none → IsPart val none) ∧ ∀ i, u = .int i → IsPart val (some i) :=
  ⟨fun e => by subst e; rw [x.none_inv]; exact .none, fun i e => by subst e; obtain ⟨t, rfl⟩ := x.int_inv; exact .int i t⟩
theorem clip_nonneg (n : Nat) (a : Int) (h : 0 ≤ a) : clipAt n a = min a.toNat n := by
  have := clipAt_cast n a
  rw [if_neg (by omega)] at this
  omega
theorem cut_eq {α : Type} (l : List α) (a : Nat) (b : Option Nat) :
    cut l a b = (l.drop (min a l.length)).take ((match b with | none => l.length | some b => min b l.length) - min a l.length) := by
  have hd : l.drop (min a l.length) = l.drop a := by
    by_cases h : a ≤ l.length
    · rw [Nat.min_eq_left h]
    · rw [Nat.min_eq_right (by omega), List.drop_of_length_le (Nat.le_refl _), List.drop_of_length_le (by omega)]
  rw [hd]
  cases b with
  | none => simp only [cut]; rw [List.take_of_length_le]; rw [List.length_drop]; omega
  | some b =>
    simp only [cut]
    rw [List.drop_take]
    by_cases h : a ≤ l.length
    · by_cases h2 : b ≤ l.length
      · rw [Nat.min_eq_left h2, Nat.min_eq_left h]
      · rw [Nat.min_eq_right (by omega), Nat.min_eq_left h, List.take_of_length_le (by rw [List.length_drop]; omega), List.take_of_length_le (by rw [List.length_drop]; omega)]
    · rw [List.drop_of_length_le (by omega)]; simp
theorem part_eval {e : E} (he : ET X k e) {sc : Scope} {nm : List (PySem.Str × Nat)} {env : Env} {o : Option PySem.Expr} {ρ : List V} {σ : AHeap} {Q : V → AHeap → Prop} {A : Around} {s : Shared}
    (hm : optE (matE sc nm e) (isNoneE e) o = true) (hq : wpE X k e ρ σ Q) (R : Room k A) (S : St X N σ s) (F : FrOk X N sc nm env ρ σ s.heap) : wpAny (model X.prog X.w) A (evalPart o env) (PostE X N σ s Q) NoE s := by
  cases o with
  | some x => exact he hm hq R S F
  | none => cases e <;> first | (cases hm; done) | exact wpAny_pure (.here S .none hq)
theorem bnd_inv {lo hi : V} {Q : Nat → Option Nat → Prop} {σ : AHeap} {h : Heap} {vl vh : Value} (b : bndP lo hi Q) (x : VRel (hid N σ) h lo vl) (y : VRel (hid N σ) h hi vh) :
    ∃ la lb a b, IsPart vl la ∧ IsPart vh lb ∧ (∀ n, la.elim 0 (clipAt n) = min a n) ∧ (∀ n, lb.elim n (clipAt n) = match b with | none => n | some b => min b n) ∧ Q a b := by
  cases lo <;> cases hi <;> first | exact b.elim | skip
  · rw [x.none_inv, y.none_inv]
    exact ⟨none, none, 0, none, .none, .none, fun n => by simp, fun n => rfl, b⟩
  · obtain ⟨t, rfl⟩ := y.int_inv
    rw [x.none_inv]
    exact ⟨none, some _, 0, some _, .none, .int _ _, fun n => by simp, fun n => clip_nonneg n _ b.1, b.2⟩
  · obtain ⟨t, rfl⟩ := x.int_inv
    rw [y.none_inv]
    exact ⟨some _, none, _, none, .int _ _, .none, fun n => clip_nonneg n _ b.1, fun n => rfl, b.2⟩
  · obtain ⟨t, rfl⟩ := x.int_inv
    obtain ⟨t', rfl⟩ := y.int_inv
    exact ⟨some _, some _, _, some _, .int _ _, .int _ _, fun n => clip_nonneg n _ b.1, fun n => clip_nonneg n _ b.2.1, b.2.2⟩
theorem VRels.cut {σ : AHeap} {h : Heap} {l : List V} {vs : List Value} (x : VRels (hid N σ) h l vs) (a : Nat) (b : Option Nat) : VRels (hid N σ) h (cut l a b) (cut vs a b) := by
  cases b with
  | none => exact x.drop a
  | some b => exact (x.take b).drop a
theorem cut_length_le {α : Type} (l : List α) (a : Nat) (b : Option Nat) : (cut l a b).length ≤ l.length := by
  cases b with
  | none => simp only [Mine.cut, List.length_drop]; omega
  | some b => simp only [Mine.cut, List.length_drop, List.length_take]; omega
theorem slice_tail {u lo hi : V} {o vl vh : Value} {value : PySem.Expr} {l' h' : Option PySem.Expr} {p : Pos} {σ : AHeap} {s : Shared} {A : Around} {Q : V → AHeap → Prop} (S : St X N σ s) (x : VRel (hid N σ) s.heap u o) (xl : VRel (hid N σ) s.heap lo vl) (xh : VRel (hid N σ) s.heap hi vh)
    (h : sliceP u lo hi σ fun r => Q r σ) :
    wpAny (model X.prog X.w) A (subscriptTail value (.Slice l' h' none p) o (.ref s.heap.objs.size)) (PostE X N σ s Q) NoE { s with heap := s.heap.push { cls := .type "slice", data := .fields #[vl, vh, .none] } } := by
  obtain ⟨la, lb, a, b, pl, ph, e1, e2, h⟩ := bnd_inv h xl xh
  have g : Grow X s.heap (s.heap.push { cls := .type "slice", data := .fields #[vl, vh, .none] }) := Grow.push _ _
  have S' : St X N σ { s with heap := s.heap.push { cls := .type "slice", data := .fields #[vl, vh, .none] } } := S.grow (tk := s.toks) g
  have T' : Step X σ s σ { s with heap := s.heap.push { cls := .type "slice", data := .fields #[vl, vh, .none] } } := .grow (tk := s.toks) g
  refine upE S T' ?_
  have x' := x.up (g.up S)
  have lists : ∀ l, asList σ u = some l → Q (.list (cut l a b)) σ → wpAny (model X.prog X.w) A (subscriptTail value (.Slice l' h' none p) o (.ref s.heap.objs.size)) (PostE X N σ { s with heap := s.heap.push { cls := .type "slice", data := .fields #[vl, vh, .none] } } Q) NoE { s with heap := s.heap.push { cls := .type "slice", data := .fields #[vl, vh, .none] } } := by
    intro l e hq
    obtain ⟨c, vs, rfl, i1, i2, i3⟩ := asList_inv S' e x'
    refine tail_any (Heap.IsList.typeIs (s := { s with heap := s.heap.push { cls := .type "slice", data := .fields #[vl, vh, .none] } }) i1.isList) list_getitem_lookup
      (wpAny_getItem_list_slice i1.isList (Heap.IsSliceOf.new ..) pl ph .none (fun e => nomatch e) ?_ (size_line _ i2)) rfl
    have ep : slicePick vs la lb none = (cut vs.toList a b).toArray := by
      rw [slicePick_plain, cut_eq]
      have z1 := e1 vs.size
      have z2 := e2 vs.size
      have z3 : vs.toList.length = vs.size := by simp
      rw [z1, z2, z3]
    rw [ep]
    have r' := i3.cut a b
    have hn : (cut l a b).length ≤ 1000 := by
      have := cut_length_le l a b
      have := i3.length
      simp only [Array.length_toList] at this
      omega
    exact newList_end (new := false) S' (tk := s.toks) (Grow.push _ _) (get_ge_none (Nat.le_refl _)) ⟨_, Heap.get?_push_size _ rfl⟩ r' ⟨hn, hq⟩
  cases u with
  | bytes l =>
    cases x' with
    | bytes a1 a2 =>
      rename_i b' t
      have hsz := bytes_array a1
      have ep : KBy.picked b' la lb = (cut b'.toList a b).toArray := by
        rw [KBc.picked_eq, cut_eq]
        have z1 := e1 b'.size
        have z2 := e2 b'.size
        have z3 : b'.toList.length = b'.size := by simp
        rw [z1, z2, z3]
      have hcl := cut_length_le b'.toList a b
      have z3 : b'.toList.length = b'.size := by simp
      refine tail_any (typeIs_bytes _ b' t) FB.slot_bytes_getitem.lookup
        (getItem_meets (typeIs_bytes _ _ _) (by decide) FB.slot_bytes_getitem FB.entry_bytes_getitem (FB.args_bytes_getitem_2 _ _) (KBc.meets_slice2 b' t _ pl ph)
          ⟨Heap.IsSliceOf.new _ _ _ _, size_line _ (by rw [ep]; simp only [List.size_toArray]; omega), fun t' k => ?_⟩) rfl
      rw [ep]
      refine .tok S' (.bytes ?_ ?_) h
      · rw [List.toList_toArray, ← a1]
        cases b <;> simp [Mine.cut, List.map_take, List.map_drop]
      · simp only [List.size_toArray]; omega
  | list l => exact lists l rfl h
  | ref c =>
    have h' : (match asList σ (.ref c) with | some l => Q (.list (Mine.cut l a b)) σ | none => False) := h
    cases q : asList σ (.ref c) with
    | none => rw [q] at h'; exact h'.elim
    | some l => rw [q] at h'; exact lists _ q h'
  | _ => exact h.elim
theorem ET.slice {a lo hi : E} (ha : ET X k a) (hl : ET X k lo) (hh : ET X k hi) : ET X k (.slice a lo hi) := by
  intro N sc nm env x ρ σ Q A s hm hq R S F
  cases x <;> first | cases hm | skip
  rename_i l sl _
  cases sl <;> first | cases hm | skip
  rename_i lo' hi' st p
  cases st <;> first | cases hm | skip
  replace hm : (matE sc nm a l && optE (matE sc nm lo) (isNoneE lo) lo' && optE (matE sc nm hi) (isNoneE hi) hi') = true := hm
  simp only [Bool.and_eq_true] at hm
  obtain ⟨⟨m1, m2⟩, m3⟩ := hm
  replace hq : wpE X k a ρ σ (fun u σ₁ => wpE X k lo ρ σ₁ fun x σ₂ => wpE X k hi ρ σ₂ fun y σ₃ => sliceP u x y σ₃ fun r => Q r σ₃) := hq
  refine Subscript_ (seqE (ha m1 hq R S F) fun val s₁ u σ₁ S₁ T₁ V₁ h₁ => wpAny_Slice (seqE (part_eval hl m2 h₁ R S₁ (F.step S S₁ T₁)) fun vl s₂ x σ₂ S₂ T₂ V₂ h₂ => ?_))
  have T := T₁.trans T₂ S.gfree S₂.gfree
  refine seqE (part_eval hh m3 h₂ R S₂ (F.step S S₂ T)) fun vh s₃ y σ₃ S₃ T₃ V₃ h₃ => wpAny_pure ?_
  have T' := T.trans T₃ S.gfree S₃.gfree
  exact upE S T' (slice_tail S₃ ((V₁.up (T₂.up S₁)).up (T₃.up S₂)) (V₂.up (T₃.up S₂)) V₃ h₃)
end
end Mine
end

section
open PySem PySem.Calls PyProof.Rows PySem.W
set_option maxRecDepth 20000
namespace Mine
variable {N : Hid}
section
variable {X : Cx} {k : Nat}
section
open Builtin
theorem rev_picked (b : Array UInt8) : Bytes.sliced b (sliceBounds none none (some (-1)) b.size).1 (sliceBounds none none (some (-1)) b.size).2.1 (sliceBounds none none (some (-1)) b.size).2.2 = b.toList.reverse.toArray := by
  rw [krv_bounds]
  show ((sliceRange ((b.size : Int) - 1) (-1) (-1)).filterMap (b[·]?)).toArray = _
  rw [krv_sliceRange, krv_range, List.filterMap_reverse, krv_all]
set_option maxRecDepth 100000 in
theorem meets_rev (b : Array UInt8) (t : Tok) (a : Addr) (tk : Tok) :
    Meets («bytes.__getitem__» ⟨[.bytes b t, .ref a], []⟩) (fun _ R s => s.heap.IsSliceOf a .none .none (.int (-1) tk) ∧ b.size ≤ sizeLine ∧ ∀ t' k, R (.ok (.ret (.bytes b.toList.reverse.toArray t'))) { s with toks := k }) := by
  refine .of_wp fun prog w A R s hS => ?_
  obtain ⟨⟨o, ho, hc, hd⟩, hsz, h⟩ := hS
  have hT : s.TypeIs (.ref a) "slice" := ⟨o, ho, hc⟩
  show wpAny _ _ (Bytes.payload (.bytes b t) >>= fun r => _) _ _ s
  refine wpAny_bind (wpAny_of_eq (a := b) rfl ?_)
  show wpAny _ _ (Bytes.subscript? (.ref a) >>= fun r => _) _ _ s
  refine wpAny_bind ?_
  unfold Bytes.subscript?
  refine wpAny_bind (wpAny_specialOf hT slice_no_index (wpAny_pure ?_))
  refine wpAny_bind (wpAny_typeOf hT ?_)
  show wpAny _ _ (Bytes.sliceParts (.ref a) >>= fun r => _) _ _ s
  refine wpAny_bind ?_
  unfold Bytes.sliceParts
  refine wpAny_bind (wpAny_field (x := .int (-1) tk) ho hd rfl ?_)
  refine wpAny_bind (wpAny_ite (KBy.ite_no (show ¬ ((Value.int _ _ == Value.none) = true) from Bool.false_ne_true) ?_))
  refine wpAny_bind (wpAny_specialOf (T := "int") (typeIs_int _ _ _) F.slot_int_index.lookup ?_)
  refine wpAny_ite (KBy.ite_no (show ¬ (Option.isNone (some _) = true) from Bool.false_ne_true) ?_)
  refine wpAny_bind (wpAny_of_eq rfl (wpAny_pure ?_))
  refine wpAny_ite (KBy.ite_no (show ¬ ((rawInt (-1) == rawInt 0) = true) by decide) ?_)
  refine wpAny_bind (wpAny_field (x := .none) ho hd rfl ?_)
  refine wpAny_bind (wpAny_of_eq (a := Value.none) rfl ?_)
  refine wpAny_bind (wpAny_field (x := .none) ho hd rfl ?_)
  refine wpAny_bind (wpAny_of_eq (a := Value.none) rfl ?_)
  refine wpAny_pure ?_
  have go : wpAny (model prog w) A.in1 (sliceIndices (rawPart none) (rawPart none) (rawPart (some (-1))) b.size) (fun r s' => r = sliceBounds none none (some (-1)) b.size ∧ s' = s) (fun _ _ => False) s :=
    wpAny_of_eq (sliceIndices_raw none none (some (-1)) b.size (by decide)) ⟨rfl, rfl⟩
  refine wpAny_bind (wpAny_mono go (fun r s' hr => ?_) fun _ _ e => e.elim)
  obtain ⟨hr1, hr2⟩ := hr
  subst hr1 hr2
  have hn : ¬ (((sliceBounds none none (some (-1)) b.size).1 == 0 && (sliceBounds none none (some (-1)) b.size).2.2 == 1 && (sliceBounds none none (some (-1)) b.size).2.1 == b.size && !b.isEmpty) = true) := by
    rw [krv_bounds]; simp
  refine wpAny_ite (KBy.ite_no hn ?_)
  rw [← rev_picked] at h
  have hz : (Bytes.sliced b (sliceBounds none none (some (-1)) b.size).1 (sliceBounds none none (some (-1)) b.size).2.1 (sliceBounds none none (some (-1)) b.size).2.2).size ≤ sizeLine := by rw [rev_picked]; simpa using hsz
  exact wpAny_bind (wpAny_mkBytes (wpAny_pure ⟨_, rfl, h _ _⟩) hz)
end
theorem rev_tail {u : V} {o : Value} {tk : Tok} {value e : PySem.Expr} {p : Pos} {σ : AHeap} {s : Shared} {A : Around} {Q : V → AHeap → Prop} (S : St X N σ s) (x : VRel (hid N σ) s.heap u o) (h : revP u σ fun r => Q r σ) :
    wpAny (model X.prog X.w) A (subscriptTail value (.Slice none none (some e) p) o (.ref s.heap.objs.size)) (PostE X N σ s Q) NoE { s with heap := s.heap.push { cls := .type "slice", data := .fields #[.none, .none, .int (-1) tk] } } := by
  have g : Grow X s.heap (s.heap.push { cls := .type "slice", data := .fields #[.none, .none, .int (-1) tk] }) := Grow.push _ _
  have S' : St X N σ { s with heap := s.heap.push { cls := .type "slice", data := .fields #[.none, .none, .int (-1) tk] } } := S.grow (tk := s.toks) g
  have T' : Step X σ s σ { s with heap := s.heap.push { cls := .type "slice", data := .fields #[.none, .none, .int (-1) tk] } } := .grow (tk := s.toks) g
  refine upE S T' ?_
  have x' := x.up (g.up S)
  have lists : ∀ l, asList σ u = some l → Q (.list l.reverse) σ → wpAny (model X.prog X.w) A (subscriptTail value (.Slice none none (some e) p) o (.ref s.heap.objs.size)) (PostE X N σ { s with heap := s.heap.push { cls := .type "slice", data := .fields #[.none, .none, .int (-1) tk] } } Q) NoE { s with heap := s.heap.push { cls := .type "slice", data := .fields #[.none, .none, .int (-1) tk] } } := by
    intro l e hq
    obtain ⟨c, vs, rfl, i1, i2, i3⟩ := asList_inv S' e x'
    refine tail_any (Heap.IsList.typeIs (s := { s with heap := s.heap.push { cls := .type "slice", data := .fields #[.none, .none, .int (-1) tk] } }) i1.isList) list_getitem_lookup
      (wpAny_getItem_list_slice i1.isList (Heap.IsSliceOf.new ..) .none .none (.int _ _) (by decide) ?_ (size_line _ i2)) rfl
    rw [krv_pick]
    have hn : l.reverse.length ≤ 1000 := by
      have := i3.length
      simp only [Array.length_toList] at this
      simp only [List.length_reverse]
      omega
    exact newList_end (new := false) S' (tk := s.toks) (Grow.push _ _) (get_ge_none (Nat.le_refl _)) ⟨_, Heap.get?_push_size _ rfl⟩ i3.reverse ⟨hn, hq⟩
  cases u with
  | bytes l =>
    cases x' with
    | bytes a1 a2 =>
      rename_i b' t
      refine tail_any (typeIs_bytes _ b' t) FB.slot_bytes_getitem.lookup
        (getItem_meets (typeIs_bytes _ _ _) (by decide) FB.slot_bytes_getitem FB.entry_bytes_getitem (FB.args_bytes_getitem_2 _ _) (meets_rev b' t _ tk)
          ⟨Heap.IsSliceOf.new _ _ _ _, size_line _ a2, fun t' k => ?_⟩) rfl
      refine .tok S' (.bytes ?_ ?_) h
      · rw [List.toList_toArray, ← a1, List.map_reverse]
      · simpa using a2
  | list l => exact lists l rfl h
  | ref c =>
    have h' : (match asList σ (.ref c) with | some l => Q (.list l.reverse) σ | none => False) := h
    cases q : asList σ (.ref c) with
    | none => rw [q] at h'; exact h'.elim
    | some l => rw [q] at h'; exact lists _ q h'
  | _ => exact h.elim
theorem ET.rev {a : E} (ha : ET X k a) : ET X k (.rev a) := by
  intro N sc nm env x ρ σ Q A s hm hq R S F
  cases x <;> first | cases hm | skip
  rename_i l sl _
  cases sl <;> first | cases hm | skip
  rename_i lo hi st p
  cases lo <;> first | cases hm | skip
  cases hi <;> first | cases hm | skip
  cases st <;> first | cases hm | skip
  rename_i st
  cases st <;> first | cases hm | skip
  rename_i o c _
  cases o <;> first | cases hm | skip
  cases c <;> first | cases hm | skip
  rename_i c _ _
  cases c <;> first | cases hm | skip
  rename_i n
  replace hm : (n == 1 && matE sc nm a l) = true := hm
  simp only [Bool.and_eq_true, beq_iff_eq] at hm
  obtain ⟨rfl, m1⟩ := hm
  replace hq : wpE X k a ρ σ (fun u σ₁ => revP u σ₁ fun r => Q r σ₁) := hq
  refine Subscript_ (seqE (ha m1 hq R S F) fun val s₁ u σ₁ S₁ T₁ V₁ h₁ => wpAny_Slice (wpAny_pure (wpAny_pure ?_)))
  rw [evalPart_some]
  refine wpAny_UnaryOp (wpAny_Constant_int (neg_int ?_))
  have S' := S₁.tok (s₁.toks + 1 + 1)
  have T' := T₁.trans (Step.tok (X := X) (σ := σ₁) (s := s₁) (s₁.toks + 1 + 1)) S.gfree S₁.gfree
  exact upE S T' (rev_tail S' V₁ h₁)
theorem an_inj : ∀ i j : Nat, i < 30 → j < 30 → an i = an j → i = j := by
  have h : ∀ i : Fin 30, ∀ j : Fin 30, an i.1 = an j.1 → i.1 = j.1 := by decide +kernel
  exact fun i j hi hj e => h ⟨i, hi⟩ ⟨j, hj⟩ e
theorem FRel.look {σ : AHeap} {h : Heap} {n : Nat} (hn : n < 30) : ∀ {fs : List (Nat × V)} {es : List DictEntry}, FRel X (hid N σ) h fs es → (∀ p ∈ fs, p.1 < 30) →
    (∀ v, fs.lookup n = some v → ∃ val, getL (an n) es = some (some val) ∧ VRel (hid N σ) h v val) ∧ (fs.lookup n = none → getL (an n) es = some none)
  | _, _, .nil, _ => ⟨fun v e => (by cases e), fun _ => rfl⟩
  | _, _, .cons (k := k) (v := v) (fs := fs) (es := es) (t := t) (val := val) x r, hk => by
    have ih := FRel.look hn r fun p hp => hk p (List.mem_cons_of_mem _ hp)
    have hkk : k < 30 := hk _ List.mem_cons_self
    have key : ∀ es' : List DictEntry, getL (an n) (⟨PyData.keyHash X.w.params (an k), .str (an k) t, val⟩ :: es') = if k = n then some (some val) else getL (an n) es' := by
      intro es'
      by_cases e : k = n
      · subst e
        rw [if_pos rfl]
        unfold getL
        simp [Value.isStr]
      · rw [if_neg e]
        have ne : ¬ (an k = an n) := fun q => e (an_inj _ _ hkk hn q)
        have hb : (Value.str (an k) t).isStr (an n) = false := by simp [Value.isStr, ne]
        have hr : DictEntry.refKey ⟨PyData.keyHash X.w.params (an k), .str (an k) t, val⟩ = false := rfl
        unfold getL
        simp only [List.find?_cons, hb, List.any_cons, hr, Bool.false_or]
    rw [key]
    by_cases e : k = n
    · subst e
      rw [if_pos rfl]
      refine ⟨fun v' q => ?_, fun q => ?_⟩
      · rw [List.lookup_cons, beq_self_eq_true] at q; cases q; exact ⟨val, rfl, x⟩
      · rw [List.lookup_cons, beq_self_eq_true] at q; cases q
    · rw [if_neg e]
      have hb : (n == k) = false := by simpa using fun q : n = k => e q.symm
      rw [List.lookup_cons, hb]
      exact ih
end
end Mine
end

section
open PySem PySem.Calls PyProof.Rows PySem.W
set_option maxRecDepth 20000
namespace Mine
variable {N : Hid}
section
variable {X : Cx} {k : Nat}
theorem base_eval {l : PySem.Expr} (h : baseOk l = true) (t : PySem.Str) (pos : Pos) (env : Env) : eval (.Attribute l t pos) env = (do
      let o ← eval l env
      standAt pos.atName
      let r ← holding [o] (getAttr o t true)
      letTemporaryGo l o r
      pure r) := by
  cases l <;> first | rfl | cases h
theorem base_attr {l : PySem.Expr} (h : baseOk l = true) (t : PySem.Str) (env : Env) : attributeBase l t env (eval l env) = eval l env := by
  cases l <;> first | rfl | cases h
theorem inst_at {σ : AHeap} {s : Shared} (S : St X N σ s) {a : Addr} {C : Addr} {fs : List (Nat × V)} (e : σ a = some (.inst C fs)) :
    ∃ dx es n, σ dx = some (.sub a) ∧ InstAt s.heap a (instObj C dx) C (some (dictOf es n)) ∧ s.heap.get? a = some (instObj C dx) ∧ s.heap.get? dx = some (dictOf es n) ∧ FRel X (hid N σ) s.heap fs es ∧ C ∈ clsL ∧ fs.length ≤ 100 ∧ ∀ p ∈ fs, p.1 < 14 := by
  obtain ⟨dx, es, n, e1, e2, e3, y, hc, hl, hp⟩ := S.objs _ _ e
  exact ⟨dx, es, n, (hid_sub.mp e2).2, ⟨e1, rfl, rfl, e3⟩, e1, e3, y, hc, hl, hp⟩
theorem handed_rel {σ : AHeap} {h : Heap} {v : V} {val : Value} (x : VRel (hid N σ) h v val) (hu : v ≠ .undef) : handedIn val = true := by
  cases x <;> first | exact absurd rfl hu | rfl
theorem get_attr (B : Base X) {a : Addr} {n : Nat} {v : V} {C : Addr} {fs : List (Nat × V)} {σ : AHeap} {s : Shared} {A : Around} {Q : V → AHeap → Prop} (S : St X N σ s) (e : σ a = some (.inst C fs)) (hn : n < 14) (hv : fs.lookup n = some v) (hu : v ≠ .undef) (hq : Q v σ) :
    wpAny (model X.prog X.w) A (getAttr (.ref a) (an n) true) (PostE X N σ s Q) NoE s := by
  obtain ⟨dx, es, m, _, I, _, _, y, hc, _, hp⟩ := inst_at S e
  obtain ⟨val, hg, r⟩ := (y.look (by omega) (fun p hp' => by have := hp p hp'; omega)).1 v hv
  obtain ⟨c1, c2, c3, c4, c5⟩ := B.cls C hc
  have K' := B.inK.keeps S.keep
  exact get_value K' I (plainGet_of c2).1 (findObj_own c1 (B.attrs C hc n hn).1 rfl (by rw [lookIn_dict]; exact hg)) (handed_rel r hu) (.tok S r hq)
theorem ET.attr (B : Base X) {a : E} {n : Nat} (ha : ET X k a) : ET X k (.attr a n) := by
  intro N sc nm env x ρ σ Q A s hm hq R S F
  cases x <;> first | cases hm | skip
  rename_i l t _
  replace hm : (t == an n && decide (n < 14) && baseOk l && matE sc nm a l) = true := hm
  simp only [Bool.and_eq_true, beq_iff_eq, decide_eq_true_eq] at hm
  obtain ⟨⟨⟨rfl, hn⟩, hb⟩, m1⟩ := hm
  replace hq : wpE X k a ρ σ (fun u σ₁ => attrP u n σ₁ fun r => Q r σ₁) := hq
  refine Attribute_any_ (seqE (ha m1 hq R S F) fun val s₁ u σ₁ S₁ T₁ V₁ h₁ => ?_) (base_eval hb _ _ _)
  unfold attrP at h₁
  split at h₁ <;> first | exact h₁.elim | skip
  rename_i c
  split at h₁ <;> first | exact h₁.elim | skip
  rename_i C fs e
  obtain ⟨v, hv, hu, hq'⟩ := h₁
  obtain rfl := V₁.ref_inv
  exact upE S T₁ (get_attr B S₁ e hn hv hu hq')
theorem cattr_inv {u : V} {n : Nat} {w : V} {σ : AHeap} {Q : V → Prop} (h : cattrP u n w σ Q) : ∃ a fs, u = .ref a ∧ σ a = some (.inst 307 fs) ∧ fs.lookup n = none ∧ Q w := by
  unfold cattrP at h
  split at h <;> first | exact h.elim | skip
  split at h <;> first | exact h.elim | skip
  rename_i e
  obtain ⟨rfl, h1, h2⟩ := h
  exact ⟨_, _, rfl, e, h1, h2⟩
theorem get_cattr (B : Base X) {a : Addr} {n : Nat} {v : V} {val : Value} {fs : List (Nat × V)} {σ : AHeap} {s : Shared} {A : Around} {Q : V → AHeap → Prop} (S : St X N σ s) (e : σ a = some (.inst 307 fs)) (hn : n < 30) (hv : fs.lookup n = none)
    (h1 : findIn X.K (.ref 307) (an n) = some (some val)) (h2 : specialIn X.K val "__get__" = some none) (h3 : handedIn val = true) (h4 : copiedNames.contains (an n) = false) (r : VRel (hid N σ) s.heap v val) (hq : Q v σ) :
    wpAny (model X.prog X.w) A (getAttr (.ref a) (an n) true) (PostE X N σ s Q) NoE s := by
  obtain ⟨dx, es, m, _, I, _, _, y, hc, _, hp⟩ := inst_at S e
  have hg := (y.look hn (fun p hp' => by have := hp p hp'; omega)).2 hv
  obtain ⟨c1, c2, c3, c4, c5⟩ := B.cls 307 hc
  exact get_value (B.inK.keeps S.keep) I (plainGet_of c2).1 (findObj_cls c1 h1 h2 h3 h4 (by rw [lookIn_dict]; exact hg)) h3 (.tok S r hq)
theorem ET.layers (B : Base X) {a : E} (ha : ET X k a) : ET X k (.layers a) := by
  intro N sc nm env x ρ σ Q A s hm hq R S F
  cases x <;> first | cases hm | skip
  rename_i l t _
  replace hm : (t == an 28 && baseOk l && matE sc nm a l) = true := hm
  simp only [Bool.and_eq_true, beq_iff_eq] at hm
  obtain ⟨⟨rfl, hb⟩, m1⟩ := hm
  replace hq : wpE X k a ρ σ (fun u σ₁ => cattrP u 28 (.tup [.int 2, .int 3]) σ₁ fun r => Q r σ₁) := hq
  refine Attribute_any_ (seqE (ha m1 hq R S F) fun val s₁ u σ₁ S₁ T₁ V₁ h₁ => ?_) (base_eval hb _ _ _)
  obtain ⟨c, fs, rfl, e, hv, hq'⟩ := cattr_inv h₁
  obtain rfl := V₁.ref_inv
  obtain ⟨o, o1, o2, ⟨n, t, u, o3⟩, o4, o5⟩ := B.layers
  have ho := B.inK _ _ o1
  have r : VRel (hid N σ₁) s₁.heap (.tup [.int 2, .int 3]) (.ref 284) := .tup (S₁.hnone_of_H0 ho) ⟨o, S₁.keep _ _ ho, o2, n, o3⟩ (by simp) (.cons .int (.cons .int .nil))
  exact upE S T₁ (get_cattr B S₁ e (by decide) hv o4 o5 rfl (by decide +kernel) r hq')
theorem ET.treesize (B : Base X) {a : E} (ha : ET X k a) : ET X k (.treesize a) := by
  intro N sc nm env x ρ σ Q A s hm hq R S F
  cases x <;> first | cases hm | skip
  rename_i l t _
  replace hm : (t == an 29 && baseOk l && matE sc nm a l) = true := hm
  simp only [Bool.and_eq_true, beq_iff_eq] at hm
  obtain ⟨⟨rfl, hb⟩, m1⟩ := hm
  replace hq : wpE X k a ρ σ (fun u σ₁ => cattrP u 29 (.int 4) σ₁ fun r => Q r σ₁) := hq
  refine Attribute_any_ (seqE (ha m1 hq R S F) fun val s₁ u σ₁ S₁ T₁ V₁ h₁ => ?_) (base_eval hb _ _ _)
  obtain ⟨c, fs, rfl, e, hv, hq'⟩ := cattr_inv h₁
  obtain rfl := V₁.ref_inv
  obtain ⟨t, o4, o5⟩ := B.treesize
  exact upE S T₁ (get_cattr B S₁ e (by decide) hv o4 o5 rfl (by decide +kernel) .int hq')
theorem ET.frz {a : E} (ha : ET X k a) : ET X k (.frz a) := by
  intro N sc nm env x ρ σ Q A s hm hq R S F
  replace hm : matE sc nm a x = true := hm
  replace hq : wpE X k a ρ σ (fun u σ₁ => frzP u σ₁ Q) := hq
  refine seqE (ha hm hq R S F) fun val s₁ u σ₁ S₁ T₁ V₁ h₁ => ?_
  unfold frzP at h₁
  split at h₁ <;> first | exact h₁.elim | skip
  rename_i c
  split at h₁ <;> first | exact h₁.elim | skip
  rename_i l e
  obtain rfl := V₁.ref_inv
  obtain ⟨vs, i1, i2, i3⟩ := S₁.objs _ _ e
  have nc := S₁.hid_tracked e
  have sub : ∀ b o, del σ₁ c b = some o → σ₁ b = some o ∧ b ≠ c := fun b o q => by
    by_cases z : b = c
    · subst z; rw [del_self] at q; cases q
    · rw [del_ne z] at q; exact ⟨q, z⟩
  have kn : ∀ b, σ₁ b = Option.none → del σ₁ c b = Option.none := fun b q => by
    by_cases z : b = c
    · subst z; exact del_self
    · rw [del_ne z]; exact q
  have u : Up X.G (hid N σ₁) s₁.heap (hid N (del σ₁ c)) s₁.heap := ⟨fun b o n e q => ⟨e, hid_none.mpr ⟨(hid_none.mp q).1, kn b (hid_none.mp q).2⟩⟩, S₁.ns⟩
  have gn : del σ₁ c X.G = Option.none := kn _ S₁.gfree
  have sb : ∀ b dx, σ₁ dx = some (.sub b) → del σ₁ c dx = some (.sub b) := fun b dx z => by
    rw [del_ne]
    · exact z
    · intro y; subst y; rw [e] at z; cases z
  have S₂ : St X N (del σ₁ c) s₁ := ⟨S₁.keep, fun b o q => S₁.fresh b o (sub b o q).1, fun b o q => (S₁.objs b o (sub b o q).1).up u (fun _ e => e) (fun dx z => ⟨hid_sub.mpr ⟨(hid_sub.mp z).1, sb _ _ (hid_sub.mp z).2⟩, fun _ e => e⟩), fun b o q => S₁.live b o (sub b o q).1, S₁.ns, gn, S₁.gH0,
    fun a o q => let ⟨h1, h2, h3, h4⟩ := S₁.hids a o q; ⟨kn a h1, h2, h3, h4⟩⟩
  have T₂ : Step X σ₁ s₁ (del σ₁ c) s₁ := ⟨fun _ _ _ e _ => e, fun _ n => n, fun b o q q' => (by rw [(sub b o q').1] at q; cases q), fun _ o e => ⟨o, e⟩, s₁.heap, s₁.toks, rfl⟩
  exact ⟨.list l, del σ₁ c, S₂, T₁.trans T₂ S.gfree gn, .list (hid_none.mpr ⟨nc, del_self⟩) i1 i2 (i3.up u), h₁⟩
theorem ET.ndict : ET X k .ndict := by
  intro N sc nm env x ρ σ Q A s hm hq R S F
  cases x <;> first | cases hm | skip
  rename_i ks vs _
  match ks, vs with
  | [], [] =>
    show wpAny _ _ (do
      standAt _
      dictDisplay []) _ _ _
    refine wpAny_bind (wpAny_standAt ?_)
    show wpAny _ _ (newDict) _ _ _
    refine wpAny_newObj_type ?_ (by show (0:Nat) ≤ _; omega)
    have hn : s.heap.get? s.heap.objs.size = Option.none := get_ge_none (Nat.le_refl _)
    obtain ⟨S', T'⟩ := S.add (h' := s.heap.push { cls := .type "dict", data := .dict #[] }) (tk := s.toks) (o := .dict 0 fun _ => Option.none) (Grow.push _ _) hn (Heap.get?_push_size _ rfl) ⟨fun _ => Option.none, Heap.MapOf.new _, ⟨Heap.DictLe.new _, by omega⟩, fun _ => trivial⟩
    exact ⟨.ref _, _, S', T', .ref, hq _ (S.free_of_none hn)⟩
  | _ :: _, _ => cases hm
  | [], _ :: _ => cases hm
end
end Mine
end

section
open PySem PySem.Calls PyProof.Rows PySem.W
set_option maxRecDepth 20000
namespace Mine
variable {N : Hid}
section
variable {X : Cx} {k : Nat}
theorem backTo_cons (pos : Pos) (t : Sem Value) (r : List (Bool × Sem Value)) : backTo pos ((false, t) :: r) = (false, t) :: backTo pos r := rfl
theorem args_plain {sc : Scope} {nm : List (PySem.Str × Nat)} {pos : Pos} {env : Env} : ∀ {es : Es} {xs : List PySem.Expr}, matEs sc nm es xs = true → (backTo pos (starEach xs env)).any (·.1) = false ∧ (backTo pos (starEach xs env)).all (fun x => !x.1) = true
  | .nil, [], _ => ⟨rfl, rfl⟩
  | .nil, _ :: _, h => (by cases h)
  | .cons _ _, [], h => (by cases h)
  | .cons e r, x :: xs, h => by
    have h' : (matE sc nm e x && matEs sc nm r xs) = true := h
    simp only [Bool.and_eq_true] at h'
    rw [star_of h'.1, backTo_cons]
    have ih := args_plain (pos := pos) (env := env) h'.2
    exact ⟨by rw [List.any_cons, ih.1]; rfl, by rw [List.all_cons, ih.2]; rfl⟩
theorem evalArgs_E {es : Es} (h : EsT X k es) {sc : Scope} {nm : List (PySem.Str × Nat)} {env : Env} {xs : List PySem.Expr} {pos : Pos} {ρ : List V} {σ : AHeap} {Q : List V → AHeap → Prop} {A : Around} {s : Shared} {f : Value} {G : Args → Shared → Prop}
    (hm : matEs sc nm es xs = true) (hq : wpEs X k es ρ σ Q) (R : Room k A) (S : St X N σ s) (F : FrOk X N sc nm env ρ σ s.heap)
    (g : ∀ vals s₁ l σ₁, St X N σ₁ s₁ → Step X σ s σ₁ s₁ → VRels (hid N σ₁) s₁.heap l vals → Q l σ₁ → G ⟨vals, []⟩ s₁) :
    wpAny (model X.prog X.w) A (evalArgs f true (backTo pos (starEach xs env)) []) G NoE s := by
  have h1 := seqL (h (pos := pos) hm hq R S F) (G := fun vals s₁ => G ⟨vals, []⟩ s₁) g
  cases es with
  | nil =>
    cases xs <;> first | cases hm | skip
    exact evalArgs_nil3 (g [] s [] σ S (.refl ..) .nil hq)
  | cons e r =>
    cases xs <;> first | cases hm | skip
    rename_i x xs
    have hm' : (matE sc nm e x && matEs sc nm r xs) = true := hm
    simp only [Bool.and_eq_true] at hm'
    rw [star_of hm'.1, backTo_cons] at h1 ⊢
    exact evalArgs_plain h1
def Kept (X : Cx) (f : Value) : Prop := ∀ h, X.K.In h → ∃ q, (q = Keeper.frame ∨ q = Keeper.machine ∨ q = Keeper.boundFrame) ∧ Looks (model X.prog X.w) h (keeperOf f) q
theorem kept_K {f : Value} (h : keepIn X.K f = true) : Kept X f := keeps_K h
theorem kept_b (id : String) : Kept X (.builtin id) := fun _ _ => ⟨.machine, .inr (.inl rfl), .now⟩
theorem kept_t (id : String) : Kept X (.type id) := fun _ _ => ⟨.machine, .inr (.inl rfl), .now⟩
theorem callWith_E (B : Base X) {es : Es} (h : EsT X k es) {sc : Scope} {nm : List (PySem.Str × Nat)} {env : Env} {xs : List PySem.Expr} {pos p2 : Pos} {ρ : List V} {σ : AHeap} {Q : List V → AHeap → Prop} {A : Around} {s : Shared} {f : Value} {first : List Value} {G : Value → Shared → Prop}
    (hk : Kept X f) (hm : matEs sc nm es xs = true) (hq : wpEs X k es ρ σ Q) (R : Room k A) (S : St X N σ s) (F : FrOk X N sc nm env ρ σ s.heap)
    (g : ∀ vals s₁ l σ₁, St X N σ₁ s₁ → Step X σ s σ₁ s₁ → VRels (hid N σ₁) s₁.heap l vals → Q l σ₁ → wpAny (model X.prog X.w) A (call f (first ++ vals)) G NoE s₁) :
    wpAny (model X.prog X.w) A (callWith p2 f first (backTo pos (starEach xs env)) []) G NoE s := by
  refine callWith_of (P := fun h => X.K.In h) (by rw [(args_plain hm).1]; rfl) hk (evalArgs_E h hm hq R S F fun vals s₁ l σ₁ S₁ T₁ V₁ h₁ => ⟨B.inK.keeps S₁.keep, ?_⟩)
  exact g vals s₁ l σ₁ S₁ T₁ V₁ h₁
theorem call_name (B : Base X) {es : Es} (h : EsT X k es) {sc : Scope} {nm : List (PySem.Str × Nat)} {env : Env} {xs : List PySem.Expr} {id : PySem.Str} {p pos : Pos} {ρ : List V} {σ : AHeap} {Q' : List V → AHeap → Prop} {Q : V → AHeap → Prop} {A : Around} {s : Shared} {f : Value}
    (hk : Kept X f) (hn : wpAny (model X.prog X.w) A (eval (.Name id p) env) (fun v s' => v = f ∧ s' = s) NoE s) (hm : matEs sc nm es xs = true) (hq : wpEs X k es ρ σ Q') (R : Room k A) (S : St X N σ s) (F : FrOk X N sc nm env ρ σ s.heap)
    (g : ∀ vals s₁ l σ₁, St X N σ₁ s₁ → VRels (hid N σ₁) s₁.heap l vals → Q' l σ₁ → wpAny (model X.prog X.w) A (call f vals) (PostE X N σ₁ s₁ Q) NoE s₁) :
    wpAny (model X.prog X.w) A (eval (.Call (.Name id p) xs [] pos) env) (PostE X N σ s Q) NoE s := by
  refine Call_Name rfl (wpAny_mono hn (fun v s' e => ?_) fun _ _ x => x)
  obtain ⟨rfl, rfl⟩ := e
  exact callWith_E B (first := []) h hk hm hq R S F fun vals s₁ l σ₁ S₁ T₁ V₁ h₁ => upE S T₁ (g vals s₁ l σ₁ S₁ V₁ h₁)
theorem ET.callf (B : Base X) {f : Nat} {es : Es} (h : EsT X k es) : ET X k (.callf f es) := by
  intro N sc nm env x ρ σ Q A s hm hq R S F
  cases x <;> first | cases hm | skip
  rename_i fn xs kws pos
  cases fn <;> first | cases hm | skip
  rename_i id p
  cases kws <;> first | cases hm | skip
  replace hm : (isGlob sc id (gn f) && decide (f < 18) && matEs sc nm es xs) = true := hm
  simp only [Bool.and_eq_true, decide_eq_true_eq] at hm
  obtain ⟨⟨m1, m2⟩, m3⟩ := hm
  obtain ⟨rfl, g2, g3⟩ := isGlob_inv m1
  replace hq : wpEs X k es ρ σ (fun l σ₁ => WC X k (.ref (ga f)) l σ₁ Q) := hq
  obtain ⟨b1, b2⟩ := B.gl f m2
  exact call_name B h (kept_K b2) (load_glob B S F g2 g3 b1 ⟨rfl, rfl⟩) m3 hq R S F fun vals s₁ l σ₁ S₁ V₁ h₁ => h₁ N A s₁ vals R S₁ V₁
theorem blt_call (B : Base X) {name : String} {f : Value} {es : Es} (h : EsT X k es) (hn : name ∈ (["len", "range", "min", "max", "list", "tuple", "bytes", "sorted"] : List String)) (hb : bootBuiltins (PySem.Str.ofString name) = some f)
    (hne : PySem.Str.ofString name ≠ "__name__") (hk : Kept X f)
    {sc : Scope} {nm : List (PySem.Str × Nat)} {env : Env} {xs : List PySem.Expr} {id : PySem.Str} {p pos : Pos} {ρ : List V} {σ : AHeap} {Q' : List V → AHeap → Prop} {Q : V → AHeap → Prop} {A : Around} {s : Shared}
    (m1 : isGlob sc id (PySem.Str.ofString name) = true) (hm : matEs sc nm es xs = true) (hq : wpEs X k es ρ σ Q') (R : Room k A) (S : St X N σ s) (F : FrOk X N sc nm env ρ σ s.heap)
    (g : ∀ vals s₁ l σ₁, St X N σ₁ s₁ → VRels (hid N σ₁) s₁.heap l vals → Q' l σ₁ → wpAny (model X.prog X.w) A (call f vals) (PostE X N σ₁ s₁ Q) NoE s₁) :
    wpAny (model X.prog X.w) A (eval (.Call (.Name id p) xs [] pos) env) (PostE X N σ s Q) NoE s := by
  obtain ⟨rfl, g2, g3⟩ := isGlob_inv m1
  exact call_name B h hk (load_blt B S F g2 g3 (B.blt _ hn) hb hne ⟨rfl, rfl⟩) hm hq R S F g
theorem EsT.one {a : E} (h : ET X k a) : EsT X k (.cons a .nil) := EsT.cons h EsT.nil
theorem EsT.two {a b : E} (h : ET X k a) (h' : ET X k b) : EsT X k (.cons a (.cons b .nil)) := EsT.cons h (EsT.one h')
theorem call_dot (B : Base X) {o : E} {es : Es} (ho : ET X k o) (h : EsT X k es) {sc : Scope} {nm : List (PySem.Str × Nat)} {env : Env} {ob : PySem.Expr} {xs : List PySem.Expr} {t : PySem.Str} {ap pos : Pos} {ρ : List V} {σ : AHeap} {Q₁ : V → AHeap → Prop} {Q : V → AHeap → Prop} {A : Around} {s : Shared}
    (hb : baseOk ob = true) (hlen : xs.length < 30) (hl : (ap.endLine == pos.line) = true) (hmo : matE sc nm o ob = true) (hqo : wpE X k o ρ σ Q₁) (hm : matEs sc nm es xs = true) (R : Room k A) (S : St X N σ s) (F : FrOk X N sc nm env ρ σ s.heap)
    (g : ∀ u val s₁ σ₁, St X N σ₁ s₁ → VRel (hid N σ₁) s₁.heap u val → Q₁ u σ₁ → FrOk X N sc nm env ρ σ₁ s₁.heap → ∃ f first Q₂, Kept X f ∧ (∀ pl G', G' (f, first) s₁ → wpAny (model X.prog X.w) A (getMethod val t pl) G' NoE s₁) ∧ wpEs X k es ρ σ₁ Q₂ ∧
      (∀ vals s₂ l σ₂, St X N σ₂ s₂ → Step X σ₁ s₁ σ₂ s₂ → VRels (hid N σ₂) s₂.heap l vals → Q₂ l σ₂ → wpAny (model X.prog X.w) A (call f (first ++ vals)) (PostE X N σ₂ s₂ Q) NoE s₂)) :
    wpAny (model X.prog X.w) A (eval (.Call (.Attribute ob t ap) xs [] pos) env) (PostE X N σ s Q) NoE s := by
  rw [arm_eval_Call, base_attr hb]
  refine wpAny_bind (seqE (ho hmo hqo R S F) fun val s₁ u σ₁ S₁ T₁ V₁ h₁ => ?_)
  have F₁ := F.step S S₁ T₁
  obtain ⟨f, first, Q₂, hk, hget, hq2, hcall⟩ := g u val s₁ σ₁ S₁ V₁ h₁ F₁
  refine wpAny_bind (wpAny_standAt ?_)
  have hform : methodCallForm (xs.length + ([] : List Keyword).length) (backTo pos (starEach xs env)) (backToKw pos (keywordEach [] env)) = true := by
    show ((backTo pos (starEach xs env)).all (fun x => !x.1) && true && decide (xs.length + 0 + 0 < 30)) = true
    rw [(args_plain hm).2]
    simpa using hlen
  have hpos : methodCallPos true ob env ap pos = pure pos := by unfold methodCallPos; simp [hl]
  unfold methodCall
  rw [hform]
  refine wpAny_bind (wpAny_holding (hget _ _ ?_))
  refine wpAny_bind (wpAny_of_eq hpos ?_)
  exact callWith_E B (first := first) h hk hm hq2 R S₁ F₁ fun vals s₂ l σ₂ S₂ T₂ V₂ h₂ => upE S (T₁.trans T₂ S.gfree S₂.gfree) (hcall vals s₂ l σ₂ S₂ T₂ V₂ h₂)
theorem methP_inv {u : V} {m : Nat} {σ : AHeap} {Q : Addr → Addr → Prop} (h : methP u m σ Q) : ∃ a C fs f, u = .ref a ∧ σ a = some (.inst C fs) ∧ fs.lookup m = none ∧ meth C m = some f ∧ Q a f := by
  unfold methP at h
  split at h <;> first | exact h.elim | skip
  split at h <;> first | exact h.elim | skip
  rename_i e
  obtain ⟨h1, f, h2, h3⟩ := h
  exact ⟨_, _, _, f, rfl, e, h1, h2, h3⟩
theorem meth_lt {C m f : Nat} (h : meth C m = some f) : m < 30 := by
  unfold meth at h
  obtain ⟨p, hp, rfl⟩ := Option.map_eq_some_iff.mp h
  have h1 := List.find?_some hp
  simp only [Bool.and_eq_true, beq_iff_eq] at h1
  have h2 : p ∈ methL := List.mem_of_find?_eq_some hp
  have h3 : ∀ p ∈ methL, p.2.1 < 30 := by decide
  have := h3 p h2
  omega
theorem ET.meth (B : Base X) {o : E} {m : Nat} {es : Es} (ho : ET X k o) (h : EsT X k es) : ET X k (.meth o m es) := by
  intro N sc nm env x ρ σ Q A s hm hq R S F
  cases x <;> first | cases hm | skip
  rename_i fn xs kws pos
  cases fn <;> first | cases hm | skip
  rename_i b t ap
  cases kws <;> first | cases hm | skip
  replace hm : (t == an m && decide (xs.length < 30) && baseOk b && ap.endLine == pos.line && matE sc nm o b && matEs sc nm es xs) = true := hm
  simp only [Bool.and_eq_true, decide_eq_true_eq, beq_iff_eq] at hm
  obtain ⟨⟨⟨⟨⟨rfl, m2⟩, m3⟩, m4⟩, m5⟩, m6⟩ := hm
  replace hq : wpE X k o ρ σ (fun u σ₁ => methP u m σ₁ fun a f => wpEs X k es ρ σ₁ fun l σ₂ => WC X k (.ref f) (.ref a :: l) σ₂ Q) := hq
  refine call_dot B ho h m3 m2 (beq_iff_eq.mpr m4) m5 hq m6 R S F fun u val s₁ σ₁ S₁ V₁ h₁ F₁ => ?_
  obtain ⟨a, C, fs, f, rfl, e, hf, hmeth, hq2⟩ := methP_inv h₁
  obtain rfl := V₁.ref_inv
  obtain ⟨dx, es', n, _, I, _, _, y, hc, _, hp⟩ := inst_at S₁ e
  obtain ⟨b1, b2, b3⟩ := B.meths C m f hmeth
  obtain ⟨c1, c2, c3, c4, c5⟩ := B.cls C hc
  have hg := (y.look (meth_lt hmeth) (fun p hp' => by have := hp p hp'; omega)).2 hf
  refine ⟨.ref f, [.ref a], _, kept_K b3, fun pl G' hG => ?_, hq2, fun vals s₂ l σ₂ S₂ T₂ V₂ h₂ => h₂ N A s₂ _ R S₂ (.cons .ref V₂)⟩
  exact method_fn (B.inK.keeps S₁.keep) I (plainGet_of c2).1 (plainGet_of (name := an 0) c2).2 b1 (beq_iff_eq.mp b2) (by show (lookIn _ (dictOf es' n)).map _ = _; rw [lookIn_dict, hg]; rfl) hG
theorem ET.cmeth (B : Base X) {c m : Nat} {es : Es} (h : EsT X k es) : ET X k (.cmeth c m es) := by
  intro N sc nm env x ρ σ Q A s hm hq R S F
  cases x <;> first | cases hm | skip
  rename_i fn xs kws pos
  cases fn <;> first | cases hm | skip
  rename_i b t ap
  cases b <;> first | cases hm | skip
  rename_i id p
  cases kws <;> first | cases hm | skip
  replace hm : (c == 1 && m == 27 && isGlob sc id (gn 1) && t == an 27 && decide (xs.length < 30) && ap.endLine == pos.line && matEs sc nm es xs) = true := hm
  simp only [Bool.and_eq_true, decide_eq_true_eq, beq_iff_eq] at hm
  obtain ⟨⟨⟨⟨⟨⟨rfl, rfl⟩, m1⟩, rfl⟩, m2⟩, m4⟩, m6⟩ := hm
  obtain ⟨rfl, g2, g3⟩ := isGlob_inv m1
  replace hq : ∃ f, Mine.meth (ga 1) 27 = some f ∧ wpEs X k es ρ σ fun l σ₁ => WC X k (.ref f) l σ₁ Q := hq
  obtain ⟨f, hf, hq⟩ := hq
  have hf' : f = 110 := by
    have : Mine.meth (ga 1) 27 = some 110 := by decide +kernel
    rw [this] at hf; cases hf; rfl
  subst hf'
  obtain ⟨mi1, mc, mi2, mi3⟩ := B.minit
  obtain ⟨b1, b2, b3⟩ := B.meths 183 27 110 (by decide +kernel)
  rw [arm_eval_Call]
  refine wpAny_bind (load_glob B S F g2 g3 (B.gl 1 (by decide)).1 ?_)
  refine wpAny_bind (wpAny_standAt ?_)
  have hform : methodCallForm (xs.length + ([] : List Keyword).length) (backTo pos (starEach xs env)) (backToKw pos (keywordEach [] env)) = true := by
    show ((backTo pos (starEach xs env)).all (fun x => !x.1) && true && decide (xs.length + 0 + 0 < 30)) = true
    rw [(args_plain m6).2]
    simpa using m2
  have hpos : methodCallPos true (.Name (gn 1) p) env ap pos = pure pos := by unfold methodCallPos; simp [m4]
  unfold methodCall
  rw [hform]
  have S₁ := S.tok (s.toks + 1)
  have T₁ := Step.tok (X := X) (σ := σ) (s := s) (s.toks + 1)
  refine wpAny_bind (wpAny_holding (method_cls (B.inK.keeps S.keep) mi1 (cls_value (B.inK.keeps S.keep) mi2 mi3 rfl ?_)))
  refine wpAny_bind (wpAny_of_eq hpos ?_)
  exact callWith_E B (first := []) h (kept_K b3) m6 hq R S₁ (F.step S S₁ T₁) fun vals s₂ l σ₂ S₂ T₂ V₂ h₂ => upE S (T₁.trans T₂ S.gfree S₂.gfree) (h₂ N A s₂ vals R S₂ V₂)
end
end Mine
end

section
open PySem PySem.Calls PyProof.Rows PySem.W
set_option maxRecDepth 20000
namespace Mine
variable {N : Hid}
section
variable {X : Cx} {k : Nat}
theorem intsOf_eq : ∀ {l : List V} {x : List Int}, intsOf l = some x → l = x.map .int
  | [], _, e => by cases e; rfl
  | .int i :: r, _, e => by
    obtain ⟨y, hy, rfl⟩ := Option.map_eq_some_iff.mp e
    rw [intsOf_eq hy]; rfl
  | .undef :: _, _, e => by cases e
  | .none :: _, _, e => by cases e
  | .bool _ :: _, _, e => by cases e
  | .str _ :: _, _, e => by cases e
  | .bytes _ :: _, _, e => by cases e
  | .tup _ :: _, _, e => by cases e
  | .list _ :: _, _, e => by cases e
  | .ref _ :: _, _, e => by cases e
theorem intsOf_map : ∀ x : List Int, intsOf (x.map .int) = some x
  | [] => rfl
  | i :: r => by show (intsOf (r.map .int)).map (i :: ·) = _; rw [intsOf_map r]; rfl
theorem VRels.ints {σ : AHeap} {h : Heap} : ∀ {x : List Int} {vs : List Value}, VRels (hid N σ) h (x.map .int) vs → IntsAre vs x
  | [], _, .nil => .nil
  | _ :: _, _, .cons v r => by obtain ⟨t, rfl⟩ := v.int_inv; exact .cons _ t r.ints
theorem VRels.of_ints {σ : AHeap} {h : Heap} : ∀ {vs : List Value} {x : List Int}, IntsAre vs x → VRels (hid N σ) h (x.map .int) vs
  | _, _, .nil => .nil
  | _, _, .cons _ _ r => .cons .int (VRels.of_ints r)
theorem len_call {u : V} {val : Value} {σ : AHeap} {s : Shared} {A : Around} {Q : Int → Prop} {G : Value → Shared → Prop} (S : St X N σ s) (x : VRel (hid N σ) s.heap u val) (h : lenP u σ Q) (g : ∀ i t tk, Q i → G (.int i t) { s with toks := tk }) :
    wpAny (model X.prog X.w) A (call (.builtin "len") [val]) G NoE s := by
  unfold lenP at h
  split at h <;> first | exact h.elim | skip
  rename_i l e
  have lists : asList σ u = some l → wpAny (model X.prog X.w) A (call (.builtin "len") [val]) G NoE s := fun e => by
    obtain ⟨c, vs, rfl, i1, i2, i3⟩ := asList_inv S e x
    have hl := i3.length
    simp only [Array.length_toList] at hl
    refine PyProof.Rows.len_list i1.isList (by omega) (g _ _ _ ?_)
    rw [← hl]; exact h
  cases x with
  | tup a1 a2 a3 a4 =>
    cases e
    have hl := a4.length
    simp only [Array.length_toList] at hl
    refine PyProof.Rows.len_tuple a2 (by omega) (g _ _ _ ?_)
    rw [← hl]; exact h
  | bytes a1 a2 =>
    rename_i ls b tk
    have hsz := bytes_array a1
    have e' : l = ls.map fun (n : Nat) => V.int (n : Int) := by cases e; rfl
    have hl2 : l.length = ls.length := by rw [e']; simp
    refine PySem.W.len_bytes (by omega) (g _ _ _ ?_)
    rw [hsz, ← hl2]; exact h
  | list => exact lists e
  | ref => exact lists e
  | _ => cases e
theorem blt1 (B : Base X) {name : String} {f : Value} {a : E} (ha : ET X k a) (hn : name ∈ (["len", "range", "min", "max", "list", "tuple", "bytes", "sorted"] : List String)) (hb : bootBuiltins (PySem.Str.ofString name) = some f)
    (hne : PySem.Str.ofString name ≠ "__name__") (hk : Kept X f)
    {sc : Scope} {nm : List (PySem.Str × Nat)} {env : Env} {x : PySem.Expr} {id : PySem.Str} {p pos : Pos} {ρ : List V} {σ : AHeap} {Q' Q : V → AHeap → Prop} {A : Around} {s : Shared}
    (hm : (isGlob sc id (PySem.Str.ofString name) && matE sc nm a x) = true) (hq : wpE X k a ρ σ Q') (R : Room k A) (S : St X N σ s) (F : FrOk X N sc nm env ρ σ s.heap)
    (g : ∀ val s₁ u σ₁, St X N σ₁ s₁ → VRel (hid N σ₁) s₁.heap u val → Q' u σ₁ → wpAny (model X.prog X.w) A (call f [val]) (PostE X N σ₁ s₁ Q) NoE s₁) :
    wpAny (model X.prog X.w) A (eval (.Call (.Name id p) [x] [] pos) env) (PostE X N σ s Q) NoE s := by
  simp only [Bool.and_eq_true] at hm
  refine blt_call B (EsT.one ha) hn hb hne hk (Q' := fun l σ₁ => ∃ u, l = [u] ∧ Q' u σ₁) hm.1 (by show (matE sc nm a x && true) = true; rw [hm.2]; rfl) ?_ R S F ?_
  · show wpE X k a ρ σ (fun v σ₁ => ∃ u, [v] = [u] ∧ Q' u σ₁)
    exact cast (congrArg (wpE X k a ρ σ) (by funext v σ₁; simp)) hq
  · intro vals s₁ l σ₁ S₁ V₁ h₁
    obtain ⟨u, rfl, h₁⟩ := h₁
    cases V₁ with
    | cons v r =>
      cases r
      exact g _ s₁ u σ₁ S₁ v h₁
theorem blt2 (B : Base X) {name : String} {f : Value} {a b : E} (ha : ET X k a) (hb' : ET X k b) (hn : name ∈ (["len", "range", "min", "max", "list", "tuple", "bytes", "sorted"] : List String)) (hb : bootBuiltins (PySem.Str.ofString name) = some f)
    (hne : PySem.Str.ofString name ≠ "__name__") (hk : Kept X f)
    {sc : Scope} {nm : List (PySem.Str × Nat)} {env : Env} {x y : PySem.Expr} {id : PySem.Str} {p pos : Pos} {ρ : List V} {σ : AHeap} {Q' : V → V → AHeap → Prop} {Q : V → AHeap → Prop} {A : Around} {s : Shared}
    (hm : (isGlob sc id (PySem.Str.ofString name) && matE sc nm a x && matE sc nm b y) = true) (hq : wpE X k a ρ σ fun u σ₁ => wpE X k b ρ σ₁ fun v σ₂ => Q' u v σ₂) (R : Room k A) (S : St X N σ s) (F : FrOk X N sc nm env ρ σ s.heap)
    (g : ∀ val val' s₁ u v σ₁, St X N σ₁ s₁ → VRel (hid N σ₁) s₁.heap u val → VRel (hid N σ₁) s₁.heap v val' → Q' u v σ₁ → wpAny (model X.prog X.w) A (call f [val, val']) (PostE X N σ₁ s₁ Q) NoE s₁) :
    wpAny (model X.prog X.w) A (eval (.Call (.Name id p) [x, y] [] pos) env) (PostE X N σ s Q) NoE s := by
  simp only [Bool.and_eq_true] at hm
  refine blt_call B (EsT.two ha hb') hn hb hne hk (Q' := fun l σ₁ => ∃ u v, l = [u, v] ∧ Q' u v σ₁) hm.1.1 (by show (matE sc nm a x && (matE sc nm b y && true)) = true; rw [hm.1.2, hm.2]; rfl) ?_ R S F ?_
  · show wpE X k a ρ σ (fun u σ₁ => wpE X k b ρ σ₁ fun v σ₂ => ∃ u' v', [u, v] = [u', v'] ∧ Q' u' v' σ₂)
    exact cast (congrArg (wpE X k a ρ σ) (by funext u σ₁; exact congrArg (wpE X k b ρ σ₁) (by funext v σ₂; exact propext ⟨fun h => ⟨u, v, rfl, h⟩, by rintro ⟨_, _, h, q⟩; cases h; exact q⟩))) hq
  · intro vals s₁ l σ₁ S₁ V₁ h₁
    obtain ⟨u, v, rfl, h₁⟩ := h₁
    cases V₁ with
    | cons v r =>
      cases r with
      | cons v' r =>
        cases r
        exact g _ _ s₁ u _ σ₁ S₁ v v' h₁
theorem ET.len (B : Base X) {a : E} (ha : ET X k a) : ET X k (.len a) := by
  intro N sc nm env x ρ σ Q A s hm hq R S F
  cases x <;> first | cases hm | skip
  rename_i fn xs kws pos
  cases fn <;> first | cases hm | skip
  rcases xs with _ | ⟨l, _ | ⟨_, _⟩⟩ <;> cases kws <;> first | cases hm | skip
  exact blt1 B (name := "len") (f := .builtin "len") ha (by decide) (by kernel_rfl) (by decide +kernel) (kept_b _) hm (show wpE X k a ρ σ (fun u σ₁ => lenP u σ₁ fun r => Q (.int r) σ₁) from hq) R S F
    fun val s₁ u σ₁ S₁ v h₁ => len_call S₁ v h₁ fun i t tk hq' => .tok S₁ .int hq'
theorem ET.min2 (B : Base X) {a b : E} (ha : ET X k a) (hb : ET X k b) : ET X k (.min2 a b) := by
  intro N sc nm env x ρ σ Q A s hm hq R S F
  cases x <;> first | cases hm | skip
  rename_i fn xs kws pos
  cases fn <;> first | cases hm | skip
  rcases xs with _ | ⟨l, _ | ⟨l', _ | ⟨_, _⟩⟩⟩ <;> cases kws <;> first | cases hm | skip
  replace hq : wpE X k a ρ σ (fun u σ₁ => wpE X k b ρ σ₁ fun v σ₂ => (match u, v with | .int x, .int y => Q (.int (min x y)) σ₂ | _, _ => False)) := hq
  refine blt2 B (name := "min") (f := .builtin "min") ha hb (by decide) (by kernel_rfl) (by decide +kernel) (kept_b _) hm hq R S F fun val val' s₁ u v σ₁ S₁ V₁ V₁' h₁ => ?_
  split at h₁ <;> first | exact h₁.elim | skip
  rename_i i j
  obtain ⟨t, rfl⟩ := V₁.int_inv
  obtain ⟨t', rfl⟩ := V₁'.int_inv
  refine min_two_ints R.1 fun h' tk hk => ?_
  have g : Grow X s₁.heap h' := .of_all hk
  have S₂ := S₁.grow (tk := tk) g
  have T₂ := Step.grow (X := X) (σ := σ₁) (s := s₁) (tk := tk) g
  by_cases hlt : j < i
  · rw [if_pos hlt]; exact ⟨_, σ₁, S₂, T₂, .int, by rw [Int.min_eq_right (by omega)] at h₁; exact h₁⟩
  · rw [if_neg hlt]; exact ⟨_, σ₁, S₂, T₂, .int, by rw [Int.min_eq_left (by omega)] at h₁; exact h₁⟩
theorem ET.max2 (B : Base X) {a b : E} (ha : ET X k a) (hb : ET X k b) : ET X k (.max2 a b) := by
  intro N sc nm env x ρ σ Q A s hm hq R S F
  cases x <;> first | cases hm | skip
  rename_i fn xs kws pos
  cases fn <;> first | cases hm | skip
  rcases xs with _ | ⟨l, _ | ⟨l', _ | ⟨_, _⟩⟩⟩ <;> cases kws <;> first | cases hm | skip
  replace hq : wpE X k a ρ σ (fun u σ₁ => wpE X k b ρ σ₁ fun v σ₂ => (match u, v with | .int x, .int y => Q (.int (max x y)) σ₂ | _, _ => False)) := hq
  refine blt2 B (name := "max") (f := .builtin "max") ha hb (by decide) (by kernel_rfl) (by decide +kernel) (kept_b _) hm hq R S F fun val val' s₁ u v σ₁ S₁ V₁ V₁' h₁ => ?_
  split at h₁ <;> first | exact h₁.elim | skip
  rename_i i j
  obtain ⟨t, rfl⟩ := V₁.int_inv
  obtain ⟨t', rfl⟩ := V₁'.int_inv
  refine max_two_ints R.1 fun h' tk hk => ?_
  have g : Grow X s₁.heap h' := .of_all hk
  have S₂ := S₁.grow (tk := tk) g
  have T₂ := Step.grow (X := X) (σ := σ₁) (s := s₁) (tk := tk) g
  by_cases hlt : j > i
  · rw [if_pos hlt]; exact ⟨_, σ₁, S₂, T₂, .int, by rw [Int.max_eq_right (by omega)] at h₁; exact h₁⟩
  · rw [if_neg hlt]; exact ⟨_, σ₁, S₂, T₂, .int, by rw [Int.max_eq_left (by omega)] at h₁; exact h₁⟩
theorem bytes_lookup : typeLookup (.type "bytes") "__bytes__" = pure (some (.builtin "bytes.__bytes__")) := by rw [typeLookup_type, builtinLookup_eq_fast]; kernel_rfl
theorem call_bytes_bytes {prog : Program} {w : World} {A : Around} {E : Value → Shared → Prop} {s : Shared} {b : Array UInt8} {t : Tok} {Q : Value → Shared → Prop} (h : Q (.bytes b t) s) : wpAny (model prog w) A (call (.type "bytes") [.bytes b t]) Q E s := by
  have new : codeAny (model prog w) A.in1 (.call (.builtin "bytes.__new__") ⟨[.type "bytes", .bytes b t], []⟩) (wants (fun obj s₁ => s₁.TypeIs obj "bytes" ∧ Q obj s₁) E) s := by
    refine codeAny_of_tree ?_
    show wpAny _ A.in1.in1 (do checkBuiltinCall "bytes.__new__" ⟨[.type "bytes", .bytes b t], []⟩; again (.builtin "bytes.__new__" ⟨[.type "bytes", .bytes b t], []⟩)) _ _ s
    refine wpAny_bind (wpAny_of_eq (F.bm_newCall _) (wpAny_pure ⟨plainId_quiet F.bm_plain _, codeAny_builtin F.bm_entry ?_⟩))
    rw [Around.under_plainId F.bm_plain _]
    have hT : s.TypeIs (.bytes b t) "bytes" := typeIs_bytes s b t
    unfold Builtin.«bytes.__new__»
    refine wpAny_bind (wpAny_of_eq (a := true) rfl ?_)
    refine bm_if_false rfl ?_
    refine wpAny_bind (wpAny_of_eq F.bm_sub ?_)
    refine bm_if_false rfl ?_
    refine wpAny_bind (wpAny_of_eq (F.bm_bind _) ?_)
    refine wpAny_bind (wpAny_of_eq (a := ()) rfl ?_)
    refine wpAny_bind (wpAny_of_eq (a := ()) rfl ?_)
    refine bm_if_false rfl ?_
    refine wpAny_bind (wpAny_specialOf hT bytes_lookup ?_)
    refine wpAny_bind (wpAny_rule (wpAny_bind (wpAny_of_eq (a := .type "bytes") rfl ?_)))
    refine bm_if_true (by decide +kernel) ?_
    exact wpAny_pure ⟨hT, h⟩
  refine callType_codes (Q₁ := fun obj s₁ => s₁.TypeIs obj "bytes" ∧ Q obj s₁) F.bm_called (F.bm_typeCall _) F.entry_object_init new fun obj s₁ h₁ => ?_
  exact ⟨h₁.1, F.args_object_init_2 obj _, object_init_meets F.bm_called.init.lookup F.bm_called.made (by decide) prog w A.in1 _ s₁ ⟨h₁.1, rfl, h₁.2⟩⟩
theorem ET.bytes (B : Base X) {a : E} (ha : ET X k a) : ET X k (.bytes a) := by
  intro N sc nm env x ρ σ Q A s hm hq R S F
  cases x <;> first | cases hm | skip
  rename_i fn xs kws pos
  cases fn <;> first | cases hm | skip
  rcases xs with _ | ⟨l, _ | ⟨_, _⟩⟩ <;> cases kws <;> first | cases hm | skip
  refine blt1 B (name := "bytes") (f := .type "bytes") ha (by decide) (by kernel_rfl) (by decide +kernel) (kept_t _) hm (show wpE X k a ρ σ (fun u σ₁ => bytesP u σ₁ fun r => Q r σ₁) from hq) R S F
    fun val s₁ u σ₁ S₁ v h₁ => ?_
  have lists : ∀ l, asList σ₁ u = some l → (∃ ns : List Nat, l = ns.map (fun (n : Nat) => V.int (n : Int)) ∧ (∀ n ∈ ns, n < 256) ∧ ns.length ≤ 1000 ∧ Q (.bytes ns) σ₁) → wpAny (model X.prog X.w) A (call (.type "bytes") [val]) (PostE X N σ₁ s₁ Q) NoE s₁ := by
    rintro l e ⟨ns, rfl, h256, hn, hq'⟩
    obtain ⟨c, vs, rfl, i1, i2, i3⟩ := asList_inv S₁ e v
    have e2 : (ns.map fun (n : Nat) => V.int (n : Int)) = (ns.map fun (n : Nat) => (n : Int)).map V.int := by rw [List.map_map]; rfl
    rw [e2] at i3
    have hl := i3.length
    simp only [List.length_map, Array.length_toList] at hl
    refine call_bytes_ints (l := c) (vs := vs.toList) (ns := ns.map fun (n : Nat) => (n : Int)) (by simpa using i1.isList) i3.ints (fun n hn' => ?_) (size_line _ (by simpa using i2)) R.1 fun h' t k hk => ?_
    · obtain ⟨m, hm', rfl⟩ := List.mem_map.mp hn'
      have := h256 m hm'
      exact ⟨by omega, by omega⟩
    · have g : Grow X s₁.heap h' := .of_all hk
      refine ⟨_, σ₁, S₁.grow (tk := k) g, .grow (tk := k) g, .bytes ?_ ?_, hq'⟩
      · show ((ns.map fun (n : Nat) => (n : Int)).map fun n => n.toNat.toUInt8).toArray.toList.map UInt8.toNat = ns
        simp only [List.map_map]
        refine (List.map_congr_left fun m hm' => ?_).trans (List.map_id ns)
        have := h256 m hm'
        simp only [Function.comp, Int.toNat_natCast, id]
        show m.toUInt8.toNat = m
        rw [Nat.toUInt8, UInt8.toNat_ofNat']
        omega
      · rw [byteArr_size, List.length_map]; exact hn
  cases u with
  | bytes l =>
    cases v with
    | bytes a1 a2 => exact call_bytes_bytes (.here S₁ (.bytes a1 a2) h₁)
  | list l => exact lists l rfl h₁
  | ref c =>
    cases q : asList σ₁ (.ref c) with
    | none => simp only [bytesP, q] at h₁
    | some l => simp only [bytesP, q] at h₁; exact lists _ q h₁
  | _ => exact h₁.elim
theorem ET.tuple (B : Base X) {a : E} (ha : ET X k a) : ET X k (.tuple a) := by
  intro N sc nm env x ρ σ Q A s hm hq R S F
  cases x <;> first | cases hm | skip
  rename_i fn xs kws pos
  cases fn <;> first | cases hm | skip
  rcases xs with _ | ⟨l, _ | ⟨_, _⟩⟩ <;> cases kws <;> first | cases hm | skip
  refine blt1 B (name := "tuple") (f := .type "tuple") ha (by decide) (by kernel_rfl) (by decide +kernel) (kept_t _) hm (show wpE X k a ρ σ (fun u σ₁ => (match u with | .tup l => Q (.tup l) σ₁ | _ => False)) from hq) R S F
    fun val s₁ u σ₁ S₁ v h₁ => ?_
  split at h₁ <;> first | exact h₁.elim | skip
  cases v with
  | tup a1 a2 a3 a4 => exact call_tuple_tup a2 (.here S₁ (.tup a1 a2 a3 a4) h₁)
end
end Mine
end

section
open PySem PySem.Calls PyProof.Rows PySem.W
set_option maxRecDepth 20000
namespace Mine
variable {N : Hid}
section
variable {X : Cx} {k : Nat}
inductive Src (τ : AHeap) (h : Heap) : Value → List V → Prop
  | list {a vs l} : τ a = none → h.PlainList a vs → vs.size ≤ 1000 → VRels τ h l vs.toList → Src τ h (.ref a) l
  | tup {a vs l} : τ a = none → IsTup h a vs → vs.size ≤ 1000 → VRels τ h l vs.toList → Src τ h (.ref a) l
  | bytes {b t ls l} : b.toList.map UInt8.toNat = ls → b.size ≤ 1000 → l = ls.map (fun (n : Nat) => V.int (n : Int)) → Src τ h (.bytes b t) l
  | range {a x y z t u v n l} : τ a = none → IsRange h a x y z t u v → Builtin.Range.small x y z = true → Builtin.Range.rangeSize x y z = ((n : Nat) : Int) → n ≤ 2001 → l = (List.range n).map (fun (i : Nat) => V.int (x + (i : Int) * z)) → Src τ h (.ref a) l
inductive Iter (τ : AHeap) (h : Heap) (it : Addr) : List V → Prop
  | list {a i vs l} : h.IsListIter it a i → τ a = none → h.PlainList a vs → VRels τ h l (vs.toList.drop i) → Iter τ h it l
  | tup {a i vs l} : h.IsTupleIter it a i → τ a = none → h.IsTuple a vs → VRels τ h l (vs.toList.drop i) → Iter τ h it l
  | bytes {b t i l} : KBw.IsBytesIter h it b t i → l = ((b.toList.drop i).map fun c => V.int (c.toNat : Int)) → Iter τ h it l
  | range {x left step} {n : Nat} {l} : IsRangeIter h it x left step → left = (n : Int) → l = (List.range n).map (fun (i : Nat) => V.int (x + (i : Int) * step)) → Iter τ h it l
def isFields (o : Obj) : Prop := ∃ fs, o.data = .fields fs
theorem Iter.fields {τ : AHeap} {h : Heap} {it : Addr} {l : List V} (x : Iter τ h it l) : ∃ o, h.get? it = some o ∧ isFields o := by
  cases x with
  | list y => obtain ⟨o, ho, _, hd⟩ := y; exact ⟨o, ho, _, hd⟩
  | tup y => obtain ⟨o, ho, _, hd⟩ := y; exact ⟨o, ho, _, hd⟩
  | bytes y => obtain ⟨o, ho, _, hd⟩ := y; exact ⟨o, ho, _, hd⟩
  | range y => exact ⟨_, y, _, rfl⟩
theorem Iter.up {G : Addr} {τ τ' : AHeap} {h h' : Heap} (u : Up G τ h τ' h') {it : Addr} {l : List V} (x : Iter τ h it l) (hi : ∀ o, h.get? it = some o → h'.get? it = some o) : Iter τ' h' it l := by
  cases x with
  | list y e p r =>
    obtain ⟨o, ho, hc, hd⟩ := y
    obtain ⟨k, hp⟩ := p
    have ne := u.ns.ne hp (fun es ep q => by cases q)
    exact .list ⟨o, hi _ ho, hc, hd⟩ (u.at_ _ _ ne hp e).2 ⟨k, (u.at_ _ _ ne hp e).1⟩ (r.up u)
  | tup y e p r =>
    obtain ⟨o, ho, hc, hd⟩ := y
    obtain ⟨q, hq, hqc, k, hqd⟩ := p
    have ne := u.ns.ne hq (fun es ep q => by rw [hqd] at q; cases q)
    exact .tup ⟨o, hi _ ho, hc, hd⟩ (u.at_ _ _ ne hq e).2 ⟨q, (u.at_ _ _ ne hq e).1, hqc, k, hqd⟩ (r.up u)
  | bytes y e =>
    obtain ⟨o, ho, hc, hd⟩ := y
    exact .bytes ⟨o, hi _ ho, hc, hd⟩ e
  | range y e1 e2 => exact .range (hi _ y) e1 e2
theorem Iter.poke {σ : AHeap} {s : Shared} {p : Addr} {h' : Heap} (u : Poke X N σ s p h') {it : Addr} {l : List V} (x : Iter (hid N σ) s.heap it l) (ne : it ≠ p) : Iter (hid N σ) h' it l := by
  cases x with
  | list y e q r =>
    obtain ⟨o, ho, hc, hd⟩ := y
    rename_i a _ _
    obtain ⟨k, hp⟩ := q
    have ne2 : a ≠ p := fun (q : a = p) => u.kind.elim (fun h => h _ _ _ (q ▸ hp) rfl) fun ⟨o', e'⟩ => by subst q; rw [(hid_none.mp e).1] at e'; cases e'
    exact .list ⟨o, u.at_ _ _ ne ho, hc, hd⟩ e ⟨k, u.at_ _ _ ne2 hp⟩ (r.poke u)
  | tup y e q r =>
    obtain ⟨o, ho, hc, hd⟩ := y
    rename_i a _ _
    obtain ⟨b, hq, hqc, k, hqd⟩ := q
    have ne2 : a ≠ p := fun (q : a = p) => u.kind.elim (fun h => h _ _ _ (q ▸ hq) hqd) fun ⟨o', e'⟩ => by subst q; rw [(hid_none.mp e).1] at e'; cases e'
    exact .tup ⟨o, u.at_ _ _ ne ho, hc, hd⟩ e ⟨b, u.at_ _ _ ne2 hq, hqc, k, hqd⟩ (r.poke u)
  | bytes y e =>
    obtain ⟨o, ho, hc, hd⟩ := y
    exact .bytes ⟨o, u.at_ _ _ ne ho, hc, hd⟩ e
  | range y e1 e2 => exact .range (u.at_ _ _ ne y) e1 e2
theorem iter_begin {val : Value} {l : List V} {σ : AHeap} {s : Shared} {A : Around} {E : Value → Shared → Prop} {Q : Value → Shared → Prop} (S : St X N σ s) (x : Src (hid N σ) s.heap val l)
    (h : ∀ ob, isFields ob → Iter (hid N σ) (s.heap.push ob) s.heap.objs.size l → Q (.ref s.heap.objs.size) { s with heap := s.heap.push ob }) : wpAny (model X.prog X.w) A (pyIter val) Q E s := by
  have g : ∀ ob, Up X.G (hid N σ) s.heap (hid N σ) (s.heap.push ob) := fun ob => (Grow.push (X := X) s.heap ob).up S
  cases x with
  | list e p n r =>
    refine wpAny_pyIter_list p.isList (h _ ⟨_, rfl⟩ ?_)
    obtain ⟨k, hp⟩ := p
    exact .list ⟨_, Heap.get?_push_size _ rfl, rfl, rfl⟩ e ⟨k, Heap.get?_push_of_some _ hp⟩ (r.up (g _))
  | tup e p n r =>
    refine wpAny_pyIter_tuple p (h _ ⟨_, rfl⟩ ?_)
    obtain ⟨o, ho, hc⟩ := p
    exact .tup ⟨_, Heap.get?_push_size _ rfl, rfl, rfl⟩ e ⟨o, Heap.get?_push_of_some _ ho, hc⟩ (r.up (g _))
  | bytes e n hl =>
    refine KBw.pyIter_bytes (h _ ⟨_, rfl⟩ ?_)
    refine .bytes ⟨_, Heap.get?_push_size _ rfl, rfl, rfl⟩ ?_
    rw [hl, ← e, List.drop_zero, List.map_map]; rfl
  | range e p hs hn hb hl =>
    refine wpAny_pyIter_range p hs (h _ ⟨_, rfl⟩ ?_)
    exact .range (Heap.get?_push_size _ rfl) hn hl
theorem drop_cons {α : Type} {l : List α} {i : Nat} {x : α} {r : List α} (h : l.drop i = x :: r) : l[i]? = some x ∧ l.drop (i + 1) = r := by
  constructor
  · have : (l.drop i)[0]? = some x := by rw [h]; rfl
    simpa using this
  · rw [← List.drop_drop, h]; rfl
structure ItOk (X : Cx) (σ : AHeap) (it : Addr) : Prop where
  free : σ it = none
  h0 : X.H0.get? it = none
  neG : it ≠ X.G
theorem ItOk.poke {σ : AHeap} {s : Shared} {it : Addr} {l : List V} {h' : Heap} (S : St X N σ s) (I : ItOk X σ it) (x : Iter (hid N σ) s.heap it l) (at_ : ∀ b o, b ≠ it → s.heap.get? b = some o → h'.get? b = some o) (live : ∃ o', h'.get? it = some o') : Poke X N σ s it h' := by
  obtain ⟨o, ho, fs, hf⟩ := x.fields
  exact .mk' S I.free I.h0 I.neG (.inl (fun o' xs n e q => by rw [ho] at e; cases e; rw [hf] at q; cases q)) at_ fun _ => live
theorem VRel.new {τ : AHeap} {h : Heap} {i : Int} {t : Tok} : VRel τ h (.int i) (.int i t) := .int
theorem iter_next {it : Addr} {l : List V} {σ : AHeap} {s : Shared} {A : Around} {E : Value → Shared → Prop} {Q : Option Value → Shared → Prop} (hh : A.handled = none) (S : St X N σ s) (I : ItOk X σ it) (x : Iter (hid N σ) s.heap it l)
    (h0 : l = [] → ∀ h', Heap.ExtBut it s.heap h' → Q none { s with heap := h' })
    (h1 : ∀ v r, l = v :: r → ∀ val h' tk, Poke X N σ s it h' → VRel (hid N σ) h' v val → Iter (hid N σ) h' it r → Q (some val) { s with heap := h', toks := tk }) : wpAny (model X.prog X.w) A (pyNext (.ref it)) Q E s := by
  cases x with
  | list y e p r =>
    have hx := Iter.list y e p r
    rename_i a i vs
    cases hd : vs.toList.drop i with
    | nil =>
      rw [hd] at r
      cases r
      have hi : vs[i]? = none := by
        have := List.drop_eq_nil_iff.mp hd
        simp only [Array.length_toList] at this
        exact Array.getElem?_eq_none this
      exact wpAny_pyNext_list_end hh y p.isList hi fun h' he => h0 rfl h' he
    | cons val rest =>
      obtain ⟨d1, d2⟩ := drop_cons hd
      have r' := r
      rw [hd] at r'
      cases r' with
      | cons xv rr =>
        refine wpAny_pyNext_list_item y p.isList (x := val) (by simpa using d1) fun h' hit hs => ?_
        have P := ItOk.poke (h' := h') S I hx (fun b o ne e => (hs.2 b ne).trans e) (by obtain ⟨o, ho, _⟩ := hit; exact ⟨o, ho⟩)
        have pl : a ≠ it := fun q => by
          obtain ⟨o, ho, _, hdd⟩ := y
          obtain ⟨k, hp⟩ := p
          rw [q, ho] at hp; cases hp; cases hdd
        obtain ⟨k, hp⟩ := p
        exact h1 _ _ rfl val h' s.toks P (xv.poke P) (.list hit e ⟨k, (hs.2 a pl).trans hp⟩ (by rw [d2]; exact rr.poke P))
  | tup y e p r =>
    have hx := Iter.tup y e p r
    rename_i a i vs
    cases hd : vs.toList.drop i with
    | nil =>
      rw [hd] at r
      cases r
      have hi : vs[i]? = none := by
        have := List.drop_eq_nil_iff.mp hd
        simp only [Array.length_toList] at this
        exact Array.getElem?_eq_none this
      exact wpAny_pyNext_tuple_end hh y p hi fun h' he => h0 rfl h' he
    | cons val rest =>
      obtain ⟨d1, d2⟩ := drop_cons hd
      have r' := r
      rw [hd] at r'
      cases r' with
      | cons xv rr =>
        refine wpAny_pyNext_tuple_item y p (x := val) (by simpa using d1) fun h' hit hs => ?_
        have P := ItOk.poke (h' := h') S I hx (fun b o ne e => (hs.2 b ne).trans e) (by obtain ⟨o, ho, _⟩ := hit; exact ⟨o, ho⟩)
        have pl : a ≠ it := fun q => by
          obtain ⟨o, ho, _, hdd⟩ := y
          obtain ⟨o', hp, _, k, hk⟩ := p
          rw [q, ho] at hp; cases hp; rw [hdd] at hk; cases hk
        obtain ⟨o', hp, hpc⟩ := p
        exact h1 _ _ rfl val h' s.toks P (xv.poke P) (.tup hit e ⟨o', (hs.2 a pl).trans hp, hpc⟩ (by rw [d2]; exact rr.poke P))
  | bytes y e =>
    have hx : Iter (hid N σ) s.heap it l := Iter.bytes y e
    rename_i b t i
    cases hd : b.toList.drop i with
    | nil =>
      rw [hd] at e
      have hi : b[i]? = none := by
        have := List.drop_eq_nil_iff.mp hd
        simp only [Array.length_toList] at this
        exact Array.getElem?_eq_none this
      exact KBw.next_end hh y hi fun h' he => h0 e h' he
    | cons c rest =>
      obtain ⟨d1, d2⟩ := drop_cons hd
      rw [hd] at e
      refine KBw.next_item y (c := c) (by simpa using d1) fun h' hit hs => ?_
      have P := ItOk.poke (h' := h') S I hx (fun b o ne e => (hs.2 b ne).trans e) (by obtain ⟨o, ho, _⟩ := hit; exact ⟨o, ho⟩)
      exact h1 _ _ e _ h' _ P .int (.bytes hit (by rw [d2]))
  | range y e1 e2 =>
    have hx : Iter (hid N σ) s.heap it l := Iter.range y e1 e2
    rename_i x left step n
    cases n with
    | zero => exact wpAny_pyNext_range_end hh y (by omega) fun h' he => h0 (by rw [e2]; rfl) h' he
    | succ n =>
      refine wpAny_pyNext_range_item y (by omega) fun h' hit hs => ?_
      have P := ItOk.poke (h' := h') S I hx (fun b o ne e => (hs.2 b ne).trans e) ⟨_, hit⟩
      refine h1 (.int x) ((List.range n).map (fun (i : Nat) => V.int (x + step + (i : Int) * step))) ?_ _ h' _ P .int (.range hit (by omega) rfl)
      rw [e2, List.range_succ_eq_map, List.map_cons, List.map_map]
      have hm : List.map ((fun (i : Nat) => V.int (x + (i : Int) * step)) ∘ Nat.succ) (List.range n) = List.map (fun (i : Nat) => V.int (x + step + (i : Int) * step)) (List.range n) := List.map_congr_left fun i _ => by
        have : ((Nat.succ i : Nat) : Int) * step = step + (i : Int) * step := by
          rw [Nat.succ_eq_add_one, Int.natCast_add, Int.add_mul, Int.natCast_one, Int.one_mul, Int.add_comm]
        show V.int (x + ((Nat.succ i : Nat) : Int) * step) = _
        rw [this, Int.add_assoc]
      rw [hm]
      simp
end
end Mine
end

section
open PySem PySem.Calls PyProof.Rows PySem.W
set_option maxRecDepth 20000
namespace Mine
variable {N : Hid}
section
variable {X : Cx} {k : Nat}
def PostI (X : Cx) (N : Hid) (σ : AHeap) (s : Shared) (Q : List V → AHeap → Prop) (val : Value) (s' : Shared) : Prop :=
  ∃ l σ', St X N σ' s' ∧ Step X σ s σ' s' ∧ Src (hid N σ') s'.heap val l ∧ Q l σ'
def IT (X : Cx) (k : Nat) (it : It) : Prop := ∀ {N : Hid} {sc : Scope} {nm : List (PySem.Str × Nat)} {env : Env} {x : PySem.Expr} {ρ : List V} {σ : AHeap} {Q : List V → AHeap → Prop} {A : Around} {s : Shared},
  matI sc nm it x = true → wpI X k it ρ σ Q → Room k A → St X N σ s → FrOk X N sc nm env ρ σ s.heap → wpAny (model X.prog X.w) A (eval x env) (PostI X N σ s Q) NoE s
theorem seqI {M : Model} {A : Around} {t : Sem Value} {X : Cx} {σ : AHeap} {s : Shared} {Q : List V → AHeap → Prop} {G : Value → Shared → Prop} (h : wpAny M A t (PostI X N σ s Q) NoE s)
    (k : ∀ val s₁ l σ₁, St X N σ₁ s₁ → Step X σ s σ₁ s₁ → Src (hid N σ₁) s₁.heap val l → Q l σ₁ → G val s₁) : wpAny M A t G NoE s :=
  wpAny_mono h (fun val s₁ ⟨l, σ₁, a, b, c, d⟩ => k val s₁ l σ₁ a b c d) fun _ _ x => x
def IsRng (τ : AHeap) (h : Heap) (val : Value) (l : List V) : Prop := ∃ a x y z t u v, ∃ n : Nat, val = .ref a ∧ τ a = none ∧ IsRange h a x y z t u v ∧ Builtin.Range.small x y z = true ∧ Builtin.Range.rangeSize x y z = (n : Int) ∧ n ≤ 2001 ∧ l = (List.range n).map (fun (i : Nat) => V.int (x + (i : Int) * z))
def PostR (X : Cx) (N : Hid) (σ : AHeap) (s : Shared) (Q : List V → AHeap → Prop) (val : Value) (s' : Shared) : Prop :=
  ∃ l σ', St X N σ' s' ∧ Step X σ s σ' s' ∧ IsRng (hid N σ') s'.heap val l ∧ Q l σ'
def RT (X : Cx) (k : Nat) (it : It) : Prop := ∀ {N : Hid} {sc : Scope} {nm : List (PySem.Str × Nat)} {env : Env} {x : PySem.Expr} {ρ : List V} {σ : AHeap} {Q : List V → AHeap → Prop} {A : Around} {s : Shared},
  matI sc nm it x = true → wpI X k it ρ σ Q → Room k A → St X N σ s → FrOk X N sc nm env ρ σ s.heap → wpAny (model X.prog X.w) A (eval x env) (PostR X N σ s Q) NoE s
theorem IT.ofR {it : It} (h : RT X k it) : IT X k it := fun hm hq R S F => wpAny_mono (h hm hq R S F) (fun _ _ ⟨l, σ', a, b, ⟨_, _, _, _, _, _, _, _, e, c1, c2, c3, c4, c5, c6⟩, d⟩ => ⟨l, σ', a, b, e ▸ .range c1 c2 c3 c4 c5 c6, d⟩) fun _ _ x => x
theorem asFrozen_src {u : V} {val : Value} {l : List V} {τ : AHeap} {h : Heap} (x : VRel τ h u val) (e : asFrozen u = some l) : Src τ h val l := by
  cases x with
  | tup a b c d => cases e; exact .tup a b c d
  | list a b c d => cases e; exact .list a b c d
  | bytes a b => exact .bytes a b (by cases e; rfl)
  | _ => cases e
theorem IT.e {a : E} (ha : ET X k a) : IT X k (.e a) := by
  intro N sc nm env x ρ σ Q A s hm hq R S F
  replace hm : matE sc nm a x = true := hm
  replace hq : wpE X k a ρ σ (fun u σ₁ => (match asFrozen u with | some l => Q l σ₁ | none => False)) := hq
  refine seqE (ha hm hq R S F) fun val s₁ u σ₁ S₁ T₁ V₁ h₁ => ?_
  split at h₁ <;> first | exact h₁.elim | skip
  rename_i l e
  exact ⟨l, σ₁, S₁, T₁, asFrozen_src V₁ e, h₁⟩
theorem small_of {a b : Int} (ha : small a) (hb : small b) (c : Int) (hc : c = 1 ∨ c = -1) : Builtin.Range.small a b c = true := by
  unfold small at ha hb
  have hrs : 0 ≤ Builtin.Range.rangeSize a b c ∧ Builtin.Range.rangeSize a b c ≤ 2001 := by
    unfold Builtin.Range.rangeSize
    rcases hc with rfl | rfl
    · simp only [show (1 : Int) > 0 by decide, if_true, Int.ediv_one]; split <;> omega
    · simp only [show ¬((-1 : Int) > 0) by decide, if_false, Int.neg_neg, Int.ediv_one]; split <;> omega
  unfold Builtin.Range.small
  simp only [Builtin.Range.rangeFitsLong, Bool.and_eq_true, Bool.or_eq_true, decide_eq_true_eq, beq_iff_eq]
  rcases hc with rfl | rfl
  · simp only [show (1 : Int) > 0 by decide, if_true, decide_eq_true_eq, Bool.and_eq_true]; omega
  · simp only [show ¬((-1 : Int) > 0) by decide, if_false, decide_eq_true_eq, Bool.and_eq_true]; omega
theorem size1 (a b : Int) : Builtin.Range.rangeSize a b 1 = (((b - a).toNat : Nat) : Int) := by
  unfold Builtin.Range.rangeSize
  simp only [show (1 : Int) > 0 by decide, if_true, Int.ediv_one]
  split <;> omega
theorem sizeM (a b : Int) : Builtin.Range.rangeSize a b (-1) = (((a - b).toNat : Nat) : Int) := by
  unfold Builtin.Range.rangeSize
  simp only [show ¬((-1 : Int) > 0) by decide, if_false, Int.neg_neg, Int.ediv_one]
  split <;> omega
theorem range_end {σ : AHeap} {s₁ : Shared} (S : St X N σ s₁) {x y z : Int} {t u v : Tok} {n tk : Nat} {l : List V} {Q : List V → AHeap → Prop} (hs : Builtin.Range.small x y z = true) (hn : Builtin.Range.rangeSize x y z = ((n : Nat) : Int)) (hb : n ≤ 2001)
    (hl : l = (List.range n).map (fun (i : Nat) => V.int (x + (i : Int) * z))) (hq : Q l σ) :
    PostR X N σ s₁ Q (.ref s₁.heap.objs.size) { s₁ with heap := s₁.heap.push { cls := .type "range", data := .fields #[.int x t, .int y u, .int z v] }, toks := tk } := by
  have g := Grow.push (X := X) s₁.heap { cls := .type "range", data := .fields #[.int x t, .int y u, .int z v] }
  exact ⟨l, σ, S.grow g, .grow g, ⟨_, _, _, _, _, _, _, _, rfl, S.hfree_of_none (get_ge_none (Nat.le_refl _)), IsRange.new .., hs, hn, hb, hl⟩, hq⟩
theorem call_nameI (B : Base X) {es : Es} (h : EsT X k es) {name : String} {f : Value} (hn : name ∈ (["len", "range", "min", "max", "list", "tuple", "bytes", "sorted"] : List String)) (hb : bootBuiltins (PySem.Str.ofString name) = some f)
    (hne : PySem.Str.ofString name ≠ "__name__") (hk : Kept X f)
    {sc : Scope} {nm : List (PySem.Str × Nat)} {env : Env} {xs : List PySem.Expr} {id : PySem.Str} {p pos : Pos} {ρ : List V} {σ : AHeap} {Q' : List V → AHeap → Prop} {G : Value → Shared → Prop} {A : Around} {s : Shared}
    (m1 : isGlob sc id (PySem.Str.ofString name) = true) (hm : matEs sc nm es xs = true) (hq : wpEs X k es ρ σ Q') (R : Room k A) (S : St X N σ s) (F : FrOk X N sc nm env ρ σ s.heap)
    (g : ∀ vals s₁ l σ₁, St X N σ₁ s₁ → Step X σ s σ₁ s₁ → VRels (hid N σ₁) s₁.heap l vals → Q' l σ₁ → wpAny (model X.prog X.w) A (call f vals) G NoE s₁) :
    wpAny (model X.prog X.w) A (eval (.Call (.Name id p) xs [] pos) env) G NoE s := by
  obtain ⟨rfl, g2, g3⟩ := isGlob_inv m1
  refine Call_Name rfl (load_blt B S F g2 g3 (B.blt _ hn) hb hne ?_)
  exact callWith_E B (first := []) h hk hm hq R S F fun vals s₁ l σ₁ S₁ T₁ V₁ h₁ => g vals s₁ l σ₁ S₁ T₁ V₁ h₁
theorem RT.r1 (B : Base X) {a : E} (ha : ET X k a) : RT X k (.r1 a) := by
  intro N sc nm env x ρ σ Q A s hm hq R S F
  cases x <;> first | cases hm | skip
  rename_i fn xs kws pos
  cases fn <;> first | cases hm | skip
  rcases xs with _ | ⟨l, _ | ⟨_, _⟩⟩ <;> cases kws <;> first | cases hm | skip
  rename_i id p
  replace hm : (isGlob sc id (PySem.Str.ofString "range") && matE sc nm a l) = true := hm
  simp only [Bool.and_eq_true] at hm
  replace hq : wpE X k a ρ σ (fun u σ₁ => range1P u fun l => Q l σ₁) := hq
  refine call_nameI B (EsT.one ha) (name := "range") (f := .type "range") (by decide) (by kernel_rfl) (by decide +kernel) (kept_t _) (Q' := fun l σ₁ => ∃ u, l = [u] ∧ range1P u fun l => Q l σ₁) hm.1 (by show (matE sc nm a l && true) = true; rw [hm.2]; rfl) ?_ R S F ?_
  · show wpE X k a ρ σ (fun v σ₁ => ∃ u, [v] = [u] ∧ range1P u fun l => Q l σ₁)
    exact cast (congrArg (wpE X k a ρ σ) (by funext v σ₁; simp)) hq
  · intro vals s₁ l' σ₁ S₁ T₁ V₁ h₁
    obtain ⟨u, rfl, h₁⟩ := h₁
    cases V₁ with
    | cons v r =>
      cases r
      unfold range1P at h₁
      split at h₁ <;> first | exact h₁.elim | skip
      rename_i n
      obtain ⟨t, rfl⟩ := v.int_inv
      obtain ⟨hs, hq'⟩ := h₁
      refine call_range_1 ?_
      have hs0 : small 0 := by unfold small; omega
      have hsz := size1 0 n
      rw [Int.sub_zero] at hsz
      obtain ⟨l2, σ2, a1, a2, a3, a4⟩ := range_end (t := s₁.toks) (u := t) (v := s₁.toks + 1) (tk := s₁.toks + 1 + 1) (Q := Q) S₁ (small_of hs0 hs 1 (.inl rfl)) hsz (by unfold small at hs; omega) (l := (List.range n.toNat).map fun (i : Nat) => V.int (i : Int)) (List.map_congr_left fun i _ => by simp) hq'
      exact ⟨l2, σ2, a1, T₁.trans a2 S.gfree a1.gfree, a3, a4⟩
theorem RT.r2 (B : Base X) {a b : E} (ha : ET X k a) (hb : ET X k b) : RT X k (.r2 a b) := by
  intro N sc nm env x ρ σ Q A s hm hq R S F
  cases x <;> first | cases hm | skip
  rename_i fn xs kws pos
  cases fn <;> first | cases hm | skip
  rcases xs with _ | ⟨l, _ | ⟨l', _ | ⟨_, _⟩⟩⟩ <;> cases kws <;> first | cases hm | skip
  rename_i id p
  replace hm : (isGlob sc id (PySem.Str.ofString "range") && matE sc nm a l && matE sc nm b l') = true := hm
  simp only [Bool.and_eq_true] at hm
  replace hq : wpE X k a ρ σ (fun u σ₁ => wpE X k b ρ σ₁ fun v σ₂ => range2P u v fun l => Q l σ₂) := hq
  refine call_nameI B (EsT.two ha hb) (name := "range") (f := .type "range") (by decide) (by kernel_rfl) (by decide +kernel) (kept_t _) (Q' := fun l σ₁ => ∃ u v, l = [u, v] ∧ range2P u v fun l => Q l σ₁) hm.1.1
    (by show (matE sc nm a l && (matE sc nm b l' && true)) = true; rw [hm.1.2, hm.2]; rfl) ?_ R S F ?_
  · show wpE X k a ρ σ (fun u σ₁ => wpE X k b ρ σ₁ fun v σ₂ => ∃ u' v', [u, v] = [u', v'] ∧ range2P u' v' fun l => Q l σ₂)
    exact cast (congrArg (wpE X k a ρ σ) (by funext u σ₁; exact congrArg (wpE X k b ρ σ₁) (by funext v σ₂; exact propext ⟨fun h => ⟨u, v, rfl, h⟩, by rintro ⟨_, _, h, q⟩; cases h; exact q⟩))) hq
  · intro vals s₁ l' σ₁ S₁ T₁ V₁ h₁
    obtain ⟨u, v', rfl, h₁⟩ := h₁
    cases V₁ with
    | cons v r =>
      cases r with
      | cons v2 r =>
        cases r
        unfold range2P at h₁
        split at h₁ <;> first | exact h₁.elim | skip
        rename_i x y
        obtain ⟨t, rfl⟩ := v.int_inv
        obtain ⟨t', rfl⟩ := v2.int_inv
        obtain ⟨hs, hs', hq'⟩ := h₁
        refine call_range_2 ?_
        obtain ⟨l2, σ2, a1, a2, a3, a4⟩ := range_end (t := t) (u := t') (v := s₁.toks) (tk := s₁.toks + 1) (Q := Q) S₁ (small_of hs hs' 1 (.inl rfl)) (size1 x y) (by unfold small at hs hs'; omega) (l := (List.range (y - x).toNat).map fun (i : Nat) => V.int (x + (i : Int))) (List.map_congr_left fun i _ => by simp) hq'
        exact ⟨l2, σ2, a1, T₁.trans a2 S.gfree a1.gfree, a3, a4⟩
theorem RT.r3 (B : Base X) {a b c : E} (ha : ET X k a) (hb : ET X k b) (hc : ET X k c) : RT X k (.r3 a b c) := by
  intro N sc nm env x ρ σ Q A s hm hq R S F
  cases x <;> first | cases hm | skip
  rename_i fn xs kws pos
  cases fn <;> first | cases hm | skip
  rcases xs with _ | ⟨l, _ | ⟨l', _ | ⟨l'', _ | ⟨_, _⟩⟩⟩⟩ <;> cases kws <;> first | cases hm | skip
  rename_i id p
  replace hm : (isGlob sc id (PySem.Str.ofString "range") && matE sc nm a l && matE sc nm b l' && matE sc nm c l'') = true := hm
  simp only [Bool.and_eq_true] at hm
  replace hq : wpE X k a ρ σ (fun u σ₁ => wpE X k b ρ σ₁ fun v σ₂ => wpE X k c ρ σ₂ fun z σ₃ => range3P u v z fun l => Q l σ₃) := hq
  refine call_nameI B (EsT.cons ha (EsT.two hb hc)) (name := "range") (f := .type "range") (by decide) (by kernel_rfl) (by decide +kernel) (kept_t _) (Q' := fun l σ₁ => ∃ u v z, l = [u, v, z] ∧ range3P u v z fun l => Q l σ₁) hm.1.1.1
    (by show (matE sc nm a l && (matE sc nm b l' && (matE sc nm c l'' && true))) = true; rw [hm.1.1.2, hm.1.2, hm.2]; rfl) ?_ R S F ?_
  · show wpE X k a ρ σ (fun u σ₁ => wpE X k b ρ σ₁ fun v σ₂ => wpE X k c ρ σ₂ fun z σ₃ => ∃ u' v' z', [u, v, z] = [u', v', z'] ∧ range3P u' v' z' fun l => Q l σ₃)
    exact cast (congrArg (wpE X k a ρ σ) (by funext u σ₁; exact congrArg (wpE X k b ρ σ₁) (by funext v σ₂; exact congrArg (wpE X k c ρ σ₂) (by funext z σ₃; exact propext ⟨fun h => ⟨u, v, z, rfl, h⟩, by rintro ⟨_, _, _, h, q⟩; cases h; exact q⟩)))) hq
  · intro vals s₁ l' σ₁ S₁ T₁ V₁ h₁
    obtain ⟨u, v', z', rfl, h₁⟩ := h₁
    cases V₁ with
    | cons v r =>
      cases r with
      | cons v2 r =>
        cases r with
        | cons v3 r =>
          cases r
          unfold range3P at h₁
          split at h₁ <;> first | exact h₁.elim | skip
          rename_i x y z
          obtain ⟨t, rfl⟩ := v.int_inv
          obtain ⟨t', rfl⟩ := v2.int_inv
          obtain ⟨t'', rfl⟩ := v3.int_inv
          obtain ⟨hs, hs', rfl, hq'⟩ := h₁
          refine call_range_3 (by decide) ?_ (.inl (PyProof.noPylong_of_log2 (by decide +kernel)))
          obtain ⟨l2, σ2, a1, a2, a3, a4⟩ := range_end (t := t) (u := t') (v := t'') (tk := s₁.toks) (Q := Q) S₁ (small_of hs hs' (-1) (.inr rfl)) (sizeM x y) (by unfold small at hs hs'; omega) (l := (List.range (x - y).toNat).map fun (i : Nat) => V.int (x - (i : Int))) (List.map_congr_left fun i _ => by rw [Int.mul_neg, Int.mul_one]; rfl) hq'
          exact ⟨l2, σ2, a1, T₁.trans a2 S.gfree a1.gfree, a3, a4⟩
theorem items_ints : ∀ (n : Nat) {x z : Int} {acc : Array Value}, ItemsOf (fun i v => ∃ t, v = .int (x + i * z) t) acc n → ∀ {τ : AHeap} {h : Heap}, VRels τ h ((List.range n).map (fun (i : Nat) => V.int (x + (i : Int) * z))) acc.toList := by
  intro n x z acc ha τ h
  obtain ⟨hs, hv⟩ := ha
  have key : ∀ (l : List V) (vs : List Value), l.length = vs.length → (∀ (i : Nat) (v : V) (val : Value), l[i]? = some v → vs[i]? = some val → VRel τ h v val) → VRels τ h l vs := by
    intro l
    induction l with
    | nil => intro vs hl _; cases vs with | nil => exact .nil | cons => cases hl
    | cons a r ih =>
      intro vs hl hf
      cases vs with
      | nil => cases hl
      | cons b vs => exact .cons (hf 0 a b rfl rfl) (ih vs (by simpa using hl) fun i v val e e' => hf (i + 1) v val (by simpa using e) (by simpa using e'))
  refine key _ _ (by simp [hs]) fun i v val e e' => ?_
  rw [List.getElem?_map] at e
  obtain ⟨j, hj, rfl⟩ := Option.map_eq_some_iff.mp e
  have hi : i < n := by
    by_cases h : i < n
    · exact h
    · rw [List.getElem?_eq_none (by simpa using Nat.le_of_not_lt h)] at hj; cases hj
  rw [List.getElem?_range hi] at hj
  cases hj
  obtain ⟨t, rfl⟩ := hv i val (by simpa using e')
  exact .int
theorem ET.listr' (B : Base X) {it : It} (h0 : notE it = true → RT X k it) : ET X k (.listr it) := by
  intro N sc nm env x ρ σ Q A s hm hq R S F
  cases x <;> first | cases hm | skip
  rename_i fn xs kws pos
  cases fn <;> first | cases hm | skip
  rcases xs with _ | ⟨l, _ | ⟨_, _⟩⟩ <;> cases kws <;> first | cases hm | skip
  rename_i id p
  replace hm : (isGlob sc id (PySem.Str.ofString "list") && notE it && matI sc nm it l) = true := hm
  simp only [Bool.and_eq_true] at hm
  obtain ⟨⟨m1, m2⟩, m3⟩ := hm
  have h : RT X k it := h0 m2
  obtain ⟨rfl, g2, g3⟩ := isGlob_inv m1
  replace hq : wpI X k it ρ σ (fun l σ₁ => mkList false l σ₁ Q) := hq
  have hst : starEach [l] env = [(false, eval l env)] := by
    cases l <;> first | rfl | skip
    cases it <;> first | (cases m2; done) | (cases m3; done)
  refine Call_Name1 (load_blt B S F g2 g3 (B.blt "list" (by decide)) (val := .type "list") (by kernel_rfl) (by decide +kernel) ?_) hst
  have hr : wpAny (model X.prog X.w) A (eval l env) (PostR X N σ s fun l σ₁ => mkList false l σ₁ Q) NoE s := h m3 hq R S F
  refine callWith_of (P := fun h => X.K.In h) rfl (kept_t _) (evalArgs_plain (spliced_cons (wpAny_mono hr (fun val s₁ z => spliced_nil ?_) fun _ _ x => x)))
  obtain ⟨l', σ₁, S₁, T₁, ⟨a, x, y, z, t, u, v, n, rfl, c1, c2, c3, c4, c5, rfl⟩, hq'⟩ := z
  refine ⟨B.inK.keeps S₁.keep, ?_⟩
  refine upE S T₁ (call_list_range R.1 c2 c3 c4 (by omega) fun h' tk acc' c' hk ho hi => ?_)
  exact newList_end (new := false) S₁ (tk := tk) (.of_all hk) (get_ge_none (Nat.le_refl _)) ⟨_, ho⟩ (items_ints n hi) hq'
end
end Mine
end

section
open PySem PySem.Calls PyProof.Rows PySem.W
set_option maxRecDepth 20000
namespace Mine
variable {N : Hid}
section
variable {X : Cx} {k : Nat}
theorem St.change {σ : AHeap} {s : Shared} (S : St X N σ s) {p : Addr} {o o' : AObj} {h' : Heap} {tk : Nat} (e : σ p = some o) (hs : Heap.SameBut p s.heap h') (hl : ∃ ob, h'.get? p = some ob) (hns : ∀ a, o ≠ .sub a)
    (hr : ∀ u : Up X.G (hid N σ) s.heap (hid N (upd σ p o')) h', ORel X (hid N (upd σ p o')) h' p o') : St X N (upd σ p o') { s with heap := h', toks := tk } ∧ Step X σ s (upd σ p o') { s with heap := h', toks := tk } := by
  have np := S.hid_tracked e
  have nG := S.ne_G e
  have h0 := S.fresh _ _ e
  have at_ : ∀ b ob, b ≠ p → s.heap.get? b = some ob → h'.get? b = some ob := fun b ob ne q => (hs.2 b ne).trans q
  have live : ∀ b ob, s.heap.get? b = some ob → ∃ o', h'.get? b = some o' := fun b ob q => by
    by_cases z : b = p
    · subst z; exact hl
    · exact ⟨ob, at_ b ob z q⟩
  have un : ∀ b, hid N σ b = none → hid N (upd σ p o') b = none ∧ b ≠ p := fun b q => by
    obtain ⟨q1, q2⟩ := hid_none.mp q
    have ne : b ≠ p := fun z => by rw [z, e] at q2; cases q2
    exact ⟨hid_none.mpr ⟨q1, by rw [upd_ne ne]; exact q2⟩, ne⟩
  have u : Up X.G (hid N σ) s.heap (hid N (upd σ p o')) h' := ⟨fun b ob n q z => ⟨at_ b ob (un b z).2 q, (un b z).1⟩, S.ns⟩
  have sink : ∀ m, s.heap.Ns X.G m → h'.Ns X.G m := fun m ⟨ob, es, ep, ho, r⟩ => ⟨ob, es, ep, at_ _ _ (Ne.symm nG) ho, r⟩
  refine ⟨⟨fun b ob q => at_ b ob (fun z => by rw [z, h0] at q; cases q) (S.keep b ob q), fun b ob q => ?_, fun b ob q => ?_, fun b ob q => ?_, ?_, by rw [upd_ne (Ne.symm nG)]; exact S.gfree, S.gH0, fun b ob q => ?_⟩,
    ⟨fun b ob n q z => at_ b ob (fun y => by rw [y, e] at z; cases z) q, sink, fun b ob q q' => ?_, live, h', tk, rfl⟩⟩
  · by_cases z : b = p
    · subst z; exact h0
    · rw [upd_ne z] at q; exact S.fresh b ob q
  · by_cases z : b = p
    · subst z; rw [upd_self] at q; cases q; exact hr u
    · rw [upd_ne z] at q
      refine (S.objs b ob q).up u (fun ob' q' => at_ b ob' z q') (fun dx y => ?_)
      obtain ⟨y1, y2⟩ := hid_sub.mp y
      have nd : dx ≠ p := fun w => by rw [w, e] at y2; cases y2; exact hns _ rfl
      exact ⟨hid_sub.mpr ⟨y1, by rw [upd_ne nd]; exact y2⟩, fun ob' q' => at_ dx ob' nd q'⟩
  · by_cases z : b = p
    · subst z; exact hl
    · rw [upd_ne z] at q
      obtain ⟨ob', q'⟩ := S.live b ob q
      exact ⟨ob', at_ b ob' z q'⟩
  · obtain ⟨m, n⟩ := S.ns; exact ⟨m, sink m n⟩
  · obtain ⟨h1, ⟨ob', h2⟩, h3, h4⟩ := S.hids b ob q
    have ne : b ≠ p := fun z => by rw [z, np] at q; cases q
    exact ⟨by rw [upd_ne ne]; exact h1, ⟨ob', at_ b ob' ne h2⟩, h3, h4⟩
  · by_cases z : b = p
    · subst z; rw [e] at q; cases q
    · rw [upd_ne z, q] at q'; cases q'
theorem append_call {u x : V} {a b : Value} {σ : AHeap} {s : Shared} {A : Around} {Q : V → AHeap → Prop} (S : St X N σ s) (xu : VRel (hid N σ) s.heap u a) (xx : VRel (hid N σ) s.heap x b) (h : appendP u x σ Q) :
    wpAny (model X.prog X.w) A (call (.builtin "list.append") [a, b]) (PostE X N σ s Q) NoE s := by
  unfold appendP at h
  split at h <;> first | exact h.elim | skip
  rename_i c
  split at h <;> first | exact h.elim | skip
  rename_i l e
  obtain rfl := xu.ref_inv
  obtain ⟨vs, i1, i2, i3⟩ := S.objs _ _ e
  have hlen := i3.length
  simp only [Array.length_toList] at hlen
  refine wpAny_list_append_plain i1 (fun h' hp hs => ?_) (by rw [sizeLine_eq]; omega)
  obtain ⟨ob, hob⟩ := id hp
  obtain ⟨S', T'⟩ := S.change (tk := s.toks) (o' := .list (l ++ [x])) e hs ⟨_, hob⟩ (fun _ => nofun) fun up => ⟨vs.push b, hp, by rw [Array.size_push]; omega, by rw [Array.toList_push]; exact (i3.up up).snoc (xx.up up)⟩
  exact ⟨.none, _, S', T', .none, h.2⟩
theorem type_list_index' : typeOf (.builtin "list.index") = pure (.type "method_descriptor") := PySem.F.type_list_index
theorem list_method {u : V} {val : Value} {l : List V} {σ : AHeap} {s : Shared} {A : Around} {name : PySem.Str} {id : String} {pl : Sem Bool} {G : Value × List Value → Shared → Prop} (S : St X N σ s) (e : asList σ u = some l) (x : VRel (hid N σ) s.heap u val)
    (slot : Slot "list" name id) (hty : typeOf (.builtin id) = pure (.type "method_descriptor")) (h : G (.builtin id, [val]) s) : wpAny (model X.prog X.w) A (getMethod val name pl) G NoE s := by
  obtain ⟨c, vs, rfl, ⟨n, i1⟩, i2, i3⟩ := asList_inv S e x
  exact getMethod_builtin ⟨_, i1, rfl⟩ PySem.F.plainAttrs_list slot hty (fun a q => by cases q; exact ⟨_, i1, rfl⟩) h
theorem isSome_ex {α : Type} {o : Option α} (h : o.isSome = true) : ∃ a, o = some a := by cases o with | none => cases h | some a => exact ⟨a, rfl⟩
theorem one_lt {α : Type} (a : α) : [a].length < 30 := by simp
theorem two_lt {α : Type} (a b : α) : [a, b].length < 30 := by simp
theorem wpEs_one {e : E} {ρ : List V} {σ : AHeap} {Q : V → AHeap → Prop} (h : wpE X k e ρ σ Q) : wpEs X k (.cons e .nil) ρ σ fun l σ₁ => ∃ u, l = [u] ∧ Q u σ₁ := by
  show wpE X k e ρ σ (fun v σ₁ => ∃ u, [v] = [u] ∧ Q u σ₁)
  exact cast (congrArg (wpE X k e ρ σ) (by funext v σ₁; simp)) h
theorem wpEs_two {a b : E} {ρ : List V} {σ : AHeap} {Q : V → V → AHeap → Prop} (h : wpE X k a ρ σ fun u σ₁ => wpE X k b ρ σ₁ fun v σ₂ => Q u v σ₂) : wpEs X k (.cons a (.cons b .nil)) ρ σ fun l σ₁ => ∃ u v, l = [u, v] ∧ Q u v σ₁ := by
  show wpE X k a ρ σ (fun u σ₁ => wpE X k b ρ σ₁ fun v σ₂ => ∃ u' v', [u, v] = [u', v'] ∧ Q u' v' σ₂)
  exact cast (congrArg (wpE X k a ρ σ) (by funext u σ₁; exact congrArg (wpE X k b ρ σ₁) (by funext v σ₂; exact propext ⟨fun h => ⟨u, v, rfl, h⟩, by rintro ⟨_, _, h, q⟩; cases h; exact q⟩))) h
theorem ET.lappend (B : Base X) {o e : E} (ho : ET X k o) (he : ET X k e) : ET X k (.lappend o e) := by
  intro N sc nm env x ρ σ Q A s hm hq R S F
  cases x <;> first | cases hm | skip
  rename_i fn xs kws pos
  cases fn <;> first | cases hm | skip
  rename_i b t ap
  rcases xs with _ | ⟨l, _ | ⟨_, _⟩⟩ <;> cases kws <;> first | cases hm | skip
  replace hm : (t == PySem.Str.ofString "append" && baseOk b && ap.endLine == pos.line && matE sc nm o b && matE sc nm e l) = true := hm
  simp only [Bool.and_eq_true, beq_iff_eq] at hm
  obtain ⟨⟨⟨⟨rfl, m3⟩, m4⟩, m5⟩, m6⟩ := hm
  replace hq : wpE X k o ρ σ (fun u σ₁ => (asList σ₁ u).isSome = true ∧ wpE X k e ρ σ₁ fun v σ₂ => appendP u v σ₂ Q) := hq
  refine call_dot B ho (EsT.one he) m3 (one_lt l) (beq_iff_eq.mpr m4) m5 hq (by show (matE sc nm e l && true) = true; rw [m6]; rfl) R S F fun u val s₁ σ₁ S₁ V₁ h₁ F₁ => ?_
  obtain ⟨ls, hl⟩ := isSome_ex h₁.1
  refine ⟨.builtin "list.append", [val], _, kept_b _, fun pl G' hG => list_method S₁ hl V₁ PySem.F.slot_list_append type_list_append hG, wpEs_one h₁.2, fun vals s₂ l₂ σ₂ S₂ T₂ V₂ h₂ => ?_⟩
  obtain ⟨v, rfl, h₂⟩ := h₂
  cases V₂ with
  | cons v r =>
    cases r
    exact append_call S₂ (V₁.up (T₂.up S₁)) v h₂
theorem dict_method {u : V} {val : Value} {σ : AHeap} {s : Shared} {A : Around} {pl : Sem Bool} {G : Value × List Value → Shared → Prop} (S : St X N σ s) (e : isDict σ u = true) (x : VRel (hid N σ) s.heap u val)
    (h : G (.builtin "dict.get", [val]) s) : wpAny (model X.prog X.w) A (getMethod val (PySem.Str.ofString "get") pl) G NoE s := by
  unfold isDict at e
  split at e <;> first | (cases e; done) | skip
  rename_i a
  split at e <;> first | (cases e; done) | skip
  rename_i n m q
  obtain rfl := x.ref_inv
  obtain ⟨f, hm, _⟩ := S.objs _ _ q
  exact getMethod_builtin hm.typeIs PySem.F.plainAttrs_dict PySem.F.slot_dict_get PySem.F.type_dict_get hm.noDict h
theorem dget_call (B : Base X) {u key d : V} {a b c : Value} {σ : AHeap} {s : Shared} {A : Around} {Q : V → AHeap → Prop} (S : St X N σ s) (xu : VRel (hid N σ) s.heap u a) (xk : VRel (hid N σ) s.heap key b) (xd : VRel (hid N σ) s.heap d c) (h : dgetP u key d σ fun r => Q r σ) :
    wpAny (model X.prog X.w) A (call (.builtin "dict.get") [a, b, c]) (PostE X N σ s Q) NoE s := by
  unfold dgetP at h
  split at h <;> first | exact h.elim | skip
  rename_i p i
  split at h <;> first | exact h.elim | skip
  rename_i n m e
  obtain rfl := xu.ref_inv
  obtain ⟨t, rfl⟩ := xk.int_inv
  obtain ⟨f, hm, _, hv⟩ := S.objs _ _ e
  have hd : (p == sysModules) = false := by
    refine beq_false_of_ne fun z => ?_
    obtain ⟨o, ho⟩ := B.sysm
    have := S.fresh _ _ e
    rw [z, ho] at this; cases this
  refine call_meetsIn PySem.F.slot_dict_get hm.typeIs PySem.F.entry_dict_get (PySem.F.args_dict_get_3 _ _ _) (meets_dict_get_default (intKind X.prog X.w) p (intKind_is _ _ _ _) hd c) ⟨f, hm, ?_⟩
  refine .tok S ?_ h
  have hk := hv i
  cases q1 : m i with
  | none =>
    cases q2 : f i with
    | none => exact xd
    | some val => rw [q1, q2] at hk; exact hk.elim
  | some v =>
    cases q2 : f i with
    | none => rw [q1, q2] at hk; exact hk.elim
    | some val => rw [q1, q2] at hk; exact hk
theorem ET.dget (B : Base X) {o key d : E} (ho : ET X k o) (hk : ET X k key) (hd : ET X k d) : ET X k (.dget o key d) := by
  intro N sc nm env x ρ σ Q A s hm hq R S F
  cases x <;> first | cases hm | skip
  rename_i fn xs kws pos
  cases fn <;> first | cases hm | skip
  rename_i b t ap
  rcases xs with _ | ⟨l, _ | ⟨l', _ | ⟨_, _⟩⟩⟩ <;> cases kws <;> first | cases hm | skip
  replace hm : (t == PySem.Str.ofString "get" && baseOk b && ap.endLine == pos.line && matE sc nm o b && matE sc nm key l && matE sc nm d l') = true := hm
  simp only [Bool.and_eq_true, beq_iff_eq] at hm
  obtain ⟨⟨⟨⟨⟨rfl, m3⟩, m4⟩, m5⟩, m6⟩, m7⟩ := hm
  replace hq : wpE X k o ρ σ (fun u σ₁ => isDict σ₁ u = true ∧ wpE X k key ρ σ₁ fun v σ₂ => wpE X k d ρ σ₂ fun z σ₃ => dgetP u v z σ₃ fun r => Q r σ₃) := hq
  refine call_dot B ho (EsT.two hk hd) m3 (two_lt l l') (beq_iff_eq.mpr m4) m5 hq (by show (matE sc nm key l && (matE sc nm d l' && true)) = true; rw [m6, m7]; rfl) R S F fun u val s₁ σ₁ S₁ V₁ h₁ F₁ => ?_
  refine ⟨.builtin "dict.get", [val], _, kept_b _, fun pl G' hG => dict_method S₁ h₁.1 V₁ hG, wpEs_two h₁.2, fun vals s₂ l₂ σ₂ S₂ T₂ V₂ h₂ => ?_⟩
  obtain ⟨v, z, rfl, h₂⟩ := h₂
  cases V₂ with
  | cons v r =>
    cases r with
    | cons v' r =>
      cases r
      exact dget_call B S₂ (V₁.up (T₂.up S₁)) v v' h₂
theorem index_call {u x : V} {a b : Value} {σ : AHeap} {s : Shared} {A : Around} {Q : V → AHeap → Prop} (S : St X N σ s) (xu : VRel (hid N σ) s.heap u a) (xx : VRel (hid N σ) s.heap x b) (h : indexP u x σ fun r => Q (.int r) σ) :
    wpAny (model X.prog X.w) A (call (.builtin "list.index") [a, b]) (PostE X N σ s Q) NoE s := by
  unfold indexP at h
  split at h <;> first | exact h.elim | skip
  rename_i l i e
  split at h <;> first | exact h.elim | skip
  rename_i ns hns
  obtain ⟨t, rfl⟩ := xx.int_inv
  obtain ⟨c, vs, rfl, ⟨n, ho⟩, i2, i3⟩ := asList_inv S e xu
  rw [intsOf_eq hns] at i3
  have hi := i3.ints
  have hlen := hi.length
  have hj : ns.idxOf i < ns.length := List.idxOf_lt_length_iff.mpr h.1
  simp only [Array.length_toList] at hlen
  refine call_meets PySem.F.slot_list_index ⟨_, ho, rfl⟩ PySem.F.entry_list_index (PySem.F.args_list_index_2 _ _)
    (PySem.SeqAt.list_indexAt c vs n Option.none #[] (.int i t) (isInt i) (ns.idxOf i) (by omega) (by omega) ?_ ?_) ⟨ho, fun y hy => (eq_isInt i t hi y (by simpa using hy)).at _ _, .tok S .int h.2⟩
  · have := isInt_at i hi (ns.idxOf i) (by simp only [Array.length_toList]; omega) hj
    rw [Array.getElem_toList] at this
    rw [this]
    simpa using List.getElem_idxOf hj
  · intro j hjs hlt
    have := isInt_at i hi j (by simpa using hjs) (by omega)
    rw [Array.getElem_toList] at this
    rw [this]
    exact ne_of_lt_idxOf hlt _
theorem ET.lindex (B : Base X) {o e : E} (ho : ET X k o) (he : ET X k e) : ET X k (.lindex o e) := by
  intro N sc nm env x ρ σ Q A s hm hq R S F
  cases x <;> first | cases hm | skip
  rename_i fn xs kws pos
  cases fn <;> first | cases hm | skip
  rename_i b t ap
  rcases xs with _ | ⟨l, _ | ⟨_, _⟩⟩ <;> cases kws <;> first | cases hm | skip
  replace hm : (t == PySem.Str.ofString "index" && baseOk b && ap.endLine == pos.line && matE sc nm o b && matE sc nm e l) = true := hm
  simp only [Bool.and_eq_true, beq_iff_eq] at hm
  obtain ⟨⟨⟨⟨rfl, m3⟩, m4⟩, m5⟩, m6⟩ := hm
  replace hq : wpE X k o ρ σ (fun u σ₁ => (asList σ₁ u).isSome = true ∧ wpE X k e ρ σ₁ fun v σ₂ => indexP u v σ₂ fun r => Q (.int r) σ₂) := hq
  refine call_dot B ho (EsT.one he) m3 (one_lt l) (beq_iff_eq.mpr m4) m5 hq (by show (matE sc nm e l && true) = true; rw [m6]; rfl) R S F fun u val s₁ σ₁ S₁ V₁ h₁ F₁ => ?_
  obtain ⟨ls, hl⟩ := isSome_ex h₁.1
  refine ⟨.builtin "list.index", [val], _, kept_b _, fun pl G' hG => list_method S₁ hl V₁ PySem.F.slot_list_index PySem.F.type_list_index hG, wpEs_one h₁.2, fun vals s₂ l₂ σ₂ S₂ T₂ V₂ h₂ => ?_⟩
  obtain ⟨v, rfl, h₂⟩ := h₂
  cases V₂ with
  | cons v r =>
    cases r
    exact index_call S₂ (V₁.up (T₂.up S₁)) v h₂
theorem fold_rep (val : Value) : ∀ n : Nat, (List.foldl (fun x1 x2 => x1 ++ x2) #[] (List.replicate n #[val])).toList = List.replicate n val := by
  have key : ∀ (n : Nat) (acc : Array Value), (List.foldl (fun x1 x2 => x1 ++ x2) acc (List.replicate n #[val])).toList = acc.toList ++ List.replicate n val := by
    intro n
    induction n with
    | zero => intro acc; simp
    | succ n ih => intro acc; rw [List.replicate_succ, List.foldl_cons, ih]; simp [List.replicate_succ]
  intro n
  rw [key]; rfl
theorem VRels.rep {τ : AHeap} {h : Heap} {v : V} {val : Value} (x : VRel τ h v val) : ∀ n : Nat, VRels τ h (List.replicate n v) (List.replicate n val)
  | 0 => .nil
  | n + 1 => .cons x (VRels.rep x n)
theorem ET.nrep {e n : E} (he : ET X k e) (hn : ET X k n) : ET X k (.nrep e n) := by
  intro N sc nm env x ρ σ Q A s hm hq R S F
  cases x <;> first | cases hm | skip
  rename_i l o r pos
  cases l <;> first | cases hm | skip
  rename_i xs lp
  rcases xs with _ | ⟨l, _ | ⟨_, _⟩⟩ <;> cases o <;> first | cases hm | skip
  replace hm : (matE sc nm e l && matE sc nm n r) = true := hm
  simp only [Bool.and_eq_true] at hm
  have hq' : wpE X k e ρ σ (fun u σ₁ => wpE X k n ρ σ₁ fun v σ₂ => (match u, v with | .int i, .int m => 0 ≤ m ∧ mkList true (List.replicate m.toNat (.int i)) σ₂ Q | _, _ => False)) := hq
  have hl : wpE X k (.lst (.cons e .nil)) ρ σ (fun z σ₁ => ∃ u, z = .list [u] ∧ wpE X k n ρ σ₁ fun v σ₂ => (match u, v with | .int i, .int m => 0 ≤ m ∧ mkList true (List.replicate m.toNat (.int i)) σ₂ Q | _, _ => False)) := by
    show wpE X k e ρ σ (fun u σ₁ => [u].length ≤ 1000 ∧ ∃ u', V.list [u] = V.list [u'] ∧ wpE X k n ρ σ₁ fun v σ₂ => (match u', v with | .int i, .int m => 0 ≤ m ∧ mkList true (List.replicate m.toNat (.int i)) σ₂ Q | _, _ => False))
    refine cast (congrArg (wpE X k e ρ σ) ?_) hq'
    funext u σ₁
    refine propext ⟨fun h => ⟨by simp, u, rfl, h⟩, ?_⟩
    rintro ⟨_, u', h, q⟩
    cases h
    exact q
  have hml : matE sc nm (.lst (.cons e .nil)) (.List [l] lp) = true := by show (matE sc nm e l && true) = true; rw [hm.1]; rfl
  refine wpAny_BinOp (seqE (ET.lst (EsT.one he) hml hl R S F) fun val s₁ z σ₁ S₁ T₁ V₁ h₁ => ?_)
  obtain ⟨u, rfl, h₁⟩ := h₁
  refine seqE (hn hm.2 h₁ R S₁ (F.step S S₁ T₁)) fun val' s₂ v σ₂ S₂ T₂ V₂ h₂ => ?_
  have V₁' := V₁.up (T₂.up S₁)
  have T := T₁.trans T₂ S.gfree S₂.gfree
  split at h₂ <;> first | exact h₂.elim | skip
  rename_i i m
  obtain ⟨t, rfl⟩ := V₂.int_inv
  cases V₁' with
  | list a1 a2 a3 a4 =>
    rename_i c vs
    obtain ⟨nn, ho⟩ := a2
    obtain ⟨vl⟩ := vs
    cases a4 with
    | cons v1 r1 =>
      cases r1
      rename_i w1
      obtain ⟨h0, hlen, hq2⟩ := h₂
      rw [List.length_replicate] at hlen
      obtain ⟨mm, news, Fm, Nw, all⟩ := ledger S₂
      refine upE S T (mul_list Fm Nw ho (by omega) (by omega) (by simp; omega) fun h' F' N' => ?_)
      have ho2 := (N' _ List.mem_cons_self).1
      have g : Grow X s₂.heap h' := Grow.of_news Fm all F' N' fun p hp => List.mem_cons_of_mem _ hp
      have hR : VRels (hid N σ₂) s₂.heap (List.replicate m.toNat (.int i)) (List.foldl (fun x1 x2 => x1 ++ x2) #[] (List.replicate (if (#[w1] : Array Value).isEmpty = true then 0 else m.toNat) #[w1])).toList := by
        rw [if_neg (by simp), fold_rep]
        exact VRels.rep v1 _
      have hnn : s₂.heap.get? s₂.heap.objs.size = Option.none := get_ge_none (Nat.le_refl _)
      exact newList_end (new := true) S₂ (tk := s₂.toks) g hnn ⟨_, ho2⟩ hR ⟨by rw [List.length_replicate]; exact hlen, hq2⟩
theorem ET.ncat {a b : E} (ha : ET X k a) (hb : ET X k b) : ET X k (.ncat a b) := by
  intro N sc nm env x ρ σ Q A s hm hq R S F
  cases x <;> first | cases hm | skip
  rename_i l o r _
  have hm : (o == .Add && matE sc nm a l && matE sc nm b r) = true := hm
  simp only [Bool.and_eq_true, beq_iff_eq] at hm
  obtain ⟨⟨rfl, m1⟩, m2⟩ := hm
  replace hq : wpE X k a ρ σ (fun u σ₁ => wpE X k b ρ σ₁ fun v σ₂ => ncatP u v σ₂ Q) := hq
  refine wpAny_BinOp (seqE (ha m1 hq R S F) fun val s₁ u σ₁ S₁ T₁ V₁ h₁ => seqE (hb m2 h₁ R S₁ (F.step S S₁ T₁)) fun val' s₂ v σ₂ S₂ T₂ V₂ h₂ => ?_)
  have V₁' := V₁.up (T₂.up S₁)
  refine upE S (T₁.trans T₂ S.gfree S₂.gfree) ?_
  unfold ncatP at h₂
  split at h₂ <;> first | exact h₂.elim | skip
  rename_i l1 l2 e1 e2
  obtain ⟨c, vs, rfl, i1, i2, i3⟩ := asList_inv S₂ e1 V₁'
  obtain ⟨d, ws, rfl, j1, j2, j3⟩ := asList_inv S₂ e2 V₂
  obtain ⟨m, news, Fm, Nw, all⟩ := ledger S₂
  have hsz : vs.size + ws.size ≤ sizeLine := by rw [sizeLine_eq]; omega
  refine add_arrays Fm Nw i1.isList j1.isList (fun h' F' N' => ?_) hsz
  have ho := (N' _ List.mem_cons_self).1
  have g : Grow X s₂.heap h' := Grow.of_news Fm all F' N' fun p hp => List.mem_cons_of_mem _ hp
  have il : h'.PlainList s₂.heap.objs.size (vs.toList ++ ws.toList).toArray := ⟨_, ho⟩
  have hn : s₂.heap.get? s₂.heap.objs.size = Option.none := get_ge_none (Nat.le_refl _)
  have hR : VRels (hid N σ₂) s₂.heap (l1 ++ l2) (vs.toList ++ ws.toList).toArray.toList := i3.append j3
  exact newList_end (new := true) S₂ (tk := s₂.toks) g hn il hR h₂
end
end Mine
end

section
open PySem PySem.Calls PyProof.Rows PySem.W
set_option maxRecDepth 20000
namespace Mine
variable {N : Hid}
section
variable {prog : Program} {w : World} {A : Around} {E : Value → Shared → Prop} {s : Shared}
theorem draw_list {it t : Addr} {items : Array Value} (hne : t ≠ it) : ∀ (n i : Nat) (s : Shared) (Q : List Value → Shared → Prop), s.heap.IsListIter it t i → s.heap.IsList t items → i + n ≤ items.size →
    (∀ h', h'.IsListIter it t (i + n) → Heap.SameBut it s.heap h' → Q ((items.toList.drop i).take n) { s with heap := h' }) → wpAny (model prog w) A (draw (.ref it) n) Q E s
  | 0, i, s, Q, hit, _, _, hQ => by
    show wpAny _ _ (pure []) Q E s
    exact wpAny_pure (by simpa using hQ s.heap hit (Heap.SameBut.refl ..))
  | n + 1, i, s, Q, hit, ht, hle, hQ => by
    have hlt : i < items.size := by omega
    show wpAny _ _ (pyNext (.ref it) >>= _) Q E s
    refine wpAny_bind (wpAny_pyNext_list_item hit ht (x := items[i]) (by simp [hlt]) fun h₁ hit₁ hs₁ => ?_)
    refine wpAny_bind (wpAny_holding (draw_list hne n (i + 1) _ _ hit₁ (ht.extBut hs₁.extBut hne) (by omega) fun h₂ hit₂ hs₂ => wpAny_pure ?_))
    have hd : items.toList.drop i = items[i] :: items.toList.drop (i + 1) := by simp [List.drop_eq_getElem_cons, hlt]
    have := hQ h₂ (by rw [show i + (n + 1) = i + 1 + n by omega]; exact hit₂) (hs₁.trans hs₂)
    rw [hd, List.take_succ_cons] at this
    exact this
theorem unpackItems_list {t : Addr} {items : Array Value} {Q : List Value → Shared → Prop} (hh : A.handled = none) (ht : s.heap.IsList t items)
    (hQ : ∀ h', Heap.ExtBut s.heap.objs.size s.heap h' → Q items.toList { s with heap := h' }) : wpAny (model prog w) A (unpackItems (.ref t) items.size none) Q E s := by
  have hlt : t ≠ s.heap.objs.size := by obtain ⟨o, ho, _⟩ := ht; exact Nat.ne_of_lt (Heap.lt_size ho)
  unfold unpackItems
  refine wpAny_bind ?_
  · unfold notIterableAtAll
    refine wpAny_bind (wpAny_specialOf ht.typeIs slot_list_iter.lookup ?_)
    refine wpAny_pure ?_
    simp only [Bool.false_eq_true, if_false]
    refine wpAny_bind (wpAny_holding (wpAny_pyIter_list ht ?_))
    refine wpAny_bind (wpAny_holding (draw_list hlt items.size 0 _ _ ⟨_, Heap.get?_push_size _ rfl, rfl, rfl⟩ (ht.push _) (by omega) fun h₁ hit₁ hs₁ => ?_))
    have hall : List.take items.size (List.drop 0 items.toList) = items.toList := by
      rw [List.drop_zero]; exact List.take_of_length_le (by simp)
    rw [hall]
    rw [if_neg (by simp)]
    have ht₁ : h₁.IsList t items := (ht.push _).extBut hs₁.extBut hlt
    refine wpAny_bind (wpAny_holding (wpAny_pyNext_list_end hh hit₁ ht₁ (by simp) fun h₂ he₂ => ?_))
    simp only [Option.isSome_none, Bool.false_eq_true, if_false]
    refine wpAny_pure (hQ h₂ fun b o hb e => he₂ b o hb (hs₁.extBut b o hb (Heap.get?_push_of_some _ e)))
end
section
variable {X : Cx} {k : Nat}
def isSlotObj (o : Obj) : Prop := (∃ es ep, o.data = .dict es ep) ∨ ∃ v, o.data = .cell v
structure StepX (X : Cx) (P : Addr → Prop) (σ : AHeap) (s : Shared) (σ' : AHeap) (s' : Shared) : Prop where
  keep : ∀ b o, ¬ P b → b ≠ X.G → s.heap.get? b = some o → σ b = none → s'.heap.get? b = some o
  sink : ¬ P X.G → ∀ m, s.heap.Ns X.G m → s'.heap.Ns X.G m
  new : ∀ b o, σ b = none → σ' b = some o → s.heap.get? b = none
  live : ∀ b o, s.heap.get? b = some o → ∃ o', s'.heap.get? b = some o'
  rest : ∃ h' tk, s' = { s with heap := h', toks := tk }
theorem StepX.of {P : Addr → Prop} {σ σ' : AHeap} {s s' : Shared} (T : Step X σ s σ' s') : StepX X P σ s σ' s' := ⟨fun b o _ n e q => T.keep b o n e q, fun _ => T.sink, T.new, T.live, T.rest⟩
theorem StepX.refl (P : Addr → Prop) (σ : AHeap) (s : Shared) : StepX X P σ s σ s := .of (.refl ..)
theorem StepX.old {P : Addr → Prop} {σ σ' : AHeap} {s s' : Shared} (T : StepX X P σ s σ' s') {b : Addr} {o : Obj} (e : s.heap.get? b = some o) (q : σ b = none) : σ' b = none := by
  cases q' : σ' b with
  | none => rfl
  | some o' => have := T.new b o' q q'; rw [e] at this; cases this
theorem StepX.trans {P : Addr → Prop} {σ σ₁ σ₂ : AHeap} {s s₁ s₂ : Shared} (x : StepX X P σ s σ₁ s₁) (y : StepX X P σ₁ s₁ σ₂ s₂) : StepX X P σ s σ₂ s₂ where
  keep := fun b o p n e q => y.keep b o p n (x.keep b o p n e q) (x.old e q)
  sink := fun p m n => y.sink p m (x.sink p m n)
  new := fun b o q q' => by
    cases e : s.heap.get? b with
    | none => rfl
    | some o' =>
      obtain ⟨o1, e1⟩ := x.live b o' e
      have := y.old e1 (x.old e q)
      rw [q'] at this; cases this
  live := fun b o e => let ⟨o', e'⟩ := x.live b o e; y.live b o' e'
  rest := by
    obtain ⟨h1, t1, rfl⟩ := x.rest
    obtain ⟨h2, t2, rfl⟩ := y.rest
    exact ⟨h2, t2, rfl⟩
theorem StepX.poke {P : Addr → Prop} {σ₀ σ : AHeap} {s₀ s : Shared} {p : Addr} {h' : Heap} {tk : Nat} (T : StepX X P σ₀ s₀ σ s) (u : Poke X N σ s p h') (hp : (P p ∧ ∃ o', h'.get? p = some o') ∨ s₀.heap.get? p = none) : StepX X P σ₀ s₀ σ { s with heap := h', toks := tk } where
  keep := fun b o pb n e q => u.at_ b o (fun z => by
    rcases hp with hp | hp
    · exact pb (z ▸ hp.1)
    · rw [z, hp] at e; cases e) (T.keep b o pb n e q)
  sink := fun pG m n => by
    obtain ⟨o, es, ep, ho, r⟩ := T.sink pG m n
    have ne : X.G ≠ p := fun z => by
      rcases hp with hp | hp
      · exact pG (z ▸ hp.1)
      · obtain ⟨o', _, _, ho', _⟩ := n
        rw [z, hp] at ho'; cases ho'
    exact ⟨o, es, ep, u.at_ _ _ ne ho, r⟩
  new := T.new
  live := fun b o e => by
    obtain ⟨o', e'⟩ := T.live b o e
    by_cases z : b = p
    · subst z
      rcases hp with hp | hp
      · exact hp.2
      · rw [hp] at e; cases e
    · exact ⟨o', u.at_ _ _ z e'⟩
  rest := by
    obtain ⟨h1, t1, rfl⟩ := T.rest
    exact ⟨h', tk, rfl⟩
theorem StepX.fresh {P : Addr → Prop} {σ₀ σ : AHeap} {s₀ s : Shared} (T : StepX X P σ₀ s₀ σ s) {p : Addr} (h : s.heap.get? p = none) : s₀.heap.get? p = none := by
  cases e : s₀.heap.get? p with
  | none => rfl
  | some o => obtain ⟨o', e'⟩ := T.live p o e; rw [h] at e'; cases e'
theorem StepX.after {P : Addr → Prop} {σ σ₁ σ₂ : AHeap} {s s₁ s₂ : Shared} (x : Step X σ s σ₁ s₁) (y : StepX X P σ₁ s₁ σ₂ s₂) (hp : ∀ p, P p → s.heap.get? p = none) : Step X σ s σ₂ s₂ where
  keep := fun b o n e q => y.keep b o (fun p => by rw [hp b p] at e; cases e) n (x.keep b o n e q) (x.up0 b o n e q).2
  sink := fun m n => y.sink (fun p => by obtain ⟨o, _, _, e, _⟩ := n; rw [hp _ p] at e; cases e) m (x.sink m n)
  new := ((StepX.of (P := P) x).trans y).new
  live := ((StepX.of (P := P) x).trans y).live
  rest := ((StepX.of (P := P) x).trans y).rest
theorem StepX.mono {P P' : Addr → Prop} {σ σ' : AHeap} {s s' : Shared} (T : StepX X P σ s σ' s') (h : ∀ p, P p → P' p ∨ s.heap.get? p = none) : StepX X P' σ s σ' s' :=
  ⟨fun b o p n e q => T.keep b o (fun z => (h b z).elim p fun y => by rw [y] at e; cases e) n e q,
    fun p m n => T.sink (fun z => (h _ z).elim p fun y => by obtain ⟨o, _, _, e, _⟩ := n; rw [y] at e; cases e) m n, T.new, T.live, T.rest⟩
inductive Pokes (X : Cx) (N : Hid) (σ : AHeap) (P : Addr → Prop) : Shared → Shared → Prop
  | refl (s) : Pokes X N σ P s s
  | step {s h' tk s'} (p : Addr) : Poke X N σ s p h' → ((P p ∧ ∃ o', h'.get? p = some o') ∨ s.heap.get? p = none) → (∀ o, s.heap.get? p = some o → isSlotObj o) → Pokes X N σ P { s with heap := h', toks := tk } s' → Pokes X N σ P s s'
section
variable {P : Addr → Prop}
theorem Pokes.trans {σ : AHeap} {s s₁ s₂ : Shared} (x : Pokes X N σ P s s₁) (y : Pokes X N σ P s₁ s₂) : Pokes X N σ P s s₂ := by
  induction x with
  | refl => exact y
  | step p a b c _ ih => exact .step p a b c (ih y)
theorem Pokes.vrel {σ : AHeap} {s s' : Shared} (x : Pokes X N σ P s s') {v : V} {val : Value} (r : VRel (hid N σ) s.heap v val) : VRel (hid N σ) s'.heap v val := by
  induction x with
  | refl => exact r
  | step p a b c _ ih => exact ih (r.poke a)
theorem Pokes.vrels {σ : AHeap} {s s' : Shared} (x : Pokes X N σ P s s') {l : List V} {vs : List Value} (r : VRels (hid N σ) s.heap l vs) : VRels (hid N σ) s'.heap l vs := by
  induction x with
  | refl => exact r
  | step p a b c _ ih => exact ih (r.poke a)
theorem Pokes.st {σ : AHeap} {s s' : Shared} (x : Pokes X N σ P s s') (r : St X N σ s) : St X N σ s' := by
  induction x with
  | refl => exact r
  | step p a b c _ ih => exact ih (r.poke a)
theorem Pokes.stepX {σ : AHeap} {s s' : Shared} (x : Pokes X N σ P s s') : StepX X P σ s σ s' := by
  induction x with
  | refl => exact .refl ..
  | step p a b c _ ih => exact ((StepX.refl _ _ _).poke a b).trans ih
theorem Pokes.get {σ : AHeap} {s s' : Shared} (x : Pokes X N σ P s s') {b : Addr} {o : Obj} (e : s.heap.get? b = some o) (ho : ¬ isSlotObj o) : s'.heap.get? b = some o := by
  induction x with
  | refl => exact e
  | step p a b' c _ ih => exact ih (a.at_ _ _ (fun z => ho (c _ (z ▸ e))) e)
theorem Pokes.iter {σ : AHeap} {s s' : Shared} (x : Pokes X N σ P s s') {it : Addr} {l : List V} (r : Iter (hid N σ) s.heap it l) : Iter (hid N σ) s'.heap it l := by
  induction x with
  | refl => exact r
  | step p a b c _ ih =>
    refine ih (r.poke a fun z => ?_)
    obtain ⟨o, ho, fs, hf⟩ := r.fields
    rcases c o (z ▸ ho) with ⟨_, _, q⟩ | ⟨_, q⟩ <;> rw [hf] at q <;> cases q
end
structure Own (P : Addr → Prop) (sc : Scope) (env : Env) (loc : Bool) : Prop where
  here : P env.locals
  cell : loc = false → ∀ x c, sc.names.lookup x = some .cell → env.cells.lookup x = some c → P c
theorem set_get {ρ : List V} {i j : Nat} {v u : V} (h : (ρ.set i v)[j]? = some u) : (j = i ∧ u = v) ∨ (j ≠ i ∧ ρ[j]? = some u) := by
  by_cases e : j = i
  · subst e
    left
    rw [List.getElem?_set_self'] at h
    refine ⟨rfl, ?_⟩
    cases q : ρ[j]? with
    | none => rw [q] at h; cases h
    | some w => rw [q] at h; cases h; rfl
  · right
    rw [List.getElem?_set_ne (Ne.symm e)] at h
    exact ⟨e, h⟩
theorem assign_name {sc : Scope} {nm : List (PySem.Str × Nat)} {env : Env} {ρ : List V} {σ : AHeap} {P : Addr → Prop} {s : Shared} {A : Around} {id : PySem.Str} {i : Nat} {v : V} {val : Value} {loc : Bool} {Q : Unit → Shared → Prop} (O : Own P sc env loc)
    (hn : nm.lookup id = some i) (hk : sc.names.lookup id = some .local ∨ (loc = false ∧ sc.names.lookup id = some .cell)) (S : St X N σ s) (F : FrOk X N sc nm env ρ σ s.heap) (V₁ : VRel (hid N σ) s.heap v val)
    (h : ∀ s', Pokes X N σ P s s' → FrOk X N sc nm env (ρ.set i v) σ s'.heap → Q () s') : wpAny (model X.prog X.w) A (storeName env id val) Q NoE s := by
  have hke : env.scope.kind = .function := by rw [F.scope]; exact F.kind
  have kind : env.kindOf id = sc.names.lookup id := by unfold Env.kindOf; rw [F.scope]
  rcases hk with hk | ⟨hl, hk⟩
  · obtain ⟨m, n, r⟩ := F.ns
    obtain ⟨o1, es1, ep1, ho1, hd1, hr1⟩ := _root_.id n
    refine wpAny_storeName_local (kind.trans hk) n (fun h' n' hs => ?_) (by rw [hke]; rfl)
    have PK : Poke X N σ s env.locals h' := ⟨(hid_none.mp F.own.1).2, F.own.2, by
        by_cases z : env.locals = X.G
        · rw [← z]; exact ⟨_, n'⟩
        · obtain ⟨m2, o2, es2, ep2, ho2, r2⟩ := S.ns
          exact ⟨m2, o2, es2, ep2, (hs.2 _ (Ne.symm z)).trans ho2, r2⟩,
      .inl (fun o xs k e q => by rw [ho1] at e; cases e; rw [hd1] at q; cases q), fun b o ne e => (hs.2 b ne).trans e, fun _ => by obtain ⟨o2, _, _, ho2, _⟩ := n'; exact ⟨o2, ho2⟩⟩
    refine h _ (.step env.locals PK (.inl ⟨O.here, by obtain ⟨o2, _, _, ho2, _⟩ := n'; exact ⟨o2, ho2⟩⟩) (fun o e => by rw [ho1] at e; cases e; exact .inl ⟨_, _, hd1⟩) (.refl _)) ?_
    refine ⟨F.scope, F.kind, F.glob, F.blt, ⟨_, n', fun x j hx hxl u hu hne => ?_⟩, fun x hx => ?_, F.own, F.inj, F.cinj⟩
    · rcases set_get hu with ⟨rfl, rfl⟩ | ⟨ne, hu'⟩
      · obtain rfl := F.inj _ _ _ hx hn
        exact ⟨val, if_pos rfl, V₁.poke PK⟩
      · obtain ⟨w, a, b⟩ := r x j hx hxl u hu' hne
        refine ⟨w, ?_, b.poke PK⟩
        rw [if_neg]
        · exact a
        · rintro rfl; rw [hn] at hx; cases hx; exact ne rfl
    · obtain ⟨c, ov, a, ⟨oc, hoc, hdc⟩, d, e, f⟩ := F.cell x hx
      have nc : c ≠ env.locals := fun z => by rw [z, ho1] at hoc; cases hoc; rw [hd1] at hdc; cases hdc
      refine ⟨c, ov, a, ⟨oc, (hs.2 c nc).trans hoc, hdc⟩, d, e, fun j hx' u hu hne => ?_⟩
      rcases set_get hu with ⟨rfl, rfl⟩ | ⟨ne, hu'⟩
      · obtain rfl := F.inj _ _ _ hx' hn
        rcases hx with hx | hx <;> rw [hk] at hx <;> cases hx
      · obtain ⟨w, a', b'⟩ := f j hx' u hu' hne
        exact ⟨w, a', b'.poke PK⟩
  · obtain ⟨c, ov, a, b0, d, e, f⟩ := F.cell id (.inl hk)
    obtain ⟨oc, hoc, hdc⟩ := _root_.id b0
    refine wpAny_storeName_cell hke (kind.trans hk) a b0 (fun h' hc hs => ?_)
    have cG : c ≠ X.G := fun z => by
      obtain ⟨m2, o2, es2, ep2, ho2, hd2, _⟩ := S.ns
      rw [← z, hoc] at ho2; cases ho2; rw [hdc] at hd2; cases hd2
    have PK : Poke X N σ s c h' := .mk' S (hid_none.mp d).2 e cG (.inl (fun o xs k e q => by rw [hoc] at e; cases e; rw [hdc] at q; cases q)) (fun b o ne e => (hs.2 b ne).trans e) (fun _ => by obtain ⟨o2, ho2, _⟩ := hc; exact ⟨o2, ho2⟩)
    refine h { s with heap := h' } (.step (tk := s.toks) c PK (.inl ⟨O.cell hl _ _ hk a, by obtain ⟨o2, ho2, _⟩ := hc; exact ⟨o2, ho2⟩⟩) (fun o e => by rw [hoc] at e; cases e; exact .inr ⟨_, hdc⟩) (.refl _)) ?_
    obtain ⟨m, n, r⟩ := F.ns
    obtain ⟨o1, es1, ep1, ho1, hd1, hr1⟩ := _root_.id n
    have nl : env.locals ≠ c := fun z => by rw [z, hoc] at ho1; cases ho1; rw [hdc] at hd1; cases hd1
    refine ⟨F.scope, F.kind, F.glob, F.blt, ⟨m, ⟨o1, es1, ep1, (hs.2 _ nl).trans ho1, hd1, hr1⟩, fun x j hx hxl u hu hne => ?_⟩, fun x hx => ?_, F.own, F.inj, F.cinj⟩
    · rcases set_get hu with ⟨rfl, rfl⟩ | ⟨ne, hu'⟩
      · obtain rfl := F.inj _ _ _ hx hn
        rw [hk] at hxl; cases hxl
      · obtain ⟨w, a', b'⟩ := r x j hx hxl u hu' hne
        exact ⟨w, a', b'.poke PK⟩
    · obtain ⟨c', ov', a', ⟨oc', hoc', hdc'⟩, d', e', f'⟩ := F.cell x hx
      by_cases z : c' = c
      · subst z
        obtain rfl := F.cinj _ _ _ a' a
        refine ⟨c', some val, a', hc, d', e', fun j hx' u hu hne => ?_⟩
        rcases set_get hu with ⟨rfl, rfl⟩ | ⟨ne, hu'⟩
        · exact ⟨val, rfl, V₁.poke PK⟩
        · rw [hn] at hx'; cases hx'; exact absurd rfl ne
      · refine ⟨c', ov', a', ⟨oc', (hs.2 c' z).trans hoc', hdc'⟩, d', e', fun j hx' u hu hne => ?_⟩
        rcases set_get hu with ⟨rfl, rfl⟩ | ⟨ne, hu'⟩
        · obtain rfl := F.inj _ _ _ hx' hn
          rw [a] at a'; cases a'; exact absurd rfl z
        · obtain ⟨w, a'', b''⟩ := f' j hx' u hu' hne
          exact ⟨w, a'', b''.poke PK⟩
def tgOk (sc : Scope) (nm : List (PySem.Str × Nat)) (loc : Bool) (i : Nat) (id : PySem.Str) : Prop := nm.lookup id = some i ∧ (sc.names.lookup id = some .local ∨ (loc = false ∧ sc.names.lookup id = some .cell))
theorem matTg_v {sc : Scope} {nm : List (PySem.Str × Nat)} {loc : Bool} {i : Nat} {tg : PySem.Expr} (h : matTg sc nm loc (.v i) tg = true) : ∃ id pos, tg = .Name id pos ∧ tgOk sc nm loc i id := by
  cases tg <;> first | (cases h; done) | skip
  rename_i id pos
  simp only [matTg, Bool.and_eq_true, beq_iff_eq, Bool.or_eq_true, Bool.not_eq_true'] at h
  exact ⟨id, pos, rfl, h.1, h.2⟩
theorem matTgs_inv {sc : Scope} {nm : List (PySem.Str × Nat)} {loc : Bool} : ∀ {is : List Nat} {es : List PySem.Expr}, matTg.matTgs sc nm loc is es = true → (is = [] ∧ es = []) ∨ ∃ i is' id pos es', is = i :: is' ∧ es = .Name id pos :: es' ∧ tgOk sc nm loc i id ∧ matTg.matTgs sc nm loc is' es' = true
  | [], [], _ => .inl ⟨rfl, rfl⟩
  | [], _ :: _, h => by cases h
  | _ :: _, [], h => by cases h
  | i :: is, e :: es, h => by
    cases e <;> first | (cases h; done) | skip
    rename_i id pos
    simp only [matTg.matTgs, Bool.and_eq_true, beq_iff_eq, Bool.or_eq_true, Bool.not_eq_true'] at h
    exact .inr ⟨i, is, id, pos, es, rfl, rfl, ⟨h.1.1, h.1.2⟩, h.2⟩
theorem assign_in_order {sc : Scope} {nm : List (PySem.Str × Nat)} {env : Env} {σ : AHeap} {P : Addr → Prop} {A : Around} {loc : Bool} {Q : Unit → Shared → Prop} (O : Own P sc env loc) : ∀ {is : List Nat} {es : List PySem.Expr} {l : List V} {vals : List Value} {ρ : List V} {s : Shared},
    matTg.matTgs sc nm loc is es = true → l.length = is.length → St X N σ s → FrOk X N sc nm env ρ σ s.heap → VRels (hid N σ) s.heap l vals →
    (∀ s', Pokes X N σ P s s' → FrOk X N sc nm env (setAll ρ is l) σ s'.heap → Q () s') → wpAny (model X.prog X.w) A (assignInOrder ((assignEach es env).map (·.2)) vals) Q NoE s := by
  intro is
  induction is with
  | nil =>
    intro es l vals ρ s hm hl S F Vs h
    rcases matTgs_inv hm with ⟨_, rfl⟩ | ⟨_, _, _, _, _, q, _⟩
    · cases l with
      | nil => cases Vs; exact wpAny_pure (h s (.refl s) F)
      | cons => cases hl
    · cases q
  | cons i is ih =>
    intro es l vals ρ s hm hl S F Vs h
    rcases matTgs_inv hm with ⟨q, _⟩ | ⟨i', is', id, pos, es', q, rfl, ht, hm'⟩
    · cases q
    · cases q
      cases Vs with
      | nil => cases hl
      | cons v r =>
        rename_i v1 val l1 vs1
        show wpAny _ _ (holding vs1 (assign (.Name id pos) env val) >>= fun _ => assignInOrder ((assignEach es' env).map (·.2)) vs1) Q NoE s
        refine wpAny_bind (wpAny_holding (wpAny_assign_Name (assign_name O ht.1 ht.2 S F v fun s' P1 F' => ?_)))
        exact ih hm' (by simpa using hl) (P1.st S) F' (P1.vrels r) fun s'' P' F'' => h s'' (P1.trans P') F''
theorem eachPlain {env : Env} {sc : Scope} {nm : List (PySem.Str × Nat)} {loc : Bool} : ∀ {is : List Nat} {es : List PySem.Expr}, matTg.matTgs sc nm loc is es = true → (assignEach es env).length = is.length ∧ (assignEach es env).findIdx? (·.1) = none := by
  intro is
  induction is with
  | nil =>
    intro es hm
    rcases matTgs_inv hm with ⟨_, rfl⟩ | ⟨_, _, _, _, _, q, _⟩
    · exact ⟨rfl, rfl⟩
    · cases q
  | cons i is ih =>
    intro es hm
    rcases matTgs_inv hm with ⟨q, _⟩ | ⟨i', is', id, pos, es', q, rfl, ht, hm'⟩
    · cases q
    · cases q
      obtain ⟨a, b⟩ := ih hm'
      refine ⟨by show (assignEach es' env).length + 1 = _; rw [a]; rfl, ?_⟩
      show List.findIdx? (·.1) ((false, _) :: assignEach es' env) = none
      rw [List.findIdx?_cons, b]; rfl
theorem assign_tg {sc : Scope} {nm : List (PySem.Str × Nat)} {env : Env} {σ : AHeap} {P : Addr → Prop} {A : Around} {loc : Bool} {Q : Unit → Shared → Prop} {t : Tg} {tg : PySem.Expr} {v : V} {val : Value} {ρ : List V} {s : Shared} {QR : List V → Prop} (O : Own P sc env loc)
    (hh : A.handled = none) (hm : matTg sc nm loc t tg = true) (S : St X N σ s) (F : FrOk X N sc nm env ρ σ s.heap) (V₁ : VRel (hid N σ) s.heap v val) (hq : asgP t v ρ QR)
    (h : ∀ s' ρ', Pokes X N σ P s s' → FrOk X N sc nm env ρ' σ s'.heap → QR ρ' → Q () s') : wpAny (model X.prog X.w) A (assign tg env val) Q NoE s := by
  cases t with
  | v i =>
    obtain ⟨id, pos, rfl, ht⟩ := matTg_v hm
    exact wpAny_assign_Name (assign_name O ht.1 ht.2 S F V₁ fun s' P1 F' => h s' _ P1 F' hq)
  | tup is =>
    cases tg <;> first | (cases hm; done) | skip
    rename_i es n pos
    replace hm : matTg.matTgs sc nm loc is es = true := hm
    obtain ⟨e1, e2⟩ := eachPlain (env := env) hm
    have go : ∀ (l : List V) (vs : Array Value) (h' : Heap), l.length = is.length → VRels (hid N σ) s.heap l vs.toList → Heap.ExtBut s.heap.objs.size s.heap h' → QR (setAll ρ is l) →
        wpAny (model X.prog X.w) A (assignInOrder ((assignEach es env).map (·.2)) vs.toList) Q NoE { s with heap := h' } := fun l vs h' hl Vs he hq => by
      have PK : Poke X N σ s s.heap.objs.size h' := by
        have hn : s.heap.get? s.heap.objs.size = Option.none := get_ge_none (Nat.le_refl _)
        exact .mk' S (S.free_of_none hn) (S.H0_of_none hn) (fun z => by obtain ⟨m, o, es, ep, ho, _⟩ := S.ns; rw [← z, hn] at ho; cases ho) (.inl fun o xs n e => by rw [hn] at e; cases e) he (fun ⟨o, e⟩ => by rw [S.hid_fresh hn] at e; cases e)
      have PP : Pokes X N σ P s { s with heap := h' } := .step (tk := s.toks) _ PK (.inr (get_ge_none (Nat.le_refl _))) (fun o e => by rw [get_ge_none (Nat.le_refl _)] at e; cases e) (.refl _)
      have g : Grow X s.heap h' := .of_all fun b o e => he b o (Nat.ne_of_lt (Heap.lt_size e)) e
      exact assign_in_order O hm hl (PP.st S) (F.up (g.up S) g.sink (hid_none.mpr ⟨S.hid_G, S.gfree⟩)) (PP.vrels Vs) fun s' P' F' => h s' _ (PP.trans P') F' hq
    cases v with
    | tup l =>
      cases V₁ with
      | tup a1 a2 a3 a4 =>
        have hl := a4.length
        simp only [Array.length_toList] at hl
        exact wpAny_assign_Tuple hh a2 (by rw [e1, ← hq.1, hl]) e2 fun h' he => go l _ h' hq.1 a4 he hq.2
    | list l =>
      cases V₁ with
      | list a1 a2 a3 a4 =>
        rename_i t vs
        have hl := a4.length
        simp only [Array.length_toList] at hl
        rw [arm_assign_Tuple]
        refine wpAny_bind (wpAny_standAt ?_)
        unfold unpack
        rw [show (assignEach es env).length = vs.size by rw [e1, ← hq.1, hl], e2]
        exact wpAny_bind (wpAny_holding (unpackItems_list hh a2.isList fun h' he => go l _ h' hq.1 a4 he hq.2))
    | _ => exact hq.elim
end
end Mine
end

section
open PySem PySem.Calls PyProof.Rows PySem.W
set_option maxRecDepth 20000
namespace Mine
variable {N : Hid}
section
variable {prog : Program} {w : World} {A : Around} {s : Shared} {R : Result → Shared → Prop}
def testsOf (ifs : List PySem.Expr) (env : Env) : Sem Bool :=
  forIn ifs true fun c r => if r = true then do let ok ← isTrue c env (eval c env); pure (ForInStep.yield ok) else pure (ForInStep.yield r)
theorem compTurn_in {elt : PySem.Expr} {gens : List Comprehension} {scope : Scope} {pos : Pos} {d : Nat} {it acc : Value} {env : Env} {tg iter : PySem.Expr} {ifs : List PySem.Expr} {tg' iter' : PySem.Expr} {ifs' : List PySem.Expr}
    (h : gens[d]? = some ⟨tg, iter, ifs, 0⟩) (h' : gens[d + 1]? = some ⟨tg', iter', ifs', 0⟩) :
    compTurn (.ListComp elt gens scope pos) d it acc env = (do
      standAt iter.pos
      match ← pyNext it with
      | none => pure (.done .next)
      | some v =>
        letOwnedTupleGo tg it v
        assign tg env v
        let ok ← testsOf ifs env
        if ok then
          let x ← eval iter' env
          standAt iter'.pos
          let x ← foldedSetIterable iter' env x
          let _ ← runOwn (.compStart (.ListComp elt gens scope pos) (d + 1) (← holding [x] (pyIter x)) acc env) env
        again (.compLoop (.ListComp elt gens scope pos) d it acc env)) := by
  unfold compTurn
  simp only [h, h']
  rfl
theorem compTurn_end {elt : PySem.Expr} {gens : List Comprehension} {scope : Scope} {pos : Pos} {d : Nat} {it acc : Value} {env : Env} {tg iter : PySem.Expr} {ifs : List PySem.Expr}
    (h : gens[d]? = some ⟨tg, iter, ifs, 0⟩) (h' : gens[d + 1]? = none) :
    compTurn (.ListComp elt gens scope pos) d it acc env = (do
      standAt iter.pos
      match ← pyNext it with
      | none => pure (.done .next)
      | some v =>
        letOwnedTupleGo tg it v
        assign tg env v
        let ok ← testsOf ifs env
        if ok then
          (do let _ ← call (.builtin "list.append") [acc, ← eval elt env])
        again (.compLoop (.ListComp elt gens scope pos) d it acc env)) := by
  unfold compTurn
  simp only [h, h']
  rfl
def innerP (prog : Program) (w : World) (A : Around) (elt : PySem.Expr) (gens : List Comprehension) (scope : Scope) (pos : Pos) (d : Nat) (acc : Value) (env : Env) (Q : Shared → Prop) (s : Shared) : Prop := match gens[d + 1]? with
  | some g => wpAny (model prog w) A (eval g.iter env) (fun x s₁ => wpAny (model prog w) A (foldedSetIterable g.iter env x) (fun x s₂ => wpAny (model prog w) A (pyIter x) (fun it s₃ =>
      codeAny (model prog w) A (.compStart (.ListComp elt gens scope pos) (d + 1) it acc env) (fun r s₄ => match r with | .ok _ => Q s₄ | .error _ => False) s₃) NoE s₂) NoE s₁) NoE s
  | none => wpAny (model prog w) A (eval elt env) (fun x s₁ => wpAny (model prog w) A (call (.builtin "list.append") [acc, x]) (fun _ s₂ => Q s₂) NoE s₁) NoE s
theorem compLoop_at {elt : PySem.Expr} {gens : List Comprehension} {scope : Scope} {pos : Pos} {d : Nat} {it acc : Value} {env : Env} {tg iter : PySem.Expr} {ifs : List PySem.Expr}
    (hg : gens[d]? = some ⟨tg, iter, ifs, 0⟩) (hs : ∀ g, gens[d + 1]? = some g → g.is_async = 0) (I : Nat → Shared → Prop)
    (turn : ∀ n s, I n s → wpAny (model prog w) A (pyNext it) (fun r s₁ => match r with
      | none => R (.ok .next) s₁
      | some v => wpAny (model prog w) A (letOwnedTupleGo tg it v) (fun _ s₁' => wpAny (model prog w) A (assign tg env v) (fun _ s₂ =>
          wpAny (model prog w) A (testsOf ifs env) (fun ok s₃ =>
            if ok = true then innerP prog w A elt gens scope pos d acc env (fun s₄ => ∃ m, m < n ∧ I m s₄) s₃
            else ∃ m, m < n ∧ I m s₃) NoE s₂) NoE s₁') NoE s₁) NoE s)
    (n : Nat) (h : I n s) : codeAny (model prog w) A (.compLoop (.ListComp elt gens scope pos) d it acc env) R s := by
  refine codeAny_loop rfl I (fun n s hI => ?_) n h
  show wpAny _ A ((compTurn (.ListComp elt gens scope pos) d it acc env).onRaise (fun x => do noteFrame x env; theTreesLotGoes x)) _ _ s
  refine wpAny_noted ?_
  cases h' : gens[d + 1]? with
  | none =>
    rw [compTurn_end hg h']
    refine wpAny_bind (wpAny_standAt (wpAny_bind (wpAny_mono (turn n s hI) (fun r s₁ h₁ => ?_) fun _ _ h' => h'.elim)))
    cases r with
    | none => exact wpAny_pure h₁
    | some v =>
      refine wpAny_bind (wpAny_mono h₁ (fun _ s₁' h₁' => wpAny_bind (wpAny_mono h₁' (fun _ s₂ h₂ => wpAny_bind (wpAny_mono h₂ (fun ok s₃ h₃ => ?_) fun _ _ h' => h'.elim)) fun _ _ h' => h'.elim)) fun _ _ h' => h'.elim)
      cases ok with
      | false => exact wpAny_pure ⟨rfl, h₃⟩
      | true =>
        unfold innerP at h₃
        rw [if_pos rfl, h'] at h₃
        exact wpAny_bind (wpAny_bind (wpAny_mono h₃ (fun x s₄ h₄ => wpAny_bind (wpAny_mono h₄ (fun _ s₅ h₅ => wpAny_pure (wpAny_pure ⟨rfl, h₅⟩)) fun _ _ h' => h'.elim)) fun _ _ h' => h'.elim))
  | some g =>
    obtain ⟨a, b, c, e⟩ := g
    obtain rfl : e = 0 := hs _ h'
    rw [compTurn_in hg h']
    refine wpAny_bind (wpAny_standAt (wpAny_bind (wpAny_mono (turn n s hI) (fun r s₁ h₁ => ?_) fun _ _ h' => h'.elim)))
    cases r with
    | none => exact wpAny_pure h₁
    | some v =>
      refine wpAny_bind (wpAny_mono h₁ (fun _ s₁' h₁' => wpAny_bind (wpAny_mono h₁' (fun _ s₂ h₂ => wpAny_bind (wpAny_mono h₂ (fun ok s₃ h₃ => ?_) fun _ _ h' => h'.elim)) fun _ _ h' => h'.elim)) fun _ _ h' => h'.elim)
      cases ok with
      | false => exact wpAny_pure ⟨rfl, h₃⟩
      | true =>
        unfold innerP at h₃
        rw [if_pos rfl, h'] at h₃
        refine wpAny_bind (wpAny_mono h₃ (fun x s₄ h₄ => ?_) fun _ _ h' => h'.elim)
        refine wpAny_bind (wpAny_standAt ?_)
        refine wpAny_bind (wpAny_mono h₄ (fun x' s₅ h₅ => ?_) fun _ _ h' => h'.elim)
        refine wpAny_bind (wpAny_holding (wpAny_mono h₅ (fun it' s₆ h₆ => ?_) fun _ _ h' => h'.elim))
        have h₆' : codeAny (model prog w) (A.mark none) (.compStart (.ListComp elt gens scope pos) (d + 1) it' acc env) _ s₆ := h₆
        refine wpAny_bind (wpAny_runOwn (codeAny_mono h₆' fun r s₇ h₇ => ?_))
        cases r with
        | ok f => exact wpAny_pure ⟨rfl, h₇⟩
        | error x => exact h₇.elim
theorem compStart_at {elt : PySem.Expr} {gens : List Comprehension} {scope : Scope} {pos : Pos} {d : Nat} {it acc : Value} {env : Env} {g : Comprehension}
    (hg : gens[d]? = some g) (hs : g.is_async = 0)
    (h0 : codeAny (model prog w) A (.compLoop (.ListComp elt gens scope pos) d it acc env) R s)
    (h : wpAny (model prog w) A (pyIter it) (fun it' s' => codeAny (model prog w) A (.compLoop (.ListComp elt gens scope pos) d it' acc env) R s') NoE s) :
    codeAny (model prog w) A (.compStart (.ListComp elt gens scope pos) d it acc env) R s := by
  refine codeAny_of_tree ?_
  have hA : A.under (.compStart (.ListComp elt gens scope pos) d it acc env) = A := rfl
  show wpAny _ _ ((compStart (.ListComp elt gens scope pos) d it acc env).onRaise (fun x => do noteFrame x env; standAt theWindowsPlace)) _ _ s
  refine wpAny_notedAt ?_
  rw [hA]
  unfold compStart
  have hc : clausesOf (.ListComp elt gens scope pos) = gens := rfl
  rw [hc, hg]
  have ha : (some g).elim false (fun x => x.is_async != 0) = false := by show (g.is_async != 0) = false; rw [hs]; rfl
  rw [ha]
  show wpAny _ _ (ask >>= _) _ _ s
  refine wpAny_bind (wpAny_askSetting (wpAny_ite ?_))
  split
  · first
      | exact wpAny_bind (wpAny_pure (wpAny_pure (And.intro rfl h0)))
      | exact wpAny_pure (And.intro rfl h0)
  · first
      | exact wpAny_bind (wpAny_rule (wpAny_bind (wpAny_standAt (wpAny_bind (wpAny_mono h (fun it' s' h' => wpAny_pure (And.intro rfl h')) fun _ _ x => x.elim)))))
      | (refine wpAny_bind (wpAny_rule ?_); show wpAny _ _ (standAt g.iter.pos >>= _) _ _ s; exact wpAny_bind (wpAny_standAt (wpAny_bind (wpAny_mono h (fun it' s' h' => wpAny_pure (And.intro rfl h')) fun _ _ x => x.elim))))
end
end Mine
end

section
open PySem PySem.Calls PyProof.Rows PySem.W
set_option maxRecDepth 20000
namespace Mine
variable {N : Hid}
section
variable {X : Cx} {k : Nat}
theorem FrOk.poke {sc : Scope} {nm : List (PySem.Str × Nat)} {env : Env} {ρ : List V} {σ : AHeap} {s : Shared} {p : Addr} {h' : Heap} (F : FrOk X N sc nm env ρ σ s.heap) (u : Poke X N σ s p h') (hp : ∀ o, s.heap.get? p = some o → ¬ isSlotObj o) : FrOk X N sc nm env ρ σ h' where
  scope := F.scope
  kind := F.kind
  glob := F.glob
  blt := F.blt
  ns := by
    obtain ⟨m, ⟨o, es, ep, ho, hd, r0⟩, r⟩ := F.ns
    exact ⟨m, ⟨o, es, ep, u.at_ _ _ (fun z => hp o (z ▸ ho) (.inl ⟨_, _, hd⟩)) ho, hd, r0⟩, fun x i e k v q z => let ⟨val, a, b⟩ := r x i e k v q z; ⟨val, a, b.poke u⟩⟩
  cell := fun x k => by
    obtain ⟨c, ov, a, ⟨o, ho, hd⟩, d, e, r⟩ := F.cell x k
    exact ⟨c, ov, a, ⟨o, u.at_ _ _ (fun z => hp o (z ▸ ho) (.inr ⟨_, hd⟩)) ho, hd⟩, d, e, fun i e v q z => let ⟨val, a, b⟩ := r i e v q z; ⟨val, a, b.poke u⟩⟩
  own := F.own
  inj := F.inj
  cinj := F.cinj
theorem FrOk.mono {sc : Scope} {nm : List (PySem.Str × Nat)} {env : Env} {ρ ρ' : List V} {σ : AHeap} {h : Heap} (F : FrOk X N sc nm env ρ σ h) (le : ∀ (i : Nat) (v : V), ρ'[i]? = some v → v ≠ .undef → ρ[i]? = some v) : FrOk X N sc nm env ρ' σ h where
  scope := F.scope
  kind := F.kind
  glob := F.glob
  blt := F.blt
  ns := let ⟨m, n, r⟩ := F.ns; ⟨m, n, fun x i e k v q z => r x i e k v (le i v q z) z⟩
  cell := fun x k => let ⟨c, ov, a, b, d, e, r⟩ := F.cell x k; ⟨c, ov, a, b, d, e, fun i e v q z => r i e v (le i v q z) z⟩
  own := F.own
  inj := F.inj
  cinj := F.cinj
theorem fields_not_slot {o : Obj} (h : isFields o) : ¬ isSlotObj o := fun h' => by
  obtain ⟨fs, e⟩ := h
  rcases h' with ⟨_, _, q⟩ | ⟨_, q⟩ <;> rw [e] at q <;> cases q
theorem seq_not_slot {o : Obj} {xs : Array Value} {n : Nat} (h : o.data = .seq xs n) : ¬ isSlotObj o := fun h' => by
  rcases h' with ⟨_, _, q⟩ | ⟨_, q⟩ <;> rw [h] at q <;> cases q
theorem Iter.self {τ : AHeap} {s : Shared} {it : Addr} {l : List V} {A : Around} {E : Value → Shared → Prop} {Q : Value → Shared → Prop} (x : Iter τ s.heap it l) (h : Q (.ref it) s) : wpAny (model X.prog X.w) A (pyIter (.ref it)) Q E s := by
  cases x with
  | list y => exact wpAny_pyIter_listiter y h
  | tup y => exact wpAny_pyIter_tupleiter y h
  | bytes y => exact KBw.pyIter_self y h
  | range y => exact wpAny_pyIter_rangeiter y h
theorem Iter.owned {τ : AHeap} {s : Shared} {it : Addr} {l : List V} {A : Around} {E : Value → Shared → Prop} {Q : Unit → Shared → Prop} {tg : PySem.Expr} {v : Value} (x : Iter τ s.heap it l) (h : Q () s) : wpAny (model X.prog X.w) A (letOwnedTupleGo tg (.ref it) v) Q E s := by
  have go : ∀ (o : Obj), s.heap.get? it = some o → (∃ T fs, o.cls = .type T ∧ o.data = .fields fs ∧ ["enumerate", "zip", "dict_itemiterator", "dict_reverseitemiterator", "odict_iterator", "itertools.zip_longest", "itertools.pairwise"].contains T = false) →
      wpAny (model X.prog X.w) A (letOwnedTupleGo tg (.ref it) v) Q E s := by
    rintro ⟨cls, dd, data, sl⟩ ho ⟨T, fs, hc, hd, hT⟩
    simp only at hc hd
    subst hc hd
    cases tg <;> first | exact wpAny_pure h | (cases v <;> first | exact wpAny_pure h | skip)
    all_goals (unfold letOwnedTupleGo; refine wpAny_bind (wpAny_load ho ?_); dsimp only; rw [hT]; exact wpAny_pure h)
  cases x with
  | list y => obtain ⟨o, ho, hc, hd⟩ := y; exact go o ho ⟨_, _, hc, hd, by decide⟩
  | tup y => obtain ⟨o, ho, hc, hd⟩ := y; exact go o ho ⟨_, _, hc, hd, by decide⟩
  | bytes y => obtain ⟨o, ho, hc, hd⟩ := y; exact go o ho ⟨_, _, hc, hd, by decide⟩
  | range y => exact go _ y ⟨_, _, rfl, rfl, by decide⟩
theorem tests_ok {c : E} {ifs : List PySem.Expr} (hc : BT X k c) {sc : Scope} {nm : List (PySem.Str × Nat)} {env : Env} {ρ : List V} {σ : AHeap} {Q : Bool → AHeap → Prop} {A : Around} {s : Shared}
    (hm : ifsE (tst c && !isTrueE c) (matE sc nm c) (isTrueE c) ifs = true) (hq : wpE X k c ρ σ (fun u σ₁ => truthP u fun b => Q b σ₁)) (R : Room k A) (S : St X N σ s) (F : FrOk X N sc nm env ρ σ s.heap) :
    wpAny (model X.prog X.w) A (testsOf ifs env) (PostB X N σ s Q) NoE s := by
  match ifs with
  | [] =>
    replace hm : isTrueE c = true := hm
    cases c <;> first | (cases hm; done) | skip
    rename_i b
    cases b <;> first | (cases hm; done) | skip
    exact wpAny_tests_nil ⟨σ, S, .refl .., hq⟩
  | [x] =>
    replace hm : (tst c && !isTrueE c && matE sc nm c x) = true := hm
    simp only [Bool.and_eq_true] at hm
    exact wpAny_tests_one (hc hm.1.1 hm.2 hq R S F)
  | _ :: _ :: _ => cases hm
theorem folded_of {it : It} {sc : Scope} {nm : List (PySem.Str × Nat)} {x : PySem.Expr} (h : matI sc nm it x = true) (env : Env) (v : Value) : foldedSetIterable x env v = pure v := by
  cases x <;> first | rfl | skip
  exfalso
  rename_i es n p
  have key : ∀ e : E, ∀ es n p, matE sc nm e (.Set es n p) = true → False := by
    intro e
    refine E.rec (motive_1 := fun e => ∀ es n p, matE sc nm e (.Set es n p) = true → False) (motive_2 := fun _ => True) (motive_3 := fun _ => True) (motive_4 := fun _ => True)
      ?_ ?_ ?_ ?_ ?_ ?_ ?_ ?_ ?_ ?_ ?_ ?_ ?_ ?_ ?_ ?_ ?_ ?_ ?_ ?_ ?_ ?_ ?_ ?_ ?_ ?_ ?_ ?_ ?_ ?_ ?_ ?_ ?_ ?_ ?_ ?_ ?_ ?_ ?_ ?_ ?_ ?_ ?_ ?_ ?_ ?_ ?_ ?_ ?_ ?_ ?_ ?_ e
    all_goals first | (intros; trivial) | skip
    all_goals (intros; rename_i hh; first | (cases hh; done) | skip)
    all_goals (rename_i ih _ _ _; exact ih _ _ _ hh)
  cases it <;> first | (cases h; done) | exact key _ _ _ _ h
def GsT (X : Cx) (k : Nat) : Gs → Prop
  | .nil => True
  | .cons _ it c r => IT X k it ∧ BT X k c ∧ GsT X k r
def AccAt (N : Hid) (σ : AHeap) (h : Heap) (D : Addr) (acc : List V) : Prop := ∃ vs, h.PlainList D vs ∧ acc.length ≤ 1000 ∧ VRels (hid N σ) h acc vs.toList
theorem AccAt.size {σ : AHeap} {h : Heap} {D : Addr} {acc : List V} {vs : Array Value} (n : acc.length ≤ 1000) (r : VRels (hid N σ) h acc vs.toList) : vs.size ≤ 1000 := by
  have := r.length
  simp only [Array.length_toList] at this
  omega
theorem AccAt.step {σ σ' : AHeap} {s s' : Shared} {D : Addr} {acc : List V} (x : AccAt N σ s.heap D acc) (S : St X N σ s) (hD : ∃ o, N D = some o) (T : Step X σ s σ' s') : AccAt N σ' s'.heap D acc := by
  obtain ⟨vs, ⟨n, h⟩, hl, r⟩ := x
  obtain ⟨o, ho⟩ := hD
  obtain ⟨h1, h2, h3, h4⟩ := S.hids _ _ ho
  exact ⟨vs, ⟨n, T.keep _ _ h4 h h1⟩, hl, r.up (T.up S)⟩
theorem AccAt.poke {σ : AHeap} {s : Shared} {p : Addr} {h' : Heap} {D : Addr} {acc : List V} (x : AccAt N σ s.heap D acc) (u : Poke X N σ s p h') (ne : D ≠ p) : AccAt N σ h' D acc := by
  obtain ⟨vs, ⟨n, h⟩, hl, r⟩ := x
  exact ⟨vs, ⟨n, u.at_ _ _ ne h⟩, hl, r.poke u⟩
theorem AccAt.pokes {P : Addr → Prop} {σ : AHeap} {s s' : Shared} {D : Addr} {acc : List V} (x : AccAt N σ s.heap D acc) (u : Pokes X N σ P s s') : AccAt N σ s'.heap D acc := by
  obtain ⟨vs, ⟨n, h⟩, hl, r⟩ := x
  exact ⟨vs, ⟨n, u.get h (seq_not_slot rfl)⟩, hl, u.vrels r⟩
theorem setAll_get : ∀ {is : List Nat} {l : List V} {ρ : List V} {j : Nat} {u : V}, (setAll ρ is l)[j]? = some u → j ∈ is ∨ ρ[j]? = some u
  | [], l, ρ, j, u, h => .inr (by cases l <;> exact h)
  | i :: is, [], ρ, j, u, h => .inr h
  | i :: is, v :: l, ρ, j, u, h => by
    rcases setAll_get (is := is) h with h | h
    · exact .inl (.tail _ h)
    · rcases set_get h with ⟨rfl, _⟩ | ⟨_, h⟩
      · exact .inl (.head _)
      · exact .inr h
theorem setAll_keep : ∀ {is : List Nat} {l : List V} {ρ : List V} {j : Nat}, j ∉ is → (setAll ρ is l)[j]? = ρ[j]?
  | [], l, ρ, j, h => by cases l <;> rfl
  | i :: is, [], ρ, j, h => rfl
  | i :: is, v :: l, ρ, j, h => by
    have h1 : j ≠ i := fun e => h (e ▸ .head _)
    show (setAll (ρ.set i v) is l)[j]? = _
    rw [setAll_keep fun z => h (.tail _ z), List.getElem?_set_ne (Ne.symm h1)]
theorem asgP_slots {t : Tg} {v : V} {ρ : List V} {Q : List V → Prop} (h : asgP t v ρ Q) : asgP t v ρ fun ρ' => Q ρ' ∧ (∀ j, j ∉ t.slots → ρ'[j]? = ρ[j]?) := by
  cases t with
  | v i => exact ⟨h, fun j hj => by rw [List.getElem?_set_ne]; rintro rfl; exact hj (.head _)⟩
  | tup is =>
    cases v with
    | tup l => exact ⟨h.1, h.2, fun j hj => setAll_keep hj⟩
    | list l => exact ⟨h.1, h.2, fun j hj => setAll_keep hj⟩
    | _ => exact h.elim
def Und (ρ : List V) (is : List Nat) : Prop := ∀ i ∈ is, ∀ v, ρ[i]? = some v → v = .undef
end
end Mine
end

section
open PySem PySem.Calls PyProof.Rows PySem.W
set_option maxRecDepth 20000
namespace Mine
variable {N : Hid}
def UpS (τ : AHeap) (h : Heap) (τ' : AHeap) (h' : Heap) : Prop := ∀ b o xs n, h.get? b = some o → o.data = .seq xs n → τ b = none → h'.get? b = some o ∧ τ' b = none
mutual
theorem VRel.ups {τ τ' : AHeap} {h h' : Heap} (u : UpS τ h τ' h') : ∀ {v : V} {val : Value}, VRel τ h v val → VRel τ' h' v val
  | _, _, .undef => .undef
  | _, _, .none => .none
  | _, _, .bool => .bool
  | _, _, .int => .int
  | _, _, .str => .str
  | _, _, .bytes e n => .bytes e n
  | _, _, .ref => .ref
  | _, _, .tup e ⟨o, ho, hc, k, hd⟩ n x => .tup (u _ _ _ _ ho hd e).2 ⟨o, (u _ _ _ _ ho hd e).1, hc, k, hd⟩ n (x.ups u)
  | _, _, .list e ⟨k, ho⟩ n x => .list (u _ _ _ _ ho rfl e).2 ⟨k, (u _ _ _ _ ho rfl e).1⟩ n (x.ups u)
theorem VRels.ups {τ τ' : AHeap} {h h' : Heap} (u : UpS τ h τ' h') : ∀ {l : List V} {vs : List Value}, VRels τ h l vs → VRels τ' h' l vs
  | _, _, .nil => .nil
  | _, _, .cons x r => .cons (x.ups u) (r.ups u)
end
theorem Iter.ups {τ τ' : AHeap} {h h' : Heap} (u : UpS τ h τ' h') {it : Addr} {l : List V} (x : Iter τ h it l) (hi : ∀ o, h.get? it = some o → h'.get? it = some o) : Iter τ' h' it l := by
  cases x with
  | list y e p r =>
    obtain ⟨o, ho, hc, hd⟩ := y
    obtain ⟨k, hp⟩ := p
    exact .list ⟨o, hi _ ho, hc, hd⟩ (u _ _ _ _ hp rfl e).2 ⟨k, (u _ _ _ _ hp rfl e).1⟩ (r.ups u)
  | tup y e p r =>
    obtain ⟨o, ho, hc, hd⟩ := y
    obtain ⟨q, hq, hqc, k, hqd⟩ := p
    exact .tup ⟨o, hi _ ho, hc, hd⟩ (u _ _ _ _ hq hqd e).2 ⟨q, (u _ _ _ _ hq hqd e).1, hqc, k, hqd⟩ (r.ups u)
  | bytes y e =>
    obtain ⟨o, ho, hc, hd⟩ := y
    exact .bytes ⟨o, hi _ ho, hc, hd⟩ e
  | range y e1 e2 => exact .range (hi _ y) e1 e2
section
variable {X : Cx} {k : Nat}
def PSlot (N : Hid) (P : Addr → Prop) (s : Shared) : Prop := ∀ p, P p → (∃ o, N p = some o) ∨ ∃ o, s.heap.get? p = some o ∧ isSlotObj o
theorem StepX.ups {P : Addr → Prop} {σ σ' : AHeap} {s s' : Shared} (T : StepX X P σ s σ' s') (S : St X N σ s) (hP : PSlot N P s) : UpS (hid N σ) s.heap (hid N σ') s'.heap := fun b o xs n e hd q => by
  obtain ⟨q1, q2⟩ := hid_none.mp q
  have np : ¬ P b := fun z => by
    rcases hP b z with ⟨o', e'⟩ | ⟨o', e', hs⟩
    · rw [q1] at e'; cases e'
    · rw [e] at e'; cases e'; exact seq_not_slot hd hs
  have nG : b ≠ X.G := S.ns.ne e fun es ep z => by rw [hd] at z; cases z
  exact ⟨T.keep b o np nG e q2, hid_none.mpr ⟨q1, T.old e q2⟩⟩
theorem fields_not_seq {o : Obj} (h : isFields o) : ∀ xs n, o.data ≠ .seq xs n := fun xs n q => by
  obtain ⟨fs, e⟩ := h
  rw [e] at q; cases q
theorem StepX.iter {P : Addr → Prop} {σ σ' : AHeap} {s s' : Shared} (T : StepX X P σ s σ' s') (S : St X N σ s) (hP : PSlot N P s) {it : Addr} {l : List V} (I : ItOk X σ it) (hN : N it = none) (x : Iter (hid N σ) s.heap it l) : Iter (hid N σ') s'.heap it l ∧ ItOk X σ' it := by
  obtain ⟨o, ho, hf⟩ := x.fields
  have np : ¬ P it := fun z => by
    rcases hP it z with ⟨o', e'⟩ | ⟨o', e', hs⟩
    · rw [hN] at e'; cases e'
    · rw [ho] at e'; cases e'; exact fields_not_slot hf hs
  exact ⟨x.ups (T.ups S hP) fun o' e => T.keep it o' np I.neG e I.free, T.old ho I.free, I.h0, I.neG⟩
abbrev stepG (X : Cx) (k : Nat) (elt : E) (t : Tg) (ρ : List V) (c : E) (r : Gs) : V → (List V → AHeap → Prop) → List V → AHeap → Prop :=
  fun x (K : List V → AHeap → Prop) acc σ => asgP t x ρ fun ρ' => wpE X k c ρ' σ fun u σ₂ => truthP u fun b => if b = true then acc.length < 1000 ∧ wpG X k (fun ρ σ Q => wpE X k elt ρ σ Q) r none ρ' σ₂ acc K else K acc σ₂
def PostG (X : Cx) (N : Hid) (P : Addr → Prop) (σ₀ : AHeap) (s₀ : Shared) (FR : AHeap → Heap → Prop) (D : Addr) (Q : List V → AHeap → Prop) (r : Result) (s' : Shared) : Prop :=
  ∃ acc σ', r = .ok .next ∧ St X N σ' s' ∧ StepX X P σ₀ s₀ σ' s' ∧ FR σ' s'.heap ∧ AccAt N σ' s'.heap D acc ∧ Q acc σ'
theorem it_poke {σ : AHeap} {s : Shared} {it : Addr} {l : List V} {h' : Heap} (S : St X N σ s) (I : ItOk X σ it) (hN : N it = none) (x : Iter (hid N σ) s.heap it l) (e : Heap.ExtBut it s.heap h') : Poke X N σ s it h' := by
  obtain ⟨o, ho, hf⟩ := x.fields
  exact .mk' S I.free I.h0 I.neG (.inl fun o' xs n e' => by rw [ho] at e'; cases e'; exact fields_not_seq hf xs n) (fun b o' ne q => e b o' ne q) fun ⟨o', q⟩ => by rw [hN] at q; cases q
theorem gloop {elt : E} (he : ET X k elt) {sc : Scope} {nm : List (PySem.Str × Nat)} {cenv : Env} {eltx : PySem.Expr} {gens : List Comprehension} {scope : Scope} {pos : Pos} {D : Addr} {P : Addr → Prop} (hP : ∀ p, P p ↔ (p = cenv.locals ∨ p = D)) (hD : ∃ o, N D = some o)
    {A : Around} (R : Room k A) (hsync : ∀ g ∈ gens, g.is_async = 0) (hme : matE sc nm elt eltx = true) :
    ∀ (rest : List Comprehension) (r : Gs) (t : Tg) (c : E) (tg itx : PySem.Expr) (ifs : List PySem.Expr) (d : Nat), gens.drop d = ⟨tg, itx, ifs, 0⟩ :: rest → matTg sc nm true t tg = true → ifsE (tst c && !isTrueE c) (matE sc nm c) (isTrueE c) ifs = true →
      matG sc nm sc nm r rest = true → BT X k c → GsT X k r → ∀ (ρ : List V), Und ρ (t.slots ++ r.slots) → (t.slots ++ r.slots).Nodup →
      ∀ (items acc : List V) (σ σ₀ : AHeap) (s s₀ : Shared) (it : Addr) (Q : List V → AHeap → Prop), St X N σ s → StepX X P σ₀ s₀ σ s → FrOk X N sc nm cenv ρ σ s.heap → Iter (hid N σ) s.heap it items → ItOk X σ it → N it = none → s₀.heap.get? it = none →
        AccAt N σ s.heap D acc → items.foldr (stepG X k elt t ρ c r) Q acc σ →
        codeAny (model X.prog X.w) A (.compLoop (.ListComp eltx gens scope pos) d (.ref it) (.ref D) cenv) (PostG X N P σ₀ s₀ (fun σ' h' => FrOk X N sc nm cenv ρ σ' h') D Q) s := by
  obtain ⟨oD, hND⟩ := hD
  intro rest
  induction rest with
  | nil =>
    intro r t c tg itx ifs d hd ht hi hr hc hG ρ hu hnd items acc σ σ₀ s s₀ it Q S T F x I hN hs₀ hacc hq
    cases r <;> first | (cases hr; done) | skip
    have hg : gens[d]? = some ⟨tg, itx, ifs, 0⟩ := (drop_cons hd).1
    have hg' : gens[d + 1]? = none := by
      have := (drop_cons hd).2
      rw [List.drop_eq_nil_iff] at this
      exact List.getElem?_eq_none this
    refine compLoop_at hg (fun g e => by rw [hg'] at e; cases e) (fun n s' => ∃ items acc σ', n = items.length ∧ St X N σ' s' ∧ StepX X P σ₀ s₀ σ' s' ∧ FrOk X N sc nm cenv ρ σ' s'.heap ∧ Iter (hid N σ') s'.heap it items ∧ ItOk X σ' it ∧ AccAt N σ' s'.heap D acc ∧ items.foldr (stepG X k elt t ρ c .nil) Q acc σ') ?_ items.length
      ⟨items, acc, σ, rfl, S, T, F, x, I, hacc, hq⟩
    rintro n s ⟨items, acc, σ, rfl, S, T, F, x, I, hacc, hq⟩
    refine iter_next R.1 S I x ?_ ?_
    · rintro rfl h' he'
      have PK := it_poke S I hN x he'
      have nD : D ≠ it := fun z => by rw [z, hN] at hND; cases hND
      exact ⟨acc, σ, rfl, S.poke (tk := s.toks) PK, T.poke (tk := s.toks) PK (.inr hs₀), F.poke PK (fun o e => by obtain ⟨o', ho, hf⟩ := x.fields; rw [ho] at e; cases e; exact fields_not_slot hf), hacc.poke PK nD, hq⟩
    · rintro v rs rfl val h' tk PK V₁ x₁
      have nD : D ≠ it := fun z => by rw [z, hN] at hND; cases hND
      have S₁ := S.poke (tk := tk) PK
      have T₁ := T.poke (tk := tk) PK (.inr hs₀)
      have F₁ := F.poke PK (fun o e => by obtain ⟨o', ho, hf⟩ := x.fields; rw [ho] at e; cases e; exact fields_not_slot hf)
      have hacc₁ := hacc.poke PK nD
      refine Iter.owned (s := { s with heap := h', toks := tk }) x₁ ?_
      replace hq : stepG X k elt t ρ c .nil v (fun acc σ => rs.foldr (stepG X k elt t ρ c .nil) Q acc σ) acc σ := hq
      refine assign_tg (P := P) (s := { s with heap := h', toks := tk }) ⟨(hP _).mpr (.inl rfl), fun h => Bool.noConfusion h⟩ R.1 ht S₁ F₁ V₁ (asgP_slots hq) fun s₂ ρ' PP F₂ hq₂ => ?_
      obtain ⟨hq₂, hkeep⟩ := hq₂
      have S₂ := PP.st S₁
      have hacc₂ := hacc₁.pokes PP
      have x₂ := PP.iter x₁
      have T₂ := T₁.trans PP.stepX
      refine wpAny_mono (tests_ok hc hi hq₂ R S₂ F₂) (fun ok s₃ hb => ?_) fun _ _ z => z
      obtain ⟨σ₃, S₃, T₃, hb⟩ := hb
      have F₃ := F₂.step S₂ S₃ T₃
      have hacc₃ := hacc₂.step S₂ ⟨_, hND⟩ T₃
      obtain ⟨oi, hoi, hfi⟩ := x₂.fields
      have x₃ : Iter (hid N σ₃) s₃.heap it rs := x₂.up (T₃.up S₂) fun o e => T₃.keep it o I.neG e I.free
      have I₃ : ItOk X σ₃ it := ⟨(T₃.up0 it oi I.neG hoi I.free).2, I.h0, I.neG⟩
      have T₃' := T₂.trans (.of T₃)
      have mono : ∀ (σ : AHeap) (h : Heap), FrOk X N sc nm cenv ρ' σ h → FrOk X N sc nm cenv ρ σ h := fun σ h F => F.mono fun i w e ne => by
        rw [← e]
        refine hkeep i fun z => ne (hu i (List.mem_append_left _ z) w e)
      cases ok with
      | false =>
        rw [if_neg (by simp)]
        rw [if_neg (by simp)] at hb
        exact ⟨rs.length, by simp, rs, acc, σ₃, rfl, S₃, T₃', mono _ _ F₃, x₃, I₃, hacc₃, hb⟩
      | true =>
        rw [if_pos rfl]
        rw [if_pos rfl] at hb
        obtain ⟨hlt, hb⟩ := hb
        replace hb : wpE X k elt ρ' σ₃ (fun v σ₁ => rs.foldr (stepG X k elt t ρ c .nil) Q (acc ++ [v]) σ₁) := hb
        unfold innerP
        rw [hg']
        refine seqE (he hme hb R S₃ F₃) fun val₄ s₄ v₄ σ₄ S₄ T₄ V₄ h₄ => ?_
        have hacc₄ := hacc₃.step S₃ ⟨_, hND⟩ T₄
        obtain ⟨vs, hpl, hln, hvr⟩ := id hacc₄
        obtain ⟨h1, h2, h3, h4⟩ := S₄.hids _ _ hND
        refine wpAny_list_append_plain hpl (fun h₅ hp₅ hs₅ => ?_) (by rw [sizeLine_eq]; have := AccAt.size (D := D) hln hvr; omega)
        obtain ⟨n₅, ho₅⟩ := id hp₅
        have PD : Poke X N σ₄ s₄ D h₅ := .mk' S₄ h1 h3 h4 (.inr ⟨_, hND⟩) (fun b o ne e => (hs₅.2 b ne).trans e) fun _ => ⟨_, ho₅⟩
        have F₄ := F₃.step S₃ S₄ T₄
        obtain ⟨oi3, hoi3, hfi3⟩ := x₃.fields
        have x₄ : Iter (hid N σ₄) s₄.heap it rs := x₃.up (T₄.up S₃) fun o e => T₄.keep it o I₃.neG e I₃.free
        have I₄ : ItOk X σ₄ it := ⟨(T₄.up0 it oi3 I₃.neG hoi3 I₃.free).2, I₃.h0, I₃.neG⟩
        have hDslot : ∀ o, s₄.heap.get? D = some o → ¬ isSlotObj o := fun o e => by obtain ⟨n, hp⟩ := hpl; rw [hp] at e; cases e; exact seq_not_slot rfl
        refine ⟨rs.length, by simp, rs, acc ++ [v₄], σ₄, rfl, S₄.poke (tk := s₄.toks) PD, (T₃'.trans (.of T₄)).poke (tk := s₄.toks) PD (.inl ⟨(hP _).mpr (.inr rfl), _, ho₅⟩), (mono _ _ F₄).poke PD hDslot, x₄.poke PD (fun z => nD z.symm), I₄, ?_, h₄⟩
        exact ⟨_, hp₅, by rw [List.length_append]; simp; omega, by rw [Array.toList_push]; exact (hvr.poke PD).snoc (V₄.poke PD)⟩
  | cons g rest ih =>
    intro r t c tg itx ifs d hd ht hi hr hc hG ρ hu hnd items acc σ σ₀ s s₀ it Q S T F x I hN hs₀ hacc hq
    cases r <;> first | (cases hr; done) | skip
    rename_i t' it' c' r'
    obtain ⟨tg', itx', ifs', ia'⟩ := g
    replace hr : (ia' == 0 && matTg sc nm true t' tg' && matI sc nm it' itx' && ifsE (tst c' && !isTrueE c') (matE sc nm c') (isTrueE c') ifs' && matG sc nm sc nm r' rest) = true := hr
    simp only [Bool.and_eq_true, beq_iff_eq] at hr
    obtain ⟨⟨⟨⟨rfl, r2⟩, r3⟩, r4⟩, r5⟩ := hr
    obtain ⟨g1, g2, g3⟩ := hG
    have hg : gens[d]? = some ⟨tg, itx, ifs, 0⟩ := (drop_cons hd).1
    have hdd : gens.drop (d + 1) = ⟨tg', itx', ifs', 0⟩ :: rest := (drop_cons hd).2
    have hg' : gens[d + 1]? = some ⟨tg', itx', ifs', 0⟩ := (drop_cons hdd).1
    refine compLoop_at hg (fun g e => by rw [hg'] at e; cases e; rfl) (fun n s' => ∃ items acc σ', n = items.length ∧ St X N σ' s' ∧ StepX X P σ₀ s₀ σ' s' ∧ FrOk X N sc nm cenv ρ σ' s'.heap ∧ Iter (hid N σ') s'.heap it items ∧ ItOk X σ' it ∧ AccAt N σ' s'.heap D acc ∧ items.foldr (stepG X k elt t ρ c (.cons t' it' c' r')) Q acc σ') ?_ items.length
      ⟨items, acc, σ, rfl, S, T, F, x, I, hacc, hq⟩
    rintro n s ⟨items, acc, σ, rfl, S, T, F, x, I, hacc, hq⟩
    refine iter_next R.1 S I x ?_ ?_
    · rintro rfl h' he'
      have PK := it_poke S I hN x he'
      have nD : D ≠ it := fun z => by rw [z, hN] at hND; cases hND
      exact ⟨acc, σ, rfl, S.poke (tk := s.toks) PK, T.poke (tk := s.toks) PK (.inr hs₀), F.poke PK (fun o e => by obtain ⟨o', ho, hf⟩ := x.fields; rw [ho] at e; cases e; exact fields_not_slot hf), hacc.poke PK nD, hq⟩
    · rintro v rs rfl val h' tk PK V₁ x₁
      have nD : D ≠ it := fun z => by rw [z, hN] at hND; cases hND
      have S₁ := S.poke (tk := tk) PK
      have T₁ := T.poke (tk := tk) PK (.inr hs₀)
      have F₁ := F.poke PK (fun o e => by obtain ⟨o', ho, hf⟩ := x.fields; rw [ho] at e; cases e; exact fields_not_slot hf)
      have hacc₁ := hacc.poke PK nD
      refine Iter.owned (s := { s with heap := h', toks := tk }) x₁ ?_
      replace hq : stepG X k elt t ρ c (.cons t' it' c' r') v (fun acc σ => rs.foldr (stepG X k elt t ρ c (.cons t' it' c' r')) Q acc σ) acc σ := hq
      refine assign_tg (P := P) (s := { s with heap := h', toks := tk }) ⟨(hP _).mpr (.inl rfl), fun h => Bool.noConfusion h⟩ R.1 ht S₁ F₁ V₁ (asgP_slots hq) fun s₂ ρ' PP F₂ hq₂ => ?_
      obtain ⟨hq₂, hkeep⟩ := hq₂
      have S₂ := PP.st S₁
      have hacc₂ := hacc₁.pokes PP
      have x₂ := PP.iter x₁
      have T₂ := T₁.trans PP.stepX
      refine wpAny_mono (tests_ok hc hi hq₂ R S₂ F₂) (fun ok s₃ hb => ?_) fun _ _ z => z
      obtain ⟨σ₃, S₃, T₃, hb⟩ := hb
      have F₃ := F₂.step S₂ S₃ T₃
      have hacc₃ := hacc₂.step S₂ ⟨_, hND⟩ T₃
      obtain ⟨oi, hoi, hfi⟩ := x₂.fields
      have x₃ : Iter (hid N σ₃) s₃.heap it rs := x₂.up (T₃.up S₂) fun o e => T₃.keep it o I.neG e I.free
      have I₃ : ItOk X σ₃ it := ⟨(T₃.up0 it oi I.neG hoi I.free).2, I.h0, I.neG⟩
      have T₃' := T₂.trans (.of T₃)
      have mono : ∀ (σ : AHeap) (h : Heap), FrOk X N sc nm cenv ρ' σ h → FrOk X N sc nm cenv ρ σ h := fun σ h F => F.mono fun i w e ne => by
        rw [← e]
        refine hkeep i fun z => ne (hu i (List.mem_append_left _ z) w e)
      cases ok with
      | false =>
        rw [if_neg (by simp)]
        rw [if_neg (by simp)] at hb
        exact ⟨rs.length, by simp, rs, acc, σ₃, rfl, S₃, T₃', mono _ _ F₃, x₃, I₃, hacc₃, hb⟩
      | true =>
        rw [if_pos rfl]
        rw [if_pos rfl] at hb
        obtain ⟨hlt, hb⟩ := hb
        replace hb : wpI X k it' ρ' σ₃ (fun items' σ₁ => items'.foldr (stepG X k elt t' ρ' c' r') (fun acc σ => rs.foldr (stepG X k elt t ρ c (.cons t' it' c' r')) Q acc σ) acc σ₁) := hb
        unfold innerP
        rw [hg']
        refine seqI (g1 r3 hb R S₃ F₃) fun val₄ s₄ l₄ σ₄ S₄ T₄ V₄ h₄ => ?_
        refine wpAny_of_eq (folded_of r3 cenv val₄) ?_
        have F₄ := F₃.step S₃ S₄ T₄
        have hacc₄ := hacc₃.step S₃ ⟨_, hND⟩ T₄
        obtain ⟨oi3, hoi3, hfi3⟩ := x₃.fields
        have x₄ : Iter (hid N σ₄) s₄.heap it rs := x₃.up (T₄.up S₃) fun o e => T₄.keep it o I₃.neG e I₃.free
        have I₄ : ItOk X σ₄ it := ⟨(T₄.up0 it oi3 I₃.neG hoi3 I₃.free).2, I₃.h0, I₃.neG⟩
        refine iter_begin S₄ V₄ fun ob hob x₅ => ?_
        have hn₅ : s₄.heap.get? s₄.heap.objs.size = none := get_ge_none (Nat.le_refl _)
        have gr := Grow.push (X := X) s₄.heap ob
        have S₅ := S₄.grow (tk := s₄.toks) gr
        have T₅ := Step.grow (X := X) (σ := σ₄) (s := s₄) (tk := s₄.toks) gr
        have F₅ := F₄.step S₄ S₅ T₅
        have hacc₅ := hacc₄.step S₄ ⟨_, hND⟩ T₅
        have I₅ : ItOk X σ₄ s₄.heap.objs.size := ⟨S₄.free_of_none hn₅, S₄.H0_of_none hn₅, fun z => by obtain ⟨m, o, es, ep, ho, _⟩ := S₄.ns; rw [← z, hn₅] at ho; cases ho⟩
        have hu' : Und ρ' (t'.slots ++ r'.slots) := fun i hi w e => by
          have h1 : i ∉ t.slots := fun z => (List.nodup_append.mp hnd).2.2 i z i hi rfl
          rw [hkeep i h1] at e
          exact hu i (List.mem_append_right _ hi) w e
        have run := ih r' t' c' tg' itx' ifs' (d + 1) hdd r2 r4 r5 g2 g3 ρ' hu' (List.nodup_append.mp hnd).2.1 l₄ acc σ₄ σ₄ { s₄ with heap := s₄.heap.push ob } s₄ s₄.heap.objs.size _ S₅ (.of T₅) F₅ x₅ I₅ (S₄.hid_fresh hn₅) hn₅ hacc₅ h₄
        have fin : ∀ r s₆, PostG X N P σ₄ s₄ (fun σ' h' => FrOk X N sc nm cenv ρ' σ' h') D (fun acc σ => rs.foldr (stepG X k elt t ρ c (.cons t' it' c' r')) Q acc σ) r s₆ → (match r with | .ok _ => ∃ m, m < (v :: rs).length ∧ ∃ items acc σ', m = items.length ∧ St X N σ' s₆ ∧ StepX X P σ₀ s₀ σ' s₆ ∧ FrOk X N sc nm cenv ρ σ' s₆.heap ∧ Iter (hid N σ') s₆.heap it items ∧ ItOk X σ' it ∧ AccAt N σ' s₆.heap D acc ∧ items.foldr (stepG X k elt t ρ c (.cons t' it' c' r')) Q acc σ' | .error _ => False) := by
          rintro r s₆ ⟨acc₆, σ₆, rfl, S₆, T₆, F₆, hacc₆, hq₆⟩
          have hPS : PSlot N P s₄ := fun p hp => by
            rcases (hP p).mp hp with rfl | rfl
            · right
              obtain ⟨m, ⟨o, es, ep, ho, hd, _⟩, _⟩ := F₄.ns
              exact ⟨o, ho, .inl ⟨_, _, hd⟩⟩
            · exact .inl ⟨_, hND⟩
          obtain ⟨x₆, I₆⟩ := T₆.iter S₄ hPS I₄ hN x₄
          exact ⟨rs.length, by simp, rs, acc₆, σ₆, rfl, S₆, (T₃'.trans (.of T₄)).trans T₆, mono _ _ F₆, x₆, I₆, hacc₆, hq₆⟩
        exact compStart_at hg' rfl (codeAny_mono run fin) (x₅.self (s := { s₄ with heap := s₄.heap.push ob }) (codeAny_mono run fin))
end
end Mine
end

section
open PySem PySem.Calls PyProof.Rows PySem.W
set_option maxRecDepth 20000
namespace Mine
variable {N : Hid}
theorem closure_go {env : Env} : ∀ (names : List (PySem.Str × NameKind)) (cs : List (PySem.Str × Addr)), (∀ y ∈ names, y.2 = .free → ∃ c, env.cells.lookup y.1 = some c) → (∀ x c, cs.lookup x = some c → env.cells.lookup x = some c) →
    ∃ cl, (forIn names cs (fun (x : PySem.Str × NameKind) (r : List (PySem.Str × Addr)) => if (x.2 == NameKind.free) = true then (do let a ← cellOf env x.1; pure (ForInStep.yield ((x.1, a) :: r))) else pure (ForInStep.yield r)) : Sem (List (PySem.Str × Addr))) = pure cl ∧
      (∀ x c, cl.lookup x = some c → env.cells.lookup x = some c) ∧ (∀ x, ((∃ y ∈ names, y.1 = x ∧ y.2 = .free) ∨ (cs.lookup x).isSome = true) → ∃ c, cl.lookup x = some c)
  | [], cs, _, hcs => ⟨cs, rfl, hcs, fun x h => by
      rcases h with ⟨y, hy, _⟩ | h
      · cases hy
      · exact Option.isSome_iff_exists.mp h⟩
  | (n, kd) :: r, cs, hn, hcs => by
    rw [List.forIn_cons]
    by_cases hk : kd = .free
    · subst hk
      obtain ⟨c, hc⟩ := hn (n, .free) (.head _) rfl
      have hcs' : ∀ x c', ((n, c) :: cs).lookup x = some c' → env.cells.lookup x = some c' := fun x c' h => by
        rw [List.lookup_cons] at h
        split at h
        · rename_i e; cases h; rw [beq_iff_eq.mp e]; exact hc
        · exact hcs x c' h
      obtain ⟨cl, e1, e2, e3⟩ := closure_go r ((n, c) :: cs) (fun y hy => hn y (.tail _ hy)) hcs'
      refine ⟨cl, ?_, e2, fun x h => e3 x ?_⟩
      · have h1 : cellOf env n = pure c := by unfold cellOf; rw [hc]
        show ((cellOf env n >>= fun a => pure (ForInStep.yield ((n, a) :: cs))) >>= _) = _
        rw [h1, pure_bind, pure_bind]
        exact e1
      · rcases h with ⟨y, hy, rfl, h2⟩ | h
        · rcases List.mem_cons.mp hy with rfl | hy
          · right; rw [List.lookup_cons, beq_self_eq_true]; rfl
          · exact .inl ⟨y, hy, rfl, h2⟩
        · right
          rw [List.lookup_cons]
          split
          · rfl
          · exact h
    · obtain ⟨cl, e1, e2, e3⟩ := closure_go r cs (fun y hy => hn y (.tail _ hy)) hcs
      refine ⟨cl, ?_, e2, fun x h => e3 x ?_⟩
      · rw [if_neg (by simpa using hk), pure_bind]
        exact e1
      · rcases h with ⟨y, hy, rfl, h2⟩ | h
        · rcases List.mem_cons.mp hy with rfl | hy
          · exact absurd h2 hk
          · exact .inl ⟨y, hy, rfl, h2⟩
        · exact .inr h
theorem closure_ok {scope : Scope} {env : Env} (h : ∀ y ∈ scope.names, y.2 = .free → ∃ c, env.cells.lookup y.1 = some c) :
    ∃ cl, closureFor scope env = pure cl ∧ (∀ x c, cl.lookup x = some c → env.cells.lookup x = some c) ∧ (∀ y ∈ scope.names, y.2 = .free → ∃ c, cl.lookup y.1 = some c) := by
  obtain ⟨cl, e1, e2, e3⟩ := closure_go scope.names [] h (fun x c h => by cases h)
  refine ⟨cl, ?_, e2, fun y hy hf => e3 y.1 (.inl ⟨y, hy, rfl, hf⟩)⟩
  unfold closureFor
  rw [← pure_bind cl (fun x => (pure x : Sem (List (PySem.Str × Addr)))), ← e1]
theorem lookup_map_key {f : PySem.Str × NameKind → PySem.Str × NameKind} (hf : ∀ y, (f y).1 = y.1) : ∀ {names : List (PySem.Str × NameKind)} {x : PySem.Str}, (names.map f).lookup x = (names.lookup x).map fun q => (f (x, q)).2
  | [], _ => rfl
  | (n, q) :: r, x => by
    rw [List.map_cons]
    have e : f (n, q) = (n, (f (n, q)).2) := Prod.ext (hf (n, q)) rfl
    rw [e, List.lookup_cons, List.lookup_cons]
    by_cases h : x = n
    · subst h; rw [beq_self_eq_true]; rfl
    · have : (x == n) = false := by simpa using h
      rw [this]
      exact lookup_map_key hf
theorem relabel_eq {scope sc : Scope} {env : Env} (h : env.scope = sc) : relabel scope env = relabelS scope sc := by
  unfold relabel relabelS Env.kindOf
  rw [h]
theorem relabelS_lookup {sc' sc : Scope} {x : PySem.Str} : (relabelS sc' sc).names.lookup x = (sc'.names.lookup x).map fun q => if (q == NameKind.free && sc.kind == .function && sc.names.lookup x == some .cell) then NameKind.cell else q := by
  have := lookup_map_key (f := fun (y : PySem.Str × NameKind) => if (y.2 == NameKind.free && sc.kind == .function && sc.names.lookup y.1 == some .cell) = true then (y.1, NameKind.cell) else (y.1, y.2)) (fun y => by split <;> rfl) (names := sc'.names) (x := x)
  refine Eq.trans ?_ (this.trans ?_)
  · rfl
  · congr 1
    funext q
    split <;> rfl
theorem lookup_append {α : Type} {l l' : List (PySem.Str × α)} {x : PySem.Str} : (l ++ l').lookup x = (l.lookup x).or (l'.lookup x) := by
  induction l with
  | nil => rfl
  | cons a r ih =>
    obtain ⟨n, v⟩ := a
    rw [List.cons_append, List.lookup_cons, List.lookup_cons]
    split
    · rfl
    · exact ih
theorem lookup_mem {α : Type} {l : List (PySem.Str × α)} {x : PySem.Str} {v : α} (h : l.lookup x = some v) : (x, v) ∈ l := by
  induction l with
  | nil => cases h
  | cons a r ih =>
    obtain ⟨n, u⟩ := a
    rw [List.lookup_cons] at h
    split at h
    · rename_i e; cases h; rw [beq_iff_eq.mp e]; exact .head _
    · exact .tail _ (ih h)
theorem mem_lookup {α : Type} {l : List (PySem.Str × α)} {x : PySem.Str} {v : α} (h : (x, v) ∈ l) : ∃ u, l.lookup x = some u := by
  induction l with
  | nil => cases h
  | cons a r ih =>
    obtain ⟨n, u⟩ := a
    rw [List.lookup_cons]
    split
    · exact ⟨_, rfl⟩
    · rename_i e
      rcases List.mem_cons.mp h with h | h
      · cases h; rw [beq_self_eq_true] at e; cases e
      · exact ih h
theorem snd_inj {l : List (PySem.Str × Nat)} (nd : (l.map (·.2)).Nodup) {x y : PySem.Str} {i : Nat} (hx : (x, i) ∈ l) (hy : (y, i) ∈ l) : x = y := by
  induction l with
  | nil => cases hx
  | cons a r ih =>
    rw [List.map_cons, List.nodup_cons] at nd
    rcases List.mem_cons.mp hx with e1 | h1 <;> rcases List.mem_cons.mp hy with e2 | h2
    · rw [← e1] at e2; exact (Prod.mk.inj e2).1.symm
    · have hm : i ∈ r.map (·.2) := List.mem_map.mpr ⟨(y, i), h2, rfl⟩
      rw [← e1] at nd; exact absurd hm nd.1
    · have hm : i ∈ r.map (·.2) := List.mem_map.mpr ⟨(x, i), h1, rfl⟩
      rw [← e2] at nd; exact absurd hm nd.1
    · exact ih nd.2 h1 h2
theorem clr_get {is : List Nat} : ∀ {ρ : List V} {j : Nat} {v : V}, (clr ρ is)[j]? = some v → (j ∈ is ∧ v = .undef) ∨ (j ∉ is ∧ ρ[j]? = some v) := by
  induction is with
  | nil => exact fun h => .inr ⟨List.not_mem_nil, h⟩
  | cons i is ih =>
    intro ρ j v h
    rcases ih (ρ := ρ.set i .undef) h with ⟨h1, h2⟩ | ⟨h1, h2⟩
    · exact .inl ⟨.tail _ h1, h2⟩
    · rcases set_get h2 with ⟨rfl, rfl⟩ | ⟨ne, h2⟩
      · exact .inl ⟨.head _, rfl⟩
      · exact .inr ⟨fun z => by rcases List.mem_cons.mp z with z | z; exact ne z; exact h1 z, h2⟩
section
variable {X : Cx} {k : Nat}
structure CompOk (sc sc' : Scope) (nm : List (PySem.Str × Nat)) (gm : List (PySem.Str × Nat)) (slots : List Nat) : Prop where
  kind : sc'.kind = .function
  nocell : ∀ y ∈ sc'.names, y.2 ≠ .cell
  loc : ∀ y ∈ sc'.names, y.2 = .local → sc'.names.lookup y.1 = some .local
  free : ∀ y ∈ sc'.names, y.2 = .free → sc.names.lookup y.1 = some .cell ∨ sc.names.lookup y.1 = some .free
  gloc : ∀ y ∈ gm, sc'.names.lookup y.1 = some .local
  gnd : (gm.map (·.1)).Nodup
  snd : (gm.map (·.2)).Nodup
  apart : ∀ y ∈ gm, ∀ z ∈ nm, z.2 ≠ y.2
  slots : gm.map (·.2) = slots
  only : ∀ y ∈ sc'.names, y.2 = .local → (∃ z ∈ gm, z.1 = y.1) ∨ nm.lookup y.1 = none
theorem CompOk.frame {sc sc' : Scope} {nm gm : List (PySem.Str × Nat)} {slots : List Nat} (K : CompOk sc sc' nm gm slots) {N' : Hid} {env : Env} {ρ : List V} {σ : AHeap} {h h' : Heap} (F : FrOk X N sc nm env ρ σ h) {cl : List (PySem.Str × Addr)} {C : Addr}
    (hcl : ∀ x c, cl.lookup x = some c → env.cells.lookup x = some c) (hall : ∀ y ∈ sc'.names, y.2 = .free → ∃ c, cl.lookup y.1 = some c) (u : Up X.G (hid N σ) h (hid N' σ) h') {m : PySem.Str → Option Value} (hn : h'.Ns C m) (hC : hid N' σ C = none ∧ X.H0.get? C = none) :
    FrOk X N' (relabelS sc' sc) (gm ++ nm) (compEnvC sc' cl C env) (clr ρ slots) σ h' where
  scope := relabel_eq F.scope
  kind := K.kind
  glob := F.glob
  blt := F.blt
  ns := ⟨m, hn, fun x i hx hl v hv hne => by
    exfalso
    rw [relabelS_lookup] at hl
    obtain ⟨q, hq, hql⟩ := Option.map_eq_some_iff.mp hl
    have hq' : q = .local := by
      split at hql
      · cases hql
      · exact hql
    subst hq'
    rw [lookup_append] at hx
    rcases clr_get hv with ⟨_, rfl⟩ | ⟨h1, h2⟩
    · exact hne rfl
    · cases hg : gm.lookup x with
      | some j =>
        rw [hg] at hx
        cases hx
        have := lookup_mem hg
        exact h1 (K.slots ▸ List.mem_map.mpr ⟨_, this, rfl⟩)
      | none =>
        rw [hg, Option.none_or] at hx
        rcases K.only _ (lookup_mem hq) rfl with ⟨z, hz, e⟩ | e
        · obtain ⟨z1, z2⟩ := z
          dsimp only at e
          subst e
          obtain ⟨u, hu⟩ := mem_lookup hz
          rw [hg] at hu; cases hu
        · rw [e] at hx; cases hx⟩
  cell := fun x hx => by
    rw [relabelS_lookup] at hx
    have hfree : sc'.names.lookup x = some .free := by
      cases hq : sc'.names.lookup x with
      | none => rw [hq] at hx; rcases hx with hx | hx <;> cases hx
      | some q =>
        rw [hq] at hx
        have hmem := lookup_mem hq
        by_cases hqf : q = .free
        · rw [hqf]
        · exfalso
          have hb : (q == NameKind.free) = false := by simpa using hqf
          simp only [Option.map_some, hb, Bool.false_and, Bool.false_eq_true, if_false] at hx
          rcases hx with hx | hx
          · exact K.nocell _ hmem (Option.some.inj hx)
          · exact hqf (Option.some.inj hx)
    have hmem := lookup_mem hfree
    obtain ⟨c, ov, a, b, d, e, r⟩ := F.cell x (K.free _ hmem rfl)
    obtain ⟨c', hc'⟩ := hall _ hmem rfl
    have hcc := hcl _ _ hc'
    have : c' = c := by
      dsimp only at hcc
      rw [a] at hcc
      exact (Option.some.inj hcc).symm
    subst this
    have b' := cell_up u b d
    refine ⟨c', ov, hc', b'.1, b'.2, e, fun i hi v hv hne => ?_⟩
    rw [lookup_append] at hi
    have hgn : gm.lookup x = none := by
      cases hg : gm.lookup x with
      | none => rfl
      | some j => have := K.gloc _ (lookup_mem hg); rw [hfree] at this; cases this
    rw [hgn, Option.none_or] at hi
    rcases clr_get hv with ⟨_, rfl⟩ | ⟨_, h2⟩
    · exact absurd rfl hne
    · obtain ⟨val, p, q⟩ := r i hi v h2 hne
      exact ⟨val, p, q.up u⟩
  own := hC
  inj := fun x y i hx hy => by
    rw [lookup_append] at hx hy
    cases hgx : gm.lookup x with
    | some j =>
      rw [hgx] at hx
      cases hx
      cases hgy : gm.lookup y with
      | some j' =>
        rw [hgy] at hy
        cases hy
        exact snd_inj K.snd (lookup_mem hgx) (lookup_mem hgy)
      | none =>
        rw [hgy, Option.none_or] at hy
        exact (K.apart (x, _) (lookup_mem hgx) (y, _) (lookup_mem hy) rfl).elim
    | none =>
      rw [hgx, Option.none_or] at hx
      cases hgy : gm.lookup y with
      | some j' =>
        rw [hgy] at hy
        cases hy
        exact (K.apart (y, _) (lookup_mem hgy) (x, _) (lookup_mem hx) rfl).elim
      | none =>
        rw [hgy, Option.none_or] at hy
        exact F.inj x y i hx hy
  cinj := fun x y c hx hy => F.cinj x y c (hcl _ _ hx) (hcl _ _ hy)
end
end Mine
end

section
open PySem PySem.Calls PyProof.Rows PySem.W
set_option maxRecDepth 20000
namespace Mine
variable {N : Hid}
section
variable {X : Cx} {k : Nat}
def hideAt (N : Hid) (D : Addr) (o : Obj) : Hid := fun b => if b = D then some o else N b
theorem hideAt_self {D : Addr} {o : Obj} : hideAt N D o D = some o := by simp [hideAt]
theorem hideAt_ne {D b : Addr} {o : Obj} (h : b ≠ D) : hideAt N D o b = N b := by simp [hideAt, h]
theorem hideAt_none {D b : Addr} {o : Obj} {σ : AHeap} (h : hid (hideAt N D o) σ b = none) : hid N σ b = none ∧ b ≠ D := by
  obtain ⟨h1, h2⟩ := hid_none.mp h
  have ne : b ≠ D := fun z => by subst z; rw [hideAt_self] at h1; cases h1
  rw [hideAt_ne ne] at h1
  exact ⟨hid_none.mpr ⟨h1, h2⟩, ne⟩
theorem hid_hideAt {D b : Addr} {o : Obj} {σ : AHeap} (h : hid N σ b = none) (ne : b ≠ D) : hid (hideAt N D o) σ b = none := by
  obtain ⟨h1, h2⟩ := hid_none.mp h
  exact hid_none.mpr ⟨by rw [hideAt_ne ne]; exact h1, h2⟩
theorem St.hideNew {σ : AHeap} {s : Shared} (S : St X N σ s) (o : Obj) (hf : o.isFreed = false) : St X (hideAt N s.heap.objs.size o) σ { s with heap := s.heap.push o } := by
  have hn : s.heap.get? s.heap.objs.size = none := get_ge_none (Nat.le_refl _)
  have g := Grow.push (X := X) s.heap o
  have S' := S.grow (tk := s.toks) g
  have ne : ∀ {b ob}, s.heap.get? b = some ob → b ≠ s.heap.objs.size := fun e z => by rw [z, hn] at e; cases e
  have u : Up X.G (Mine.hid N σ) s.heap (Mine.hid (hideAt N s.heap.objs.size o) σ) (s.heap.push o) := ⟨fun b ob n e q => ⟨g.at_ b ob n e, hid_hideAt q (ne e)⟩, S.ns⟩
  exact ⟨S'.keep, S.fresh, fun a ob q => (S.objs a ob q).up u (fun ob' e => g.at_ a ob' (S.ne_G q) e) (fun dx z => ⟨by
      obtain ⟨z1, z2⟩ := hid_sub.mp z
      obtain ⟨od, hod⟩ := S.live _ _ z2
      exact hid_sub.mpr ⟨by rw [hideAt_ne (ne hod)]; exact z1, z2⟩, fun ob' e => g.at_ dx ob' (S.ne_G (hid_sub.mp z).2) e⟩), S'.live, S'.ns, S.gfree, S.gH0, fun a ob q => by
      by_cases z : a = s.heap.objs.size
      · subst z
        exact ⟨S.free_of_none hn, ⟨o, Heap.get?_push_size _ hf⟩, S.H0_of_none hn, fun z => by obtain ⟨m, o', es, ep, ho, _⟩ := S.ns; rw [← z, hn] at ho; cases ho⟩
      · rw [hideAt_ne z] at q
        exact S'.hids a ob q⟩
theorem St.unhide {σ : AHeap} {s : Shared} {D : Addr} {o : Obj} (S : St X (hideAt N D o) σ s) (hN : N D = none) : St X N σ s := by
  have li : ∀ a, Mine.hid (hideAt N D o) σ a = none → Mine.hid N σ a = none := fun a q => (hideAt_none q).1
  have u : Up X.G (Mine.hid (hideAt N D o) σ) s.heap (Mine.hid N σ) s.heap := ⟨fun b ob n e q => ⟨e, li b q⟩, S.ns⟩
  exact ⟨S.keep, S.fresh, fun a ob q => (S.objs a ob q).up u (fun _ e => e) (fun dx z => ⟨by
      obtain ⟨z1, z2⟩ := hid_sub.mp z
      have ne : dx ≠ D := fun y => by subst y; rw [hideAt_self] at z1; cases z1
      rw [hideAt_ne ne] at z1
      exact hid_sub.mpr ⟨z1, z2⟩, fun _ e => e⟩), S.live, S.ns, S.gfree, S.gH0, fun a ob q => by
      have ne : a ≠ D := fun y => by subst y; rw [hN] at q; cases q
      exact S.hids a ob (by rw [hideAt_ne ne]; exact q)⟩
structure CompEnd (X : Cx) (N : Hid) (σ : AHeap) (s : Shared) (Q : List V → AHeap → Prop) (D C : Addr) (s' : Shared) (l : List V) (σ' : AHeap) (o : Obj) : Prop where
  st : St X (hideAt N D o) σ' s'
  step : Step X σ s σ' s'
  list : ∃ vs, s'.heap.PlainList D vs ∧ vs.size ≤ 1000 ∧ VRels (hid (hideAt N D o) σ') s'.heap l vs.toList
  hq : Q l σ'
  free : σ' D = none ∧ N D = none ∧ s.heap.get? D = none ∧ X.H0.get? D = none ∧ D ≠ X.G
  ns : ∃ m, s'.heap.Ns C m
  cfree : σ' C = none ∧ N C = none ∧ s.heap.get? C = none ∧ X.H0.get? C = none ∧ C ≠ X.G
  ne : D ≠ C
theorem CompEnd.poke {σ : AHeap} {s : Shared} {Q : List V → AHeap → Prop} {D C : Addr} {s' : Shared} {l : List V} {σ' : AHeap} {o : Obj} (e : CompEnd X N σ s Q D C s' l σ' o) {h' : Heap} (hs : Heap.SameBut C s'.heap h') : Poke X (hideAt N D o) σ' s' C h' := by
  obtain ⟨m, o, es, ep, ho, hd, _⟩ := e.ns
  exact .mk' e.st e.cfree.1 e.cfree.2.2.2.1 e.cfree.2.2.2.2 (.inl fun o' xs n q => by rw [ho] at q; cases q; rw [hd]; nofun) (fun b o' ne q => (hs.2 b ne).trans q) fun ⟨o', q⟩ => by rw [hideAt_ne (Ne.symm e.ne), e.cfree.2.1] at q; cases q
theorem St.trackHidden {σ : AHeap} {s : Shared} {D : Addr} {o : Obj} {l : List V} {vs : Array Value} (S : St X (hideAt N D o) σ s) (hN : N D = none) (hp : s.heap.PlainList D vs) (hsz : vs.size ≤ 1000) (hvr : VRels (Mine.hid (hideAt N D o) σ) s.heap l vs.toList) : St X N (upd σ D (.list l)) s := by
  obtain ⟨d1, ⟨od, d2⟩, d3, d4⟩ := S.hids _ _ hideAt_self
  have li : ∀ a, Mine.hid (hideAt N D o) σ a = none → Mine.hid N (upd σ D (.list l)) a = none := fun a q => by
    obtain ⟨q1, ne⟩ := hideAt_none q
    obtain ⟨q2, q3⟩ := hid_none.mp q1
    exact hid_none.mpr ⟨q2, by rw [upd_ne ne]; exact q3⟩
  have u : Up X.G (Mine.hid (hideAt N D o) σ) s.heap (Mine.hid N (upd σ D (.list l))) s.heap := ⟨fun b ob n e q => ⟨e, li b q⟩, S.ns⟩
  refine ⟨S.keep, fun a ob q => ?_, fun a ob q => ?_, fun a ob q => ?_, S.ns, by rw [upd_ne (Ne.symm d4)]; exact S.gfree, S.gH0, fun a ob q => ?_⟩
  · by_cases z : a = D
    · subst z; exact d3
    · rw [upd_ne z] at q; exact S.fresh a ob q
  · by_cases z : a = D
    · subst z; rw [upd_self] at q; cases q; exact ⟨vs, hp, hsz, hvr.up u⟩
    · rw [upd_ne z] at q
      refine (S.objs a ob q).up u (fun _ e => e) (fun dx z => ⟨?_, fun _ e => e⟩)
      obtain ⟨z1, z2⟩ := hid_sub.mp z
      have ne : dx ≠ D := fun y => by subst y; rw [hideAt_self] at z1; cases z1
      rw [hideAt_ne ne] at z1
      exact hid_sub.mpr ⟨z1, by rw [upd_ne ne]; exact z2⟩
  · by_cases z : a = D
    · subst z; exact ⟨od, d2⟩
    · rw [upd_ne z] at q; exact S.live a ob q
  · have ne : a ≠ D := fun y => by subst y; rw [hN] at q; cases q
    obtain ⟨h1, h2, h3, h4⟩ := S.hids a ob (by rw [hideAt_ne ne]; exact q)
    exact ⟨by rw [upd_ne ne]; exact h1, h2, h3, h4⟩
theorem matComp_inv {new : Bool} {elt : E} {gs : Gs} {sc : Scope} {nm : List (PySem.Str × Nat)} {l : PySem.Expr} {gens : List Comprehension} {sc' : Scope} {pos : Pos} (h : matE sc nm (.comp new elt gs) (.ListComp l gens sc' pos) = true) :
    CompOk sc sc' nm (gsNm gs gens) gs.slots ∧ gens ≠ [] ∧ matG sc nm (relabelS sc' sc) (gsNm gs gens ++ nm) gs gens = true ∧ matE (relabelS sc' sc) (gsNm gs gens ++ nm) elt l = true := by
  replace h : (blockOk sc' sc && (gsNm gs gens).all (fun y => sc'.names.lookup y.1 == some .local) && decide (((gsNm gs gens).map (·.1)).Nodup) && decide (((gsNm gs gens).map (·.2)).Nodup) &&
      (gsNm gs gens).all (fun y => nm.all fun z => z.2 != y.2) &&
      decide ((gsNm gs gens).map (·.2) = gs.slots) && sc'.names.all (fun y => y.2 != .local || (gsNm gs gens).any (·.1 == y.1) || (nm.lookup y.1).isNone) &&
      !gens.isEmpty && matG sc nm (relabelS sc' sc) (gsNm gs gens ++ nm) gs gens && matE (relabelS sc' sc) (gsNm gs gens ++ nm) elt l) = true := h
  simp only [Bool.and_eq_true, decide_eq_true_eq] at h
  obtain ⟨⟨⟨⟨⟨⟨⟨⟨⟨h1, h2⟩, h3⟩, h4⟩, h5⟩, h6⟩, h7⟩, h8⟩, h9⟩, h10⟩ := h
  unfold blockOk at h1
  simp only [Bool.and_eq_true] at h1
  obtain ⟨⟨⟨b1, b2⟩, b3⟩, b4⟩ := h1
  refine ⟨⟨by simpa using b1, fun y hy e => ?_, fun y hy e => ?_, fun y hy e => ?_, fun y hy => ?_, h3, h4, fun y hy z hz => ?_, h6, fun y hy e => ?_⟩, fun e => by rw [e] at h8; simp at h8, h9, h10⟩
  · have := List.all_eq_true.mp b2 y hy; rw [e] at this; simp at this
  · have := List.all_eq_true.mp b3 y hy; rw [e] at this; simpa using this
  · have := List.all_eq_true.mp b4 y hy; rw [e] at this; simpa using this
  · have := List.all_eq_true.mp h2 y hy; simpa using this
  · have := List.all_eq_true.mp (List.all_eq_true.mp h5 y hy) z hz; simpa using this
  · have := List.all_eq_true.mp h7 y hy
    rw [e] at this
    simp only [Bool.or_eq_true, List.any_eq_true, beq_iff_eq, Option.isNone_iff_eq_none] at this
    rcases this with (h | h) | h
    · simp at h
    · exact .inl h
    · exact .inr h
theorem gens_sync {sc₁ sc : Scope} {nm₁ nm : List (PySem.Str × Nat)} : ∀ {gens : List Comprehension} {gs : Gs}, matG sc₁ nm₁ sc nm gs gens = true → ∀ g ∈ gens, g.is_async = 0
  | [], _, _, g, h => by cases h
  | ⟨tg, itx, ifs, ia⟩ :: rest, gs, h, g, hg => by
    cases gs <;> first | (cases h; done) | skip
    rename_i t it c r
    replace h : (ia == 0 && matTg sc nm true t tg && matI sc₁ nm₁ it itx && ifsE (tst c && !isTrueE c) (matE sc nm c) (isTrueE c) ifs && matG sc nm sc nm r rest) = true := h
    simp only [Bool.and_eq_true, beq_iff_eq] at h
    rcases List.mem_cons.mp hg with rfl | hg
    · exact h.1.1.1.1
    · exact gens_sync h.2 g hg
theorem comp_body {elt : E} (he : ET X k elt) {sc sc' : Scope} {nm gm : List (PySem.Str × Nat)} {env : Env} {l : PySem.Expr} {pos : Pos} {ρ : List V} {σ σ₁ : AHeap} {Q : List V → AHeap → Prop} {A : Around} {s s₂ : Shared} {use : Option (Value → Sem Unit)} {QV : Value → Shared → Prop}
    {tg itx : PySem.Expr} {ifs : List PySem.Expr} {rest : List Comprehension} {t : Tg} {it : It} {c : E} {r : Gs} (K : CompOk sc sc' nm gm (Gs.cons t it c r).slots) (hme : matE (relabelS sc' sc) (gm ++ nm) elt l = true)
    (hsync : ∀ g ∈ (⟨tg, itx, ifs, 0⟩ :: rest : List Comprehension), g.is_async = 0) (r2 : matTg (relabelS sc' sc) (gm ++ nm) true t tg = true) (r4 : ifsE (tst c && !isTrueE c) (matE (relabelS sc' sc) (gm ++ nm) c) (isTrueE c) ifs = true)
    (r5 : matG (relabelS sc' sc) (gm ++ nm) (relabelS sc' sc) (gm ++ nm) r rest = true) (g2 : BT X k c) (g3 : GsT X k r) (R : Room k A) {cl : List (PySem.Str × Addr)} (cl1 : ∀ x c, cl.lookup x = some c → env.cells.lookup x = some c) (cl2 : ∀ y ∈ sc'.names, y.2 = .free → ∃ c, cl.lookup y.1 = some c)
    {itA : Addr} {items : List V} (S : St X N σ s) (T : Step X σ s σ₁ s₂) (S₂ : St X N σ₁ s₂) (F₂ : FrOk X N sc nm env ρ σ₁ s₂.heap) (x₂ : Iter (hid N σ₁) s₂.heap itA items) (I₂ : ItOk X σ₁ itA) (hNit : N itA = none) (hit : s.heap.get? itA = none)
    (h₁ : items.foldr (stepG X k elt t (clr ρ (Gs.cons t it c r).slots) c r) Q [] σ₁)
    (fin : ∀ D C s' l σ' o, CompEnd X N σ s Q D C s' l σ' o → compPost (model X.prog X.w) A NoE use QV (.ref D) C (.ok .next) s') :
    wpAny (model X.prog X.w) A (newList []) (fun acc s₃ => wpAny (model X.prog X.w) A (newFunctionEnv sc' env.globals cl [] env.qual none .none (some env)) (fun cenv s₄ =>
        codeAny (model X.prog X.w) A (.compStart (.ListComp l (⟨tg, itx, ifs, 0⟩ :: rest) sc' pos) 0 (.ref itA) acc { cenv with scope := relabel sc' env }) (compPost (model X.prog X.w) A NoE use QV acc cenv.locals) s₄) NoE s₃) NoE s₂ := by
  refine wpAny_newObj_type ?_ (by show (0 : Nat) ≤ _; omega)
  have hn₂ : s₂.heap.get? s₂.heap.objs.size = none := get_ge_none (Nat.le_refl _)
  have S₃ := S₂.hideNew { cls := .type "list", data := .seq ([] : List Value).toArray } rfl
  have hD : s₂.heap.objs.size ≠ s₂.heap.objs.size + 1 := by omega
  have hsz : (s₂.heap.push { cls := .type "list", data := .seq ([] : List Value).toArray }).objs.size = s₂.heap.objs.size + 1 := Heap.size_push _ _
  refine wpAny_newFunctionEnv (fun y hy => K.nocell y hy) (fun y hy => by cases hy) (fun h' hns hsb => ?_) K.kind
  dsimp only at hns hsb ⊢
  generalize hlo : ({ cls := .type "list", data := .seq ([] : List Value).toArray } : Obj) = lo at S₃ hsz hns hsb ⊢
  generalize hCC : (s₂.heap.push lo).objs.size = C at hsz hns hsb ⊢
  have hCn : (s₂.heap.push lo).get? C = none := get_ge_none (by rw [hCC]; exact Nat.le_refl _)
  have hDC : s₂.heap.objs.size ≠ C := by omega
  have keep3 : ∀ b o, (s₂.heap.push lo).get? b = some o → h'.get? b = some o := fun b o e => by
    have ne : b ≠ C := fun z => by rw [z, hCn] at e; cases e
    exact (hsb.2 b ne).trans (Heap.get?_push_of_some _ e)
  have keep2 : ∀ b o, s₂.heap.get? b = some o → h'.get? b = some o := fun b o e => keep3 b o (Heap.get?_push_of_some _ e)
  have g₃ : Grow X (s₂.heap.push lo) h' := .of_all keep3
  have S₄ := S₃.grow (tk := s₂.toks + 0) g₃
  have T₄ := Step.grow (X := X) (σ := σ₁) (s := s₂) (tk := s₂.toks + 0) (Grow.of_all (X := X) keep2)
  have u : Up X.G (hid N σ₁) s₂.heap (hid (hideAt N s₂.heap.objs.size lo) σ₁) h' := ⟨fun b ob n e q => ⟨keep2 b ob e, hid_hideAt q (fun z => by rw [z, hn₂] at e; cases e)⟩, S₂.ns⟩
  have CH0 : X.H0.get? C = none := S₃.H0_of_none hCn
  have CG : C ≠ X.G := fun z => by obtain ⟨m, o, es, ep, ho, _⟩ := S₃.ns; rw [← z, hCn] at ho; cases ho
  have hidC := S₃.hfree_of_none hCn
  have FC := K.frame F₂ cl1 cl2 u hns ⟨hidC, CH0⟩
  obtain ⟨oi, hoi, hfi⟩ := x₂.fields
  have xC := x₂.up u fun o e => keep2 _ o e
  have hpl : h'.PlainList s₂.heap.objs.size #[] := ⟨0, keep3 _ _ (by rw [← hlo]; exact Heap.get?_push_size _ rfl)⟩
  have hND : (hideAt N s₂.heap.objs.size lo) s₂.heap.objs.size = some lo := hideAt_self
  have hni : itA ≠ s₂.heap.objs.size := fun z => by rw [z, hn₂] at hoi; cases hoi
  have run := gloop he (cenv := compEnvC sc' cl C env) (pos := pos) (scope := sc') (D := s₂.heap.objs.size) (P := fun p => p = C ∨ p = s₂.heap.objs.size) (fun p => Iff.rfl) ⟨_, hND⟩ R hsync hme rest r t c tg itx ifs 0 rfl r2 r4 r5 g2 g3
    (clr ρ (Gs.cons t it c r).slots) (fun i hi v e => by
      rcases clr_get e with ⟨_, h⟩ | ⟨h, _⟩
      · exact h
      · exact absurd hi h) (by have := K.snd; rw [K.slots] at this; exact this) items [] σ₁ σ { s₂ with heap := h', toks := s₂.toks + 0 } s itA Q S₄ (.of (T.trans T₄ S.gfree S₂.gfree)) FC xC I₂ (by rw [hideAt_ne hni]; exact hNit) hit ⟨#[], hpl, by simp, .nil⟩ h₁
  have sD : s.heap.get? s₂.heap.objs.size = none := T.fresh hn₂
  have sC : s.heap.get? C = none := (T.trans T₄ S.gfree S₂.gfree |> fun _ => T.fresh (by
    cases e : s₂.heap.get? C with
    | none => rfl
    | some o => have := Heap.get?_push_of_some (h := s₂.heap) lo e; rw [hCn] at this; cases this))
  have done : ∀ rr s₅, PostG X (hideAt N s₂.heap.objs.size lo) (fun p => p = C ∨ p = s₂.heap.objs.size) σ s (fun σ' h' => FrOk X (hideAt N s₂.heap.objs.size lo) (relabelS sc' sc) (gm ++ nm) (compEnvC sc' cl C env) (clr ρ (Gs.cons t it c r).slots) σ' h') s₂.heap.objs.size Q rr s₅ →
      compPost (model X.prog X.w) A NoE use QV (.ref s₂.heap.objs.size) C rr s₅ := by
    rintro rr s₅ ⟨acc, σ', rfl, S₅, T₅, F₅, ⟨vs, hp, hln, hvr⟩, hq₅⟩
    obtain ⟨d1, ⟨od, d2⟩, d3, d4⟩ := S₅.hids _ _ hND
    have nD := S₂.hid_fresh hn₂
    obtain ⟨c1, c2⟩ := hid_none.mp F₅.own.1
    have nC : N C = none := by
      have c1' : (hideAt N s₂.heap.objs.size lo) C = none := c1
      rw [hideAt_ne (Ne.symm hDC)] at c1'; exact c1'
    obtain ⟨m, n, _⟩ := F₅.ns
    refine fin _ _ _ acc σ' lo ⟨S₅, StepX.after (.refl X σ s) T₅ (fun p hp => ?_), ⟨vs, hp, AccAt.size (D := s₂.heap.objs.size) hln hvr, hvr⟩, hq₅, ⟨d1, nD, sD, d3, d4⟩, ⟨m, n⟩, ⟨c2, nC, sC, CH0, CG⟩, hDC⟩
    rcases hp with rfl | rfl
    · exact sC
    · exact sD
  exact compStart_at rfl rfl (codeAny_mono run done) (xC.self (s := { s₂ with heap := h', toks := s₂.toks + 0 }) (codeAny_mono run done))
theorem comp_run {new : Bool} {elt : E} {gs : Gs} (he : ET X k elt) (hG : GsT X k gs) {sc : Scope} {nm : List (PySem.Str × Nat)} {env : Env} {l : PySem.Expr} {gens : List Comprehension} {sc' : Scope} {pos pos' : Pos} {ρ : List V} {σ : AHeap} {Q : List V → AHeap → Prop} {A : Around} {s : Shared}
    {use : Option (Value → Sem Unit)} {QV : Value → Shared → Prop}
    (hm : matE sc nm (.comp new elt gs) (.ListComp l gens sc' pos) = true)
    (hq : wpG X k (fun ρ σ Q => wpE X k elt ρ σ Q) gs (some ρ) (clr ρ gs.slots) σ [] Q) (R : Room k A) (S : St X N σ s) (F : FrOk X N sc nm env ρ σ s.heap)
    (fin : ∀ D C s' l σ' o, CompEnd X N σ s Q D C s' l σ' o → compPost (model X.prog X.w) A NoE use QV (.ref D) C (.ok .next) s') :
    wpAny (model X.prog X.w) A (comprehension (.ListComp l gens sc' pos) sc' env pos' (newList []) false (firstIter gens env) use) QV NoE s := by
  obtain ⟨K, hne, hmg, hme⟩ := matComp_inv hm
  have hsync := gens_sync hmg
  match gens, gs, hne with
  | ⟨tg, itx, ifs, ia⟩ :: rest, .nil, _ => cases hmg
  | ⟨tg, itx, ifs, ia⟩ :: rest, .cons t it c r, _ =>
    replace hmg : (ia == 0 && matTg (relabelS sc' sc) (gsNm (.cons t it c r) (⟨tg, itx, ifs, ia⟩ :: rest) ++ nm) true t tg && matI sc nm it itx && ifsE (tst c && !isTrueE c) (matE (relabelS sc' sc) (gsNm (.cons t it c r) (⟨tg, itx, ifs, ia⟩ :: rest) ++ nm) c) (isTrueE c) ifs &&
      matG (relabelS sc' sc) (gsNm (.cons t it c r) (⟨tg, itx, ifs, ia⟩ :: rest) ++ nm) (relabelS sc' sc) (gsNm (.cons t it c r) (⟨tg, itx, ifs, ia⟩ :: rest) ++ nm) r rest) = true := hmg
    simp only [Bool.and_eq_true, beq_iff_eq] at hmg
    obtain ⟨⟨⟨⟨rfl, r2⟩, r3⟩, r4⟩, r5⟩ := hmg
    obtain ⟨g1, g2, g3⟩ := hG
    obtain ⟨cl, ecl, cl1, cl2⟩ := closure_ok (scope := sc') (env := env) (fun y hy hf => by
      obtain ⟨c, ov, a, _⟩ := F.cell y.1 (K.free y hy hf)
      exact ⟨c, a⟩)
    replace hq : wpI X k it ρ σ (fun items σ₁ => items.foldr (stepG X k elt t (clr ρ (Gs.cons t it c r).slots) c r) Q [] σ₁) := hq
    refine wpAny_comprehension_free (g := ⟨tg, itx, ifs, 0⟩) (gs := rest) rfl (folded_of r3 env) ecl K.kind K.loc ?_
    refine seqI (g1 r3 hq R S F) fun val₁ s₁ items σ₁ S₁ T₁ V₁ h₁ => ?_
    refine iter_begin S₁ V₁ fun ob hob x₂ => ?_
    have hn₁ : s₁.heap.get? s₁.heap.objs.size = none := get_ge_none (Nat.le_refl _)
    have gr := Grow.push (X := X) s₁.heap ob
    have S₂ := S₁.grow (tk := s₁.toks) gr
    have T₂ := Step.grow (X := X) (σ := σ₁) (s := s₁) (tk := s₁.toks) gr
    have I₂ : ItOk X σ₁ s₁.heap.objs.size := ⟨S₁.free_of_none hn₁, S₁.H0_of_none hn₁, fun z => by obtain ⟨m, o, es, ep, ho, _⟩ := S₁.ns; rw [← z, hn₁] at ho; cases ho⟩
    have F₂ := (F.step S S₁ T₁).step S₁ S₂ T₂
    exact comp_body he K hme hsync r2 r4 r5 g2 g3 R cl1 cl2 S (T₁.trans T₂ S.gfree S₂.gfree) S₂ F₂ x₂ I₂ (S₁.hid_fresh hn₁) (T₁.fresh hn₁) h₁ fin
theorem CompEnd.value' {new : Bool} {σ : AHeap} {s : Shared} {D C : Addr} {s' : Shared} {l : List V} {σ' : AHeap} {o : Obj} {Q : V → AHeap → Prop} (e : CompEnd X N σ s (fun l σ₁ => mkList new l σ₁ Q) D C s' l σ' o) {h' : Heap} (hs : Heap.SameBut C s'.heap h') :
    ∃ v σ₂, St X N σ₂ { s' with heap := h' } ∧ Step X σ s σ₂ { s' with heap := h' } ∧ VRel (hid N σ₂) h' v (.ref D) ∧ Q v σ₂ ∧ σ₂ C = none := by
  have PK := e.poke hs
  have S₁ := e.st.poke (tk := s'.toks) PK
  have T₁ := e.step.poke (tk := s'.toks) PK e.cfree.2.2.1
  obtain ⟨vs, ⟨n, hp⟩, hsz, hvr⟩ := e.list
  obtain ⟨hn, hq⟩ := e.hq
  have hp' : h'.PlainList D vs := ⟨n, PK.at_ _ _ e.ne hp⟩
  have hvr' := hvr.poke PK
  obtain ⟨f1, f2, f3, f4, f5⟩ := e.free
  cases new with
  | false => exact ⟨.list l, σ', S₁.unhide f2, T₁, .list (hid_none.mpr ⟨f2, f1⟩) hp' hsz (hvr'.light fun a q => (hideAt_none q).1), hq, e.cfree.1⟩
  | true =>
    refine ⟨.ref D, upd σ' D (.list l), S₁.trackHidden f2 hp' hsz hvr', ⟨fun b ob nb q z => T₁.keep b ob nb q z, T₁.sink, fun b ob q q' => ?_, T₁.live, T₁.rest⟩, .ref, hq D f1, by rw [upd_ne (Ne.symm e.ne)]; exact e.cfree.1⟩
    by_cases z : b = D
    · subst z; exact f3
    · rw [upd_ne z] at q'; exact T₁.new b ob q q'
theorem CompEnd.value {new : Bool} {σ : AHeap} {s : Shared} {D C : Addr} {s' : Shared} {l : List V} {σ' : AHeap} {o : Obj} {Q : V → AHeap → Prop} (e : CompEnd X N σ s (fun l σ₁ => mkList new l σ₁ Q) D C s' l σ' o) {h' : Heap} (hs : Heap.SameBut C s'.heap h') : PostE X N σ s Q (.ref D) { s' with heap := h' } :=
  let ⟨v, σ₂, a, b, c, d, _⟩ := e.value' hs; ⟨v, σ₂, a, b, c, d⟩
theorem ET.comp {new : Bool} {elt : E} {gs : Gs} (he : ET X k elt) (hG : GsT X k gs) : ET X k (.comp new elt gs) := by
  intro N sc nm env x ρ σ Q A s hm hq R S F
  cases x <;> first | cases hm | skip
  rename_i l gens sc' pos
  rw [eval_ListComp]
  have hfa : firstAsync gens = false := by
    obtain ⟨K, hne, hmg, hme⟩ := matComp_inv hm
    cases gens with
    | nil => exact absurd rfl hne
    | cons g r =>
      have := gens_sync hmg g (.head _)
      obtain ⟨a, b, c, d⟩ := g
      dsimp only at this
      subst this
      rfl
  rw [hfa]
  refine comp_run (new := new) (use := Option.none) he hG hm hq R S F fun D C s' l σ' o e => ?_
  obtain ⟨m, n⟩ := e.ns
  exact ⟨m, n, fun h' hs => e.value hs⟩
end
end Mine
end

section
open PySem PySem.Calls PyProof.Rows PySem.W
set_option maxRecDepth 20000
namespace Mine
variable {N : Hid}
section
variable {X : Cx} {k : Nat}
def ownP (sc : Scope) (env : Env) : Addr → Prop := fun p => p = env.locals ∨ ∃ x, sc.names.lookup x = some .cell ∧ env.cells.lookup x = some p
theorem ownP_own (sc : Scope) (env : Env) : Own (ownP sc env) sc env false := ⟨.inl rfl, fun _ x c h1 h2 => .inr ⟨x, h1, h2⟩⟩
theorem ownP_slot {sc : Scope} {nm : List (PySem.Str × Nat)} {env : Env} {ρ : List V} {σ : AHeap} {s : Shared} (F : FrOk X N sc nm env ρ σ s.heap) : PSlot N (ownP sc env) s := fun p hp => by
  rcases hp with rfl | ⟨x, h1, h2⟩
  · obtain ⟨m, ⟨o, es, ep, ho, hd, _⟩, _⟩ := F.ns
    exact .inr ⟨o, ho, .inl ⟨_, _, hd⟩⟩
  · obtain ⟨c, ov, a, ⟨o, ho, hd⟩, _⟩ := F.cell x (.inl h1)
    rw [h2] at a; cases a
    exact .inr ⟨o, ho, .inr ⟨_, hd⟩⟩
inductive FlRel (τ : AHeap) (h : Heap) : Fl → Flow → Prop
  | next : FlRel τ h .next .next
  | brk : FlRel τ h .brk .brk
  | ret {v val} : VRel τ h v val → FlRel τ h (.ret v) (.ret val)
def PostF (X : Cx) (N : Hid) (sc : Scope) (nm : List (PySem.Str × Nat)) (env : Env) (σ : AHeap) (s : Shared) (Q : Fl → List V → AHeap → Prop) (f : Flow) (s' : Shared) : Prop :=
  ∃ fl ρ' σ', St X N σ' s' ∧ StepX X (ownP sc env) σ s σ' s' ∧ FrOk X N sc nm env ρ' σ' s'.heap ∧ FlRel (hid N σ') s'.heap fl f ∧ Q fl ρ' σ'
def ST (X : Cx) (k : Nat) (st : S) : Prop := ∀ {N : Hid} {sc : Scope} {nm : List (PySem.Str × Nat)} {env : Env} {x : Stmt} {ρ : List V} {σ : AHeap} {Q : Fl → List V → AHeap → Prop} {A : Around} {s : Shared},
  matS sc nm st x = true → wpS X k st ρ σ Q → Room k A → St X N σ s → FrOk X N sc nm env ρ σ s.heap → wpAny (model X.prog X.w) A (exec x env) (PostF X N sc nm env σ s Q) NoE s
def SsT (X : Cx) (k : Nat) (st : Ss) : Prop := ∀ {N : Hid} {sc : Scope} {nm : List (PySem.Str × Nat)} {env : Env} {xs : List Stmt} {ρ : List V} {σ : AHeap} {Q : Fl → List V → AHeap → Prop} {A : Around} {s : Shared},
  matSs sc nm st xs = true → wpSs X k st ρ σ Q → Room k A → St X N σ s → FrOk X N sc nm env ρ σ s.heap → wpAny (model X.prog X.w) A (execs xs env) (PostF X N sc nm env σ s Q) NoE s
theorem seqF {M : Model} {A : Around} {t : Sem Flow} {sc : Scope} {nm : List (PySem.Str × Nat)} {env : Env} {σ : AHeap} {s : Shared} {Q : Fl → List V → AHeap → Prop} {G : Flow → Shared → Prop} (h : wpAny M A t (PostF X N sc nm env σ s Q) NoE s)
    (g : ∀ f s₁ fl ρ₁ σ₁, St X N σ₁ s₁ → StepX X (ownP sc env) σ s σ₁ s₁ → FrOk X N sc nm env ρ₁ σ₁ s₁.heap → FlRel (hid N σ₁) s₁.heap fl f → Q fl ρ₁ σ₁ → G f s₁) : wpAny M A t G NoE s :=
  wpAny_mono h (fun f s₁ ⟨fl, ρ₁, σ₁, a, b, c, d, e⟩ => g f s₁ fl ρ₁ σ₁ a b c d e) fun _ _ x => x
theorem upF {M : Model} {A : Around} {t : Sem Flow} {sc : Scope} {nm : List (PySem.Str × Nat)} {env : Env} {σ σ₁ : AHeap} {s s₁ s₂ : Shared} {Q : Fl → List V → AHeap → Prop} (T : StepX X (ownP sc env) σ s σ₁ s₁) (h : wpAny M A t (PostF X N sc nm env σ₁ s₁ Q) NoE s₂) : wpAny M A t (PostF X N sc nm env σ s Q) NoE s₂ :=
  wpAny_mono h (fun f s₁ ⟨fl, ρ₁, σ₁, a, b, c, d, e⟩ => ⟨fl, ρ₁, σ₁, a, T.trans b, c, d, e⟩) fun _ _ x => x
theorem SsT.nil : SsT X k .nil := by
  intro N sc nm env xs ρ σ Q A s hm hq R S F
  cases xs <;> first | cases hm | skip
  exact wpAny_execs_nil ⟨.next, ρ, σ, S, .refl .., F, .next, hq⟩
theorem SsT.cons {st : S} {r : Ss} (h1 : ST X k st) (h2 : SsT X k r) : SsT X k (.cons st r) := by
  intro N sc nm env xs ρ σ Q A s hm hq R S F
  cases xs <;> first | cases hm | skip
  rename_i x xs
  replace hm : (matS sc nm st x && matSs sc nm r xs) = true := hm
  simp only [Bool.and_eq_true] at hm
  replace hq : wpS X k st ρ σ (fun fl ρ' σ' => match fl with
      | .next => wpSs X k r ρ' σ' Q
      | .brk => Q .brk ρ' σ'
      | .ret v => Q (.ret v) ρ' σ') := hq
  show wpAny _ _ (exec x env >>= fun f => match f with | .next => execs xs env | f => pure f) _ _ s
  refine wpAny_bind (seqF (h1 hm.1 hq R S F) fun f s₁ fl ρ₁ σ₁ S₁ T₁ F₁ fr h => ?_)
  cases fr with
  | next => exact upF T₁ (h2 hm.2 h R S₁ F₁)
  | brk => exact wpAny_pure ⟨.brk, ρ₁, σ₁, S₁, T₁, F₁, .brk, h⟩
  | ret v => exact wpAny_pure ⟨_, ρ₁, σ₁, S₁, T₁, F₁, .ret v, h⟩
theorem St.freeze {σ : AHeap} {s : Shared} (S : St X N σ s) {c : Addr} {l : List V} (e : σ c = some (.list l)) : St X N (del σ c) s ∧ Step X σ s (del σ c) s ∧ VRel (Mine.hid N (del σ c)) s.heap (.list l) (.ref c) := by
  obtain ⟨vs, i1, i2, i3⟩ := S.objs _ _ e
  have nc := S.hid_tracked e
  have sub : ∀ b o, del σ c b = some o → σ b = some o ∧ b ≠ c := fun b o q => by
    by_cases z : b = c
    · subst z; rw [del_self] at q; cases q
    · rw [del_ne z] at q; exact ⟨q, z⟩
  have kn : ∀ b, σ b = none → del σ c b = none := fun b q => by
    by_cases z : b = c
    · subst z; exact del_self
    · rw [del_ne z]; exact q
  have u : Up X.G (Mine.hid N σ) s.heap (Mine.hid N (del σ c)) s.heap := ⟨fun b o n e q => ⟨e, hid_none.mpr ⟨(hid_none.mp q).1, kn b (hid_none.mp q).2⟩⟩, S.ns⟩
  have sb : ∀ b dx, σ dx = some (.sub b) → del σ c dx = some (.sub b) := fun b dx z => by
    rw [del_ne]
    · exact z
    · intro y; subst y; rw [e] at z; cases z
  exact ⟨⟨S.keep, fun b o q => S.fresh b o (sub b o q).1, fun b o q => (S.objs b o (sub b o q).1).up u (fun _ e => e) (fun dx z => ⟨hid_sub.mpr ⟨(hid_sub.mp z).1, sb _ _ (hid_sub.mp z).2⟩, fun _ e => e⟩), fun b o q => S.live b o (sub b o q).1, S.ns, kn _ S.gfree, S.gH0,
    fun a o q => let ⟨h1, h2, h3, h4⟩ := S.hids a o q; ⟨kn a h1, h2, h3, h4⟩⟩, ⟨fun _ _ _ e _ => e, fun _ n => n, fun b o q q' => (by rw [(sub b o q').1] at q; cases q), fun _ o e => ⟨o, e⟩, s.heap, s.toks, rfl⟩,
    .list (hid_none.mpr ⟨nc, del_self⟩) i1 i2 (i3.up u)⟩
theorem FrOk.as {sc : Scope} {nm : List (PySem.Str × Nat)} {env : Env} {ρ : List V} {σ : AHeap} {h : Heap} {i : Nat} {v : V} {a : Addr} (F : FrOk X N sc nm env ρ σ h) (e : ρ[i]? = some (.ref a)) (y : VRel (hid N σ) h v (.ref a)) : FrOk X N sc nm env (ρ.set i v) σ h where
  scope := F.scope
  kind := F.kind
  glob := F.glob
  blt := F.blt
  ns := let ⟨m, n, r⟩ := F.ns; ⟨m, n, fun x j hx hl u hu hne => by
    rcases set_get hu with ⟨rfl, rfl⟩ | ⟨ne, hu'⟩
    · obtain ⟨val, p, q⟩ := r x j hx hl _ e (by nofun)
      obtain rfl := q.ref_inv
      exact ⟨_, p, y⟩
    · exact r x j hx hl u hu' hne⟩
  cell := fun x k => let ⟨c, ov, a', b, d, e', r⟩ := F.cell x k; ⟨c, ov, a', b, d, e', fun j hx u hu hne => by
    rcases set_get hu with ⟨rfl, rfl⟩ | ⟨ne, hu'⟩
    · obtain ⟨val, p, q⟩ := r j hx _ e (by nofun)
      obtain rfl := q.ref_inv
      exact ⟨_, p, y⟩
    · exact r j hx u hu' hne⟩
  own := F.own
  inj := F.inj
  cinj := F.cinj
theorem SsT.fz {i : Nat} {r : Ss} (h : SsT X k r) : SsT X k (.fz i r) := by
  intro N sc nm env xs ρ σ Q A s hm hq R S F
  replace hm : matSs sc nm r xs = true := hm
  replace hq : fzP i ρ σ (fun ρ' σ' => wpSs X k r ρ' σ' Q) := hq
  unfold fzP at hq
  split at hq <;> first | exact hq.elim | skip
  rename_i a e
  split at hq <;> first | exact hq.elim | skip
  rename_i l e2
  obtain ⟨S₁, T₁, y⟩ := S.freeze e2
  exact upF (.of T₁) (h hm hq R S₁ ((F.step S S₁ T₁).as e y))
theorem ST.pass : ST X k .pass := by
  intro N sc nm env x ρ σ Q A s hm hq R S F
  cases x <;> first | cases hm | skip
  rw [arm_exec_Pass]
  exact wpAny_bind (wpAny_standAt (wpAny_pure ⟨.next, ρ, σ, S, .refl .., F, .next, hq⟩))
theorem ST.brk : ST X k .brk := by
  intro N sc nm env x ρ σ Q A s hm hq R S F
  cases x <;> first | cases hm | skip
  exact wpAny_Break ⟨.brk, ρ, σ, S, .refl .., F, .brk, hq⟩
theorem ST.retn : ST X k .retn := by
  intro N sc nm env x ρ σ Q A s hm hq R S F
  cases x <;> first | cases hm | skip
  rename_i o _
  cases o <;> first | cases hm | skip
  exact wpAny_Return_none ⟨.ret .none, ρ, σ, S, .refl .., F, .ret .none, hq⟩
theorem ST.ret {e : E} (he : ET X k e) : ST X k (.ret e) := by
  intro N sc nm env x ρ σ Q A s hm hq R S F
  cases x <;> first | cases hm | skip
  rename_i o _
  cases o <;> first | cases hm | skip
  rename_i v
  replace hm : matE sc nm e v = true := hm
  replace hq : wpE X k e ρ σ (fun v σ₁ => Q (.ret v) ρ σ₁) := hq
  exact wpAny_Return_some (seqE (he hm hq R S F) fun val s₁ v σ₁ S₁ T₁ V₁ h₁ => ⟨_, ρ, σ₁, S₁, .of T₁, F.step S S₁ T₁, .ret V₁, h₁⟩)
theorem ST.raise : ST X k .raise := by
  intro N sc nm env x ρ σ Q A s hm hq R S F
  exact hq.elim
theorem ST.expr {e : E} (he : ET X k e) : ST X k (.expr e) := by
  intro N sc nm env x ρ σ Q A s hm hq R S F
  cases x <;> first | cases hm | skip
  rename_i v pos
  replace hm : (matE sc nm e v && isCall v) = true := hm
  simp only [Bool.and_eq_true] at hm
  replace hq : wpE X k e ρ σ (fun _ σ₁ => Q .next ρ σ₁) := hq
  have hi : interactive env = false := by unfold interactive; rw [F.scope, F.kind]; rfl
  refine wpAny_Expr_any (seqE (he hm.1 hq R S F) fun val s₁ v σ₁ S₁ T₁ V₁ h₁ => ⟨_, ρ, σ₁, S₁, .of T₁, F.step S S₁ T₁, .next, h₁⟩) hi ?_
  cases v <;> first | rfl | (cases hm.2; done)
theorem ST.ife {c : E} {a b : Ss} (hc : BT X k c) (ha : SsT X k a) (hb : SsT X k b) : ST X k (.ife c a b) := by
  intro N sc nm env x ρ σ Q A s hm hq R S F
  cases x <;> first | cases hm | skip
  rename_i t l r _
  replace hm : (tst c && matE sc nm c t && matSs sc nm a l && matSs sc nm b r) = true := hm
  simp only [Bool.and_eq_true] at hm
  replace hq : wpE X k c ρ σ (fun u σ₁ => truthP u fun r => if r = true then wpSs X k a ρ σ₁ Q else wpSs X k b ρ σ₁ Q) := hq
  refine wpAny_If (seqB (hc hm.1.1.1 hm.1.1.2 hq R S F) fun b' s₁ σ₁ S₁ T₁ h₁ => ?_)
  have F₁ := F.step S S₁ T₁
  cases b' with
  | true => exact upF (.of T₁) (ha hm.1.2 h₁ R S₁ F₁)
  | false => exact upF (.of T₁) (hb hm.2 h₁ R S₁ F₁)
theorem ST.wh {c : E} {b : Ss} (hc : BT X k c) (hb : SsT X k b) : ST X k (.wh c b) := by
  intro N sc nm env x ρ σ Q A s hm hq R S F
  cases x <;> first | cases hm | skip
  rename_i t l els _
  cases els <;> first | cases hm | skip
  replace hm : (tst c && matE sc nm c t && matSs sc nm b l) = true := hm
  simp only [Bool.and_eq_true] at hm
  obtain ⟨n, hq⟩ : ∃ n, whileP (fun ρ σ Q => wpE X k c ρ σ fun u σ₁ => truthP u fun b => Q b σ₁) (fun ρ σ Q => wpSs X k b ρ σ Q) Q n ρ σ := hq
  refine wpAny_While (codeAny_whileLoop (fun n s' => ∃ ρ' σ', whileP (fun ρ σ Q => wpE X k c ρ σ fun u σ₁ => truthP u fun b => Q b σ₁) (fun ρ σ Q => wpSs X k b ρ σ Q) Q n ρ' σ' ∧ St X N σ' s' ∧ StepX X (ownP sc env) σ s σ' s' ∧ FrOk X N sc nm env ρ' σ' s'.heap) ?_ n ⟨ρ, σ, hq, S, .refl .., F⟩)
  rintro n s₁ ⟨ρ₁, σ₁, hq, S₁, T₁, F₁⟩
  cases n with
  | zero => exact hq.elim
  | succ n =>
    replace hq : wpE X k c ρ₁ σ₁ (fun u σ₂ => truthP u fun r => if r = true then wpSs X k b ρ₁ σ₂ (fun fl ρ' σ' => match fl with
      | .next => whileP (fun ρ σ Q => wpE X k c ρ σ fun u σ₁ => truthP u fun b => Q b σ₁) (fun ρ σ Q => wpSs X k b ρ σ Q) Q n ρ' σ'
      | .brk => Q .next ρ' σ'
      | .ret v => Q (.ret v) ρ' σ') else Q .next ρ₁ σ₂) := hq
    refine wpAny_mono (hc hm.1.1 hm.1.2 hq R S₁ F₁) (fun b' s₂ ⟨σ₂, S₂, T₂, h₂⟩ => ?_) fun _ _ z => z.elim
    have F₂ := F₁.step S₁ S₂ T₂
    cases b' with
    | false =>
      simp only [Bool.false_eq_true, if_false] at h₂ ⊢
      exact wpAny_execs_nil ⟨.next, ρ₁, σ₂, S₂, T₁.trans (.of T₂), F₂, .next, h₂⟩
    | true =>
      simp only [if_true] at h₂ ⊢
      refine wpAny_mono (hb hm.2 h₂ R S₂ F₂) (fun f s₃ ⟨fl, ρ₃, σ₃, S₃, T₃, F₃, fr, h₃⟩ => ?_) fun _ _ z => z.elim
      have T := (T₁.trans (.of T₂)).trans T₃
      cases fr with
      | next => exact ⟨n, Nat.lt_succ_self _, ρ₃, σ₃, h₃, S₃, T, F₃⟩
      | brk => exact ⟨.next, ρ₃, σ₃, S₃, T, F₃, .next, h₃⟩
      | ret v => exact ⟨_, ρ₃, σ₃, S₃, T, F₃, .ret v, h₃⟩
theorem ST.forr {t : Tg} {it : It} {b : Ss} (hi : IT X k it) (hb : SsT X k b) : ST X k (.forr t it b) := by
  intro N sc nm env x ρ σ Q A s hm hq R S F
  cases x <;> first | cases hm | skip
  rename_i tg itx l els _
  cases els <;> first | cases hm | skip
  replace hm : (matTg sc nm false t tg && decide t.slots.Nodup && matI sc nm it itx && matSs sc nm b l) = true := hm
  simp only [Bool.and_eq_true] at hm
  obtain ⟨⟨⟨m1, _⟩, m3⟩, m4⟩ := hm
  replace hq : wpI X k it ρ σ (fun items σ₁ => forP t (fun ρ σ Q => wpSs X k b ρ σ Q) Q items ρ σ₁) := hq
  refine wpAny_For (seqI (hi m3 hq R S F) fun val₁ s₁ items σ₁ S₁ T₁ V₁ h₁ => ?_) (folded_of m3 env)
  refine iter_begin S₁ V₁ fun ob hob x₂ => ?_
  have hn₁ : s₁.heap.get? s₁.heap.objs.size = none := get_ge_none (Nat.le_refl _)
  have gr := Grow.push (X := X) s₁.heap ob
  have S₂ := S₁.grow (tk := s₁.toks) gr
  have T₂ := Step.grow (X := X) (σ := σ₁) (s := s₁) (tk := s₁.toks) gr
  have I₂ : ItOk X σ₁ s₁.heap.objs.size := ⟨S₁.free_of_none hn₁, S₁.H0_of_none hn₁, fun z => by obtain ⟨m, o, es, ep, ho, _⟩ := S₁.ns; rw [← z, hn₁] at ho; cases ho⟩
  have F₂ := (F.step S S₁ T₁).step S₁ S₂ T₂
  have T : StepX X (ownP sc env) σ s σ₁ { s₁ with heap := s₁.heap.push ob, toks := s₁.toks } := (StepX.of T₁).trans (.of T₂)
  have hN := S₁.hid_fresh hn₁
  have hs := T₁.fresh hn₁
  generalize hit : s₁.heap.objs.size = itA at x₂ I₂ hN hs ⊢
  refine codeAny_forLoop_any (fun n s' => ∃ items ρ' σ', n = items.length ∧ forP t (fun ρ σ Q => wpSs X k b ρ σ Q) Q items ρ' σ' ∧ St X N σ' s' ∧ StepX X (ownP sc env) σ s σ' s' ∧ FrOk X N sc nm env ρ' σ' s'.heap ∧ Iter (hid N σ') s'.heap itA items ∧ ItOk X σ' itA) ?_ items.length
    ⟨items, ρ, σ₁, rfl, h₁, S₂, T, F₂, x₂, I₂⟩
  rintro n s₃ ⟨items, ρ₃, σ₃, rfl, hq₃, S₃, T₃, F₃, x₃, I₃⟩
  refine wpAny_mono (iter_next (E := NoE) (Q := fun r s₄ => match r with | none => _ | some v => _) R.1 S₃ I₃ x₃ ?_ ?_) (fun r s₄ h => h) fun _ _ z => z.elim
  · rintro rfl h' he'
    have PK := it_poke S₃ I₃ hN x₃ he'
    exact wpAny_execs_nil ⟨.next, ρ₃, σ₃, S₃.poke (tk := s₃.toks) PK, T₃.poke (tk := s₃.toks) PK (.inr hs), F₃.poke PK (fun o e => by obtain ⟨o', ho, hf⟩ := x₃.fields; rw [ho] at e; cases e; exact fields_not_slot hf), .next, hq₃⟩
  · rintro v rs rfl val h' tk PK V₄ x₄
    have S₄ := S₃.poke (tk := tk) PK
    have T₄ := T₃.poke (tk := tk) PK (.inr hs)
    have F₄ := F₃.poke PK (fun o e => by obtain ⟨o', ho, hf⟩ := x₃.fields; rw [ho] at e; cases e; exact fields_not_slot hf)
    refine Iter.owned (s := { s₃ with heap := h', toks := tk }) x₄ ?_
    replace hq₃ : asgP t v ρ₃ (fun ρ₁ => wpSs X k b ρ₁ σ₃ (fun fl ρ' σ' => match fl with
      | .next => forP t (fun ρ σ Q => wpSs X k b ρ σ Q) Q rs ρ' σ'
      | .brk => Q .next ρ' σ'
      | .ret v => Q (.ret v) ρ' σ')) := hq₃
    refine wpAny_mono (assign_tg (P := ownP sc env) (s := { s₃ with heap := h', toks := tk }) (Q := fun _ s' => ∃ ρ', Pokes X N σ₃ (ownP sc env) { s₃ with heap := h', toks := tk } s' ∧ FrOk X N sc nm env ρ' σ₃ s'.heap ∧ wpSs X k b ρ' σ₃ (fun fl ρ' σ' => match fl with
      | .next => forP t (fun ρ σ Q => wpSs X k b ρ σ Q) Q rs ρ' σ'
      | .brk => Q .next ρ' σ'
      | .ret v => Q (.ret v) ρ' σ')) (ownP_own sc env) R.1 m1 S₄ F₄ V₄ hq₃ fun s' ρ' a b c => ⟨ρ', a, b, c⟩) (fun _ s₅ ⟨ρ₅, PP, F₅, h₅⟩ => ?_) fun _ _ z => z.elim
    have S₅ := PP.st S₄
    have x₅ := PP.iter x₄
    have T₅ := T₄.trans PP.stepX
    refine wpAny_mono (hb m4 h₅ R S₅ F₅) (fun f s₆ ⟨fl, ρ₆, σ₆, S₆, T₆, F₆, fr, h₆⟩ => ?_) fun _ _ z => z.elim
    obtain ⟨x₆, I₆⟩ := T₆.iter S₅ (ownP_slot F₅) I₃ hN x₅
    have T' := T₅.trans T₆
    cases fr with
    | next => exact ⟨rs.length, by simp, rs, ρ₆, σ₆, rfl, h₆, S₆, T', F₆, x₆, I₆⟩
    | brk => exact ⟨.next, ρ₆, σ₆, S₆, T', F₆, .next, h₆⟩
    | ret v => exact ⟨_, ρ₆, σ₆, S₆, T', F₆, .ret v, h₆⟩
end
end Mine
end

section
open PySem PySem.Calls PyProof.Rows PySem.W
set_option maxRecDepth 20000
namespace Mine
variable {N : Hid}
section
variable {X : Cx} {k : Nat}
theorem dictSet_le {prog : Program} {w : World} {A : Around} {E : Value → Shared → Prop} {s : Shared} {d : Addr} {f : Int → Option Value} {i : Int} {t : Tok} {v : Value} {n : Nat} {Q : Unit → Shared → Prop} (hm : s.heap.MapOf (intKind prog w) d f) (hz : s.heap.DictLe d n) (hn : n ≤ sizeLine)
    (hQ : ∀ h', h'.MapOf (intKind prog w) d (fun x => if x = i then some v else f x) → h'.DictLe d (n + 1) → Heap.SameBut d s.heap h' → Q () { s with heap := h', toks := s.toks + 1 }) : wpAny (model prog w) A (dictSet d (.int i t) v) Q E s := by
  obtain ⟨o, es, ep, ho, hc, hd, hk, hf⟩ := hm
  have hkey := intKind_is prog w i t
  have hsz : es.size ≤ n := hz _ _ _ ho hd
  unfold dictSet
  try with_reducible refine wpAny_holding ?_
  refine wpAny_bind ((intKind prog w).pyHash hkey ?_)
  unfold dictSetHashed
  try with_reducible refine wpAny_holding ?_
  refine wpAny_bind (wpAny_dictFind_of (s := { s with toks := s.toks + 1 }) hkey ho hd hk ?_)
  cases hi : es.findIdx? fun e => (intKind prog w).is i e.key with
  | some j =>
    have ho' := Heap.get?_update_self (Obj.mapDict (fun es => es.modify j fun e => { e with val := v })) ho (Obj.isFreed_of_dict (Obj.data_mapDict hd _))
    refine wpAny_bind (wpAny_rule (wpAny_bind (wpAny_updateDict (s := { s with toks := s.toks + 1 }) ho hd (wpAny_point (hQ _ ⟨_, _, ep, ho', hc.mapDict _, Obj.data_mapDict hd _, hk.modify _ _, fun x => ?_⟩ (fun o2 es2 ep2 e2 d2 => ?_) (Heap.SameBut.update ..))))))
    · rw [findBy_modify (intKind prog w).is (intKind prog w).inj es i x v j hi, hf]
    · rw [ho'] at e2; cases e2
      rw [Obj.data_mapDict hd _] at d2; cases d2
      simp only [Array.size_modify]; omega
  | none =>
    have ho' := Heap.get?_update_self (Obj.mapDictKeys (fun es => es.push ⟨(intKind prog w).hash i, .int i t, v⟩)) ho (Obj.isFreed_of_dict (Obj.data_mapDictKeys hd _))
    refine wpAny_bind (wpAny_rule (wpAny_updateDictKeys (hz := Nat.le_trans hsz hn) (s := { s with toks := s.toks + 1 }) ho hd (hQ _ ⟨_, _, ep + 1, ho', hc.mapDictKeys _, Obj.data_mapDictKeys hd _, hk.push hkey _, fun x => ?_⟩ (fun o2 es2 ep2 e2 d2 => ?_) (Heap.SameBut.update ..))))
    · rw [findBy_push (intKind prog w).is es i x _ _ v (KeyKind.is_eq_decide hkey) hi, hf]
    · rw [ho'] at e2; cases e2
      rw [Obj.data_mapDictKeys hd _] at d2; cases d2
      simp only [Array.size_push]; omega
theorem setItem_dict {prog : Program} {w : World} {A : Around} {E : Value → Shared → Prop} {s : Shared} {d : Addr} {f : Int → Option Value} {i : Int} {t : Tok} {v : Value} {n : Nat} {Q : Unit → Shared → Prop} (hm : s.heap.MapOf (intKind prog w) d f) (hz : s.heap.DictLe d n) (hn : n ≤ sizeLine)
    (hQ : ∀ h', h'.MapOf (intKind prog w) d (fun x => if x = i then some v else f x) → h'.DictLe d (n + 1) → Heap.SameBut d s.heap h' → Q () { s with heap := h', toks := s.toks + 1 }) : wpAny (model prog w) A (setItem (.ref d) (.int i t) v) Q E s := by
  unfold setItem
  try with_reducible refine wpAny_holding ?_
  refine wpAny_bind (wpAny_sequenceKey hm.typeIs (by decide) ?_)
  refine wpAny_bind (wpAny_callSpecial?_slot (name := Str.ofString "__setitem__") hm.typeIs slot_dict_setitem
    (wpAny_call_entry slot_dict_setitem hm.typeIs entry_dict_setitem ?_ (args_dict_setitem _ _ _)))
  show wpAny _ _ (Builtin.Dict.notOrdered "__setitem__" ⟨[.ref d, .int i t, v], []⟩ >>= _) _ _ s
  refine wpAny_bind (wpAny_notOrdered_dict hm.typeIs ?_)
  show wpAny _ _ (dictSet d (.int i t) v >>= _) _ _ s
  exact wpAny_bind (dictSet_le hm hz hn fun h' hm' hz' hs' => wpAny_pure ⟨.none, rfl, wpAny_pure (hQ h' hm' hz' hs')⟩)
theorem mapSeq_plain (its : Array Value) (n : Nat) (f : Array Value → Array Value) : ∃ n', Obj.mapSeq f { cls := .type "list", data := .seq its n } = { cls := .type "list", data := .seq (f its) n' } := by
  simp [Obj.mapSeq]
theorem setItem_plain {prog : Program} {w : World} {A : Around} {E : Value → Shared → Prop} {s : Shared} {l : Addr} {items : Array Value} {i : Int} {t : Tok} {v : Value} {Q : Unit → Shared → Prop} (hp : s.heap.PlainList l items)
    (h0 : 0 ≤ i) (hfit : i < 2 ^ 63) (hn : i < items.size)
    (hQ : ∀ h', h'.PlainList l (items.setIfInBounds i.toNat v) → Heap.SameBut l s.heap h' → Q () { s with heap := h' }) :
    wpAny (model prog w) A (setItem (.ref l) (.int i t) v) Q E s := by
  have hl := hp.isList
  obtain ⟨n, ho⟩ := hp
  unfold setItem
  try with_reducible refine wpAny_holding ?_
  first | refine wpAny_bind (wpAny_pure ?_) | skip
  refine wpAny_bind (wpAny_sequenceKey hl.typeIs (by decide) ?_)
  refine wpAny_bind (wpAny_callSpecial?_slot (name := Str.ofString "__setitem__") hl.typeIs slot_list_setitem
    (wpAny_call_entry slot_list_setitem hl.typeIs entry_list_setitem ?_ (args_list_setitem _ _ _)))
  show wpAny _ _ (Builtin.List.listSubscript? (.int i t) >>= _) _ _ s
  refine wpAny_bind (wpAny_listSubscript_int (fitsIndex_of h0 hfit) ?_)
  clear hfit
  obtain ⟨j, rfl⟩ := Int.eq_ofNat_of_zero_le h0
  have hj : j < items.size := by omega
  have hx' : items[j]? = some items[j] := Array.getElem?_eq_getElem hj
  show wpAny _ _ ((seqItemAt l j >>= fun r => pure (r.map (j, ·))) >>= _) _ _ s
  refine wpAny_bind (wpAny_bind (wpAny_seqItemAt ho rfl (wpAny_pure ?_)))
  rw [hx']
  show wpAny _ _ (setSeqItemAt l j v >>= _) _ _ s
  obtain ⟨n', hd'⟩ := mapSeq_plain items n (·.setIfInBounds j v)
  have hfin : (s.heap.update l (Obj.mapSeq (·.setIfInBounds j v))).PlainList l (items.setIfInBounds j v) :=
    ⟨n', by rw [Heap.get?_update_self _ ho (by rw [hd']; rfl), hd']⟩
  refine wpAny_bind (wpAny_setSeqItemAt ho rfl ?_)
  first
    | exact wpAny_bind (wpAny_pure (wpAny_pure ⟨.none, rfl, wpAny_pure (hQ _ hfin (Heap.SameBut.update ..))⟩))
    | exact wpAny_pure ⟨.none, rfl, wpAny_pure (hQ _ hfin (Heap.SameBut.update ..))⟩
theorem VRels.set {τ : AHeap} {h : Heap} : ∀ {l : List V} {vs : List Value} {v : V} {val : Value}, VRels τ h l vs → VRel τ h v val → ∀ j : Nat, VRels τ h (l.set j v) (vs.set j val)
  | _, _, _, _, .nil, _, _ => .nil
  | _, _, _, _, .cons _ r, y, 0 => .cons y r
  | _, _, _, _, .cons x r, y, j + 1 => .cons x (r.set y j)
def PostU (X : Cx) (N : Hid) (σ : AHeap) (s : Shared) (Q : AHeap → Prop) (_ : Unit) (s' : Shared) : Prop := ∃ σ', St X N σ' s' ∧ Step X σ s σ' s' ∧ Q σ'
theorem setitem_call {u i x : V} {a b c : Value} {σ : AHeap} {s : Shared} {A : Around} {Q : AHeap → Prop} (S : St X N σ s) (xu : VRel (hid N σ) s.heap u a) (xi : VRel (hid N σ) s.heap i b) (xx : VRel (hid N σ) s.heap x c) (h : setidxP u i x σ Q) :
    wpAny (model X.prog X.w) A (setItem a b c) (PostU X N σ s Q) NoE s := by
  unfold setidxP at h
  split at h <;> first | exact h.elim | skip
  rename_i p j
  obtain rfl := xu.ref_inv
  obtain ⟨t, rfl⟩ := xi.int_inv
  split at h <;> first | exact h.elim | skip
  · rename_i l e
    obtain ⟨h0, h1, hq⟩ := h
    obtain ⟨vs, i1, i2, i3⟩ := S.objs _ _ e
    have hlen := i3.length
    simp only [Array.length_toList] at hlen
    refine setItem_plain i1 h0 (by omega) (by omega) fun h' hp hs => ?_
    obtain ⟨n', hob⟩ := id hp
    obtain ⟨S', T'⟩ := S.change (tk := s.toks) (o' := .list (l.set j.toNat x)) e hs ⟨_, hob⟩ (fun _ => nofun) fun up => ⟨_, hp, by simpa using i2, by
      rw [Array.toList_setIfInBounds]; exact (i3.up up).set (xx.up up) _⟩
    exact ⟨_, S', T', hq⟩
  · rename_i n m e
    obtain ⟨hn, hq⟩ := h
    obtain ⟨f, i1, ⟨i2, i3⟩, i4⟩ := S.objs _ _ e
    refine setItem_dict i1 i2 (size_line _ i3) fun h' hm' hz' hs' => ?_
    obtain ⟨ob, _, _, hob, _⟩ := id hm'
    obtain ⟨S', T'⟩ := S.change (tk := s.toks + 1) (o' := .dict (n + 1) fun q => if q = j then some x else m q) e hs' ⟨_, hob⟩ (fun _ => nofun) fun up => ⟨_, hm', ⟨hz', by omega⟩, fun q => by
      by_cases z : q = j
      · show ORelO _ _ (if q = j then _ else _) (if q = j then _ else _)
        rw [if_pos z, if_pos z]; exact xx.up up
      · show ORelO _ _ (if q = j then _ else _) (if q = j then _ else _)
        rw [if_neg z, if_neg z]; exact (i4 q).up up⟩
    exact ⟨_, S', T', hq⟩
end
end Mine
end

section
open PySem PySem.Calls PyProof.Rows PySem.W
set_option maxRecDepth 20000
namespace Mine
variable {N : Hid}
section
variable {X : Cx} {k : Nat}
theorem isStr_an {i j : Nat} {t : Tok} (hi : i < 30) (hj : j < 30) : (Value.str (an i) t).isStr (an j) = decide (i = j) := by
  by_cases e : i = j
  · subst e; simp [Value.isStr]
  · have ne : ¬ (an i = an j) := fun q => e (an_inj _ _ hi hj q)
    simp [Value.isStr, ne, e]
theorem FRel.put {τ : AHeap} {h : Heap} {n : Nat} {v : V} {val : Value} {t : Tok} (hn : n < 14) (y : VRel τ h v val) : ∀ {fs : List (Nat × V)} {es : List DictEntry}, FRel X τ h fs es → (∀ p ∈ fs, p.1 < 14) →
    FRel X τ h (putF n v fs) (putL (an n) (PyData.keyHash X.w.params (an n)) (.str (an n) t) val es) ∧ (∀ p ∈ putF n v fs, p.1 < 14) ∧ (putF n v fs).length ≤ fs.length + 1
  | _, _, .nil, _ => ⟨.cons y .nil, (by intro p hp; simp only [putF, List.mem_singleton] at hp; subst hp; exact hn), (by simp [putF])⟩
  | _, _, .cons (k := i) (v := v0) (fs := fs) (es := es) (t := t0) (val := val0) x r, hk => by
    have hi : i < 14 := hk _ List.mem_cons_self
    have ih := FRel.put (t := t) hn y r fun p hp => hk p (List.mem_cons_of_mem _ hp)
    unfold putF putL
    rw [isStr_an (by omega) (by omega)]
    by_cases e : i = n
    · subst e
      simp only [decide_true, if_true]
      exact ⟨.cons y r, (by intro p hp; rcases List.mem_cons.mp hp with h1 | h1; (subst h1; exact hi); exact hk p (List.mem_cons_of_mem _ h1)), (by simp)⟩
    · simp only [e, decide_false, if_false, Bool.false_eq_true]
      exact ⟨.cons x ih.1, (by intro p hp; rcases List.mem_cons.mp hp with h1 | h1; (subst h1; exact hi); exact ih.2.1 p h1), (by simp only [List.length_cons]; omega)⟩
theorem FRel.length {τ : AHeap} {h : Heap} : ∀ {fs : List (Nat × V)} {es : List DictEntry}, FRel X τ h fs es → fs.length = es.length
  | _, _, .nil => rfl
  | _, _, .cons _ r => by simp [r.length]
theorem setattr_call (B : Base X) {u x : V} {n : Nat} {a c : Value} {σ : AHeap} {s : Shared} {A : Around} {Q : AHeap → Prop} (S : St X N σ s) (xu : VRel (hid N σ) s.heap u a) (xx : VRel (hid N σ) s.heap x c) (h : setattrP u n x σ Q) :
    wpAny (model X.prog X.w) A (setAttr a (an n) c) (PostU X N σ s Q) NoE s := by
  unfold setattrP at h
  split at h <;> first | exact h.elim | skip
  rename_i p
  obtain rfl := xu.ref_inv
  split at h <;> first | exact h.elim | skip
  rename_i C fs e
  obtain ⟨hn, hlen, hq⟩ := h
  obtain ⟨dx, es, m, e2, I, ha, hdx, y, hc, hl, hp⟩ := inst_at S e
  obtain ⟨c1, c2, c3, c4, c5⟩ := B.cls C hc
  have KH := B.inK.keeps S.keep
  obtain ⟨mm, news, Fm, Nw, all⟩ := ledger S
  have dG : dx ≠ X.G := S.ne_G e2
  have N1 : News ({} : Heap) X.G s.heap ([] ++ (dx, dictOf es m) :: news.filter (fun q => q.1 ≠ dx)) := fun q hq' => by
    rcases List.mem_cons.mp hq' with rfl | hq'
    · exact ⟨hdx, dG, get_ge_none (Nat.zero_le _)⟩
    · exact Nw q (List.mem_filter.mp hq').1
  obtain ⟨f1, f2, f3⟩ := y.put (n := n) (v := x) (val := c) (t := s.toks + 1) hn xx hp
  have hlk : (lookIn (an n) (dictOf es m)).isSome = true := by
    rw [lookIn_dict]
    have := y.look (n := n) (by omega) (fun q hq' => by have := hp q hq'; omega)
    cases hf : fs.lookup n with
    | none => rw [this.2 hf]; rfl
    | some v => obtain ⟨val, hv, _⟩ := this.1 v hf; rw [hv]; rfl
  refine set_plain KH I c3 (osa_dict (s := { s with toks := s.toks + 1 }) (es := putL (an n) (PyData.keyHash X.w.params (an n)) (.str (an n) (s.toks + 1)) c es) (n := putN (an n) es m) Fm N1 KH I rfl c4 (B.attrs C hc n hn).2 c1 hlk (by simp) (fun q hq' => by
    have := (List.mem_filter.mp hq').2; simpa using this) (putName_dict _ _ _ _ _ _) rfl (by have := f1.length; omega) fun h' F' N' => ?_)
  have hdx' := (N' (dx, _) (List.mem_append_right _ (List.mem_cons_self ..))).1
  have at_ : ∀ b ob, b ≠ dx → b ≠ X.G → s.heap.get? b = some ob → h'.get? b = some ob := fun b ob n1 n2 q =>
    (N' (b, ob) (List.mem_append_right _ (List.mem_cons_of_mem _ (List.mem_filter.mpr ⟨all b ob n2 q, by simpa using n1⟩)))).1
  have sink : ∀ m', s.heap.Ns X.G m' → h'.Ns X.G m' := fun m' n' => by rw [Ns.unique n' Fm.ns]; exact F'.ns
  have live : ∀ b ob, s.heap.get? b = some ob → ∃ o', h'.get? b = some o' := fun b ob q => by
    by_cases z : b = dx
    · subst z; exact ⟨_, hdx'⟩
    · by_cases z2 : b = X.G
      · subst z2; obtain ⟨o', _, _, ho', _⟩ := F'.ns; exact ⟨o', ho'⟩
      · exact ⟨ob, at_ b ob z z2 q⟩
  have un : ∀ b, hid N σ b = none → hid N (upd σ p (.inst C (putF n x fs))) b = none ∧ b ≠ dx := fun b q => by
    obtain ⟨q1, q2⟩ := hid_none.mp q
    have ne : b ≠ p := fun z => by rw [z, e] at q2; cases q2
    exact ⟨hid_none.mpr ⟨q1, by rw [upd_ne ne]; exact q2⟩, fun z => by rw [z, e2] at q2; cases q2⟩
  have u : Up X.G (hid N σ) s.heap (hid N (upd σ p (.inst C (putF n x fs)))) h' := ⟨fun b ob n1 q z => ⟨at_ b ob (un b z).2 n1 q, (un b z).1⟩, S.ns⟩
  have pG := S.ne_G e
  have pd : p ≠ dx := fun z => by rw [z, e2] at e; cases e
  have keepsub : ∀ b dx', σ dx' = some (.sub b) → upd σ p (.inst C (putF n x fs)) dx' = some (.sub b) := fun b dx' q => by
    rw [upd_ne (fun z => by rw [z, e] at q; cases q)]; exact q
  refine ⟨upd σ p (.inst C (putF n x fs)), ⟨fun b ob q => ?_, fun b ob q => ?_, fun b ob q => ?_, fun b ob q => ?_, ?_, by rw [upd_ne (Ne.symm pG)]; exact S.gfree, S.gH0, fun b ob q => ?_⟩, ⟨fun b ob n1 q z => at_ b ob (fun y => by rw [y, e2] at z; cases z) n1 q, sink, fun b ob q q' => ?_, live, h', _, rfl⟩, hq⟩
  · have n1 : b ≠ dx := fun z => by rw [z, S.fresh _ _ e2] at q; cases q
    have n2 : b ≠ X.G := fun z => by rw [z, S.gH0] at q; cases q
    exact at_ b ob n1 n2 (S.keep b ob q)
  · by_cases z : b = p
    · subst z; exact S.fresh _ _ e
    · rw [upd_ne z] at q; exact S.fresh b ob q
  · by_cases z : b = p
    · subst z
      rw [upd_self] at q
      cases q
      exact ⟨dx, _, _, at_ _ _ pd pG ha, hid_sub.mpr ⟨S.hid_tracked e2, keepsub _ _ e2⟩, hdx', (f1.up u), hc, by omega, f2⟩
    · rw [upd_ne z] at q
      by_cases w : b = dx
      · rw [w, e2] at q; cases q; trivial
      · refine (S.objs b ob q).up u (fun ob' q' => at_ b ob' w (S.ne_G q) q') (fun dx' w' => ?_)
        have w2 := (hid_sub.mp w').2
        have nd : dx' ≠ dx := fun y => by rw [y, e2] at w2; cases w2; exact z rfl
        exact ⟨hid_sub.mpr ⟨(hid_sub.mp w').1, keepsub _ _ w2⟩, fun ob' q' => at_ dx' ob' nd (S.ne_G w2) q'⟩
  · by_cases z : b = p
    · subst z; exact live _ _ ha
    · rw [upd_ne z] at q
      obtain ⟨ob', q'⟩ := S.live b ob q
      exact live b ob' q'
  · obtain ⟨m', n'⟩ := S.ns; exact ⟨m', sink m' n'⟩
  · obtain ⟨h1, ⟨ob', h2⟩, h3, h4⟩ := S.hids b ob q
    have ne : b ≠ p := fun z => by rw [z, e] at h1; cases h1
    exact ⟨by rw [upd_ne ne]; exact h1, live b ob' h2, h3, h4⟩
  · by_cases z : b = p
    · subst z; rw [e] at q; cases q
    · rw [upd_ne z, q] at q'; cases q'
end
end Mine
end

section
open PySem PySem.Calls PyProof.Rows PySem.W
set_option maxRecDepth 20000
namespace Mine
variable {N : Hid}
section
variable {X : Cx} {k : Nat}
theorem ST.setidx {o i e : E} (ho : ET X k o) (hi : ET X k i) (he : ET X k e) : ST X k (.setidx o i e) := by
  intro N sc nm env x ρ σ Q A s hm hq R S F
  cases x <;> first | cases hm | skip
  rename_i tgs v pos
  rcases tgs with _ | ⟨tg, rest⟩ <;> first | cases hm | skip
  cases tg <;> cases rest <;> first | cases hm | skip
  rename_i b sl p'
  replace hm : (matE sc nm o b && matE sc nm i sl && matE sc nm e v && notSlice sl) = true := hm
  simp only [Bool.and_eq_true] at hm
  obtain ⟨⟨⟨m1, m2⟩, m3⟩, m4⟩ := hm
  replace hq : wpE X k e ρ σ (fun v σ₁ => wpE X k o ρ σ₁ fun u σ₂ => wpE X k i ρ σ₂ fun j σ₃ => setidxP u j v σ₃ fun σ₄ => Q .next ρ σ₄) := hq
  refine wpAny_Assign_Subscript (seqE (he m3 hq R S F) fun val₁ s₁ v₁ σ₁ S₁ T₁ V₁ h₁ => seqE (ho m1 h₁ R S₁ (F.step S S₁ T₁)) fun val₂ s₂ v₂ σ₂ S₂ T₂ V₂ h₂ => seqE (hi m2 h₂ R S₂ ((F.step S S₁ T₁).step S₁ S₂ T₂)) fun val₃ s₃ v₃ σ₃ S₃ T₃ V₃ h₃ => ?_) (by cases v <;> rfl)
  refine wpAny_mono (setitem_call S₃ (V₂.up (T₃.up S₂)) V₃ ((V₁.up (T₂.up S₁)).up (T₃.up S₂)) h₃) (fun _ s₄ ⟨σ₄, S₄, T₄, h₄⟩ => ?_) fun _ _ z => z
  have T := ((T₁.trans T₂ S.gfree S₂.gfree).trans T₃ S.gfree S₃.gfree).trans T₄ S.gfree S₄.gfree
  exact ⟨.next, ρ, σ₄, S₄, .of T, F.step S S₄ T, .next, h₄⟩
theorem ST.setattr (B : Base X) {o e : E} {n : Nat} (ho : ET X k o) (he : ET X k e) : ST X k (.setattr o n e) := by
  intro N sc nm env x ρ σ Q A s hm hq R S F
  cases x <;> first | cases hm | skip
  rename_i tgs v pos
  rcases tgs with _ | ⟨tg, rest⟩ <;> first | cases hm | skip
  cases tg <;> cases rest <;> first | cases hm | skip
  rename_i b t p'
  replace hm : (t == an n && matE sc nm o b && matE sc nm e v) = true := hm
  simp only [Bool.and_eq_true, beq_iff_eq] at hm
  obtain ⟨⟨rfl, m1⟩, m3⟩ := hm
  replace hq : wpE X k e ρ σ (fun v σ₁ => wpE X k o ρ σ₁ fun u σ₂ => setattrP u n v σ₂ fun σ₃ => Q .next ρ σ₃) := hq
  refine plainObj_wpAny_Assign_Attribute (seqE (he m3 hq R S F) fun val₁ s₁ v₁ σ₁ S₁ T₁ V₁ h₁ => seqE (ho m1 h₁ R S₁ (F.step S S₁ T₁)) fun val₂ s₂ v₂ σ₂ S₂ T₂ V₂ h₂ => ?_) (by cases v <;> rfl)
  refine wpAny_mono (setattr_call B S₂ V₂ (V₁.up (T₂.up S₁)) h₂) (fun _ s₄ ⟨σ₄, S₄, T₄, h₄⟩ => ?_) fun _ _ z => z
  have T := (T₁.trans T₂ S.gfree S₂.gfree).trans T₄ S.gfree S₄.gfree
  exact ⟨.next, ρ, σ₄, S₄, .of T, F.step S S₄ T, .next, h₄⟩
theorem ST.aug {i : Nat} {op : Bop} {e : E} (he : ET X k e) : ST X k (.aug i op e) := by
  intro N sc nm env x ρ σ Q A s hm hq R S F
  cases x <;> first | cases hm | skip
  rename_i tg o v pos
  cases tg <;> first | cases hm | skip
  rename_i id p'
  replace hm : (isVar sc nm id i && o == bopOf op && sc.names.lookup id != some .free && matE sc nm e v) = true := hm
  simp only [Bool.and_eq_true, beq_iff_eq, bne_iff_ne, ne_eq] at hm
  obtain ⟨⟨⟨m1, rfl⟩, m3⟩, m4⟩ := hm
  obtain ⟨n1, n2, n3, n4⟩ := isVar_inv m1
  obtain ⟨u, hu, hun, hq⟩ : ∃ u, ρ[i]? = some u ∧ u ≠ .undef ∧ wpE X k e ρ σ fun v σ₁ => (match u, v with
      | .int a, .int b => op = .add ∧ Q .next (ρ.set i (.int (a + b))) σ₁
      | _, _ => False) := hq
  rw [arm_exec_AugAssign]
  refine wpAny_bind (wpAny_standAt (wpAny_bind ?_))
  refine load_var F n1 n2 hu hun (fun val₀ V₀ => ?_) n4
  refine wpAny_bind (wpAny_holding (seqE (he m4 hq R S F) fun val₁ s₁ v₁ σ₁ S₁ T₁ V₁ h₁ => ?_))
  have F₁ := F.step S S₁ T₁
  have V₀' := V₀.up (T₁.up S)
  split at h₁ <;> first | exact h₁.elim | skip
  rename_i a b
  obtain ⟨rfl, h₁⟩ := h₁
  obtain ⟨t, rfl⟩ := V₀'.int_inv
  obtain ⟨t', rfl⟩ := V₁.int_inv
  refine wpAny_bind (wpAny_standAt (wpAny_bind (wpAny_operateT (wpAny_iadd_int ?_))))
  refine wpAny_bind (wpAny_standAt (wpAny_bind (wpAny_bindName ?_)))
  have S₂ := S₁.tok (s₁.toks + 1)
  have T₂ := T₁.trans (Step.tok (X := X) (σ := σ₁) (s := s₁) (s₁.toks + 1)) S.gfree S₁.gfree
  have F₂ := F₁.step S₁ S₂ (Step.tok (s₁.toks + 1))
  have hk : sc.names.lookup id = some .local ∨ (false = false ∧ sc.names.lookup id = some .cell) := by
    rcases n2 with h | h | h
    · exact .inl h
    · exact .inr ⟨rfl, h⟩
    · exact absurd h m3
  refine assign_name (ownP_own sc env) n1 hk S₂ F₂ (v := .int (a + b)) .int fun s' PP F' => wpAny_pure ?_
  exact ⟨.next, _, σ₁, PP.st S₂, (StepX.of T₂).trans PP.stepX, F', .next, h₁⟩
end
end Mine
end

section
open PySem PySem.Calls PyProof.Rows PySem.W
set_option maxRecDepth 20000
namespace Mine
variable {N : Hid}
section
variable {X : Cx} {k : Nat}
theorem setAll_set {i : Nat} {v : V} : ∀ {is : List Nat} {l : List V} {ρ : List V}, i ∉ is → setAll (ρ.set i v) is l = (setAll ρ is l).set i v
  | [], l, ρ, _ => by cases l <;> rfl
  | j :: is, [], ρ, _ => rfl
  | j :: is, u :: l, ρ, h => by
    show setAll ((ρ.set i v).set j u) is l = (setAll (ρ.set j u) is l).set i v
    have ne : i ≠ j := fun e => h (e ▸ .head _)
    rw [List.set_comm _ _ ne]
    exact setAll_set fun z => h (.tail _ z)
theorem setAll_snoc {i : Nat} {v : V} : ∀ {is : List Nat} {l : List V} {ρ : List V}, l.length = is.length → setAll ρ (is ++ [i]) (l ++ [v]) = (setAll ρ is l).set i v
  | [], [], ρ, _ => rfl
  | [], _ :: _, ρ, h => by cases h
  | _ :: _, [], ρ, h => by cases h
  | j :: is, u :: l, ρ, h => setAll_snoc (is := is) (l := l) (ρ := ρ.set j u) (by simpa using h)
theorem setAll_rev : ∀ {is : List Nat} {l : List V} {ρ : List V}, is.Nodup → l.length = is.length → setAll ρ is.reverse l.reverse = setAll ρ is l
  | [], [], ρ, _, _ => rfl
  | [], _ :: _, ρ, _, h => by cases h
  | _ :: _, [], ρ, _, h => by cases h
  | i :: is, v :: l, ρ, nd, h => by
    rw [List.nodup_cons] at nd
    have hl : l.length = is.length := by simpa using h
    rw [List.reverse_cons, List.reverse_cons, setAll_snoc (by simpa using hl), setAll_rev nd.2 hl]
    exact (setAll_set nd.1).symm
theorem bind_in_order {sc : Scope} {nm : List (PySem.Str × Nat)} {env : Env} {σ : AHeap} {P : Addr → Prop} {A : Around} {loc : Bool} {Q : Unit → Shared → Prop} (O : Own P sc env loc) : ∀ {ps : List (Nat × PySem.Str)} {l : List V} {vals : List Value} {ρ : List V} {s : Shared},
    (∀ p ∈ ps, tgOk sc nm loc p.1 p.2) → l.length = ps.length → St X N σ s → FrOk X N sc nm env ρ σ s.heap → VRels (hid N σ) s.heap l vals →
    (∀ s', Pokes X N σ P s s' → FrOk X N sc nm env (setAll ρ (ps.map (·.1)) l) σ s'.heap → Q () s') → wpAny (model X.prog X.w) A (assignInOrder (ps.map fun p => bindName env p.2) vals) Q NoE s := by
  intro ps
  induction ps with
  | nil =>
    intro l vals ρ s hm hl S F Vs h
    cases l with
    | nil => cases Vs; exact wpAny_pure (h s (.refl s) F)
    | cons => cases hl
  | cons p ps ih =>
    intro l vals ρ s hm hl S F Vs h
    cases Vs with
    | nil => cases hl
    | cons v r =>
      rename_i v1 val l1 vs1
      have ht := hm p (.head _)
      show wpAny (model X.prog X.w) A (holding vs1 (bindName env p.2 val) >>= fun _ => assignInOrder (List.map (fun p => bindName env p.2) ps) vs1) Q NoE s
      refine wpAny_bind (wpAny_holding (wpAny_bindName (assign_name O ht.1 ht.2 S F v fun s' P1 F' => ?_)))
      exact ih (fun q hq => hm q (.tail _ hq)) (by simpa using hl) (P1.st S) F' (P1.vrels r) fun s'' P' F'' => h s'' (P1.trans P') F''
theorem VRels.unrev {τ : AHeap} {h : Heap} {l : List V} {vs : List Value} (x : VRels τ h l vs) : VRels τ h l.reverse vs.reverse := x.reverse
theorem unpack_any {v : V} {val : Value} {n : Nat} {l : List V} {σ : AHeap} {s : Shared} {A : Around} {Q : List Value → Shared → Prop} (hh : A.handled = none) (S : St X N σ s) (x : VRel (hid N σ) s.heap v val) (hv : v = .tup l ∨ v = .list l) (hn : l.length = n)
    (h : ∀ vals h', Heap.ExtBut s.heap.objs.size s.heap h' → VRels (hid N σ) s.heap l vals → Q vals { s with heap := h' }) : wpAny (model X.prog X.w) A (unpackItems val n none) Q NoE s := by
  rcases hv with rfl | rfl
  · cases x with
    | tup a1 a2 a3 a4 =>
      have hl := a4.length
      simp only [Array.length_toList] at hl
      rw [← hn, hl]
      exact wpAny_unpackItems_tuple hh a2 fun h' he => h _ h' he a4
  · cases x with
    | list a1 a2 a3 a4 =>
      have hl := a4.length
      simp only [Array.length_toList] at hl
      rw [← hn, hl]
      exact unpackItems_list hh a2.isList fun h' he => h _ h' he a4
theorem ext_poke {P : Addr → Prop} {σ : AHeap} {s : Shared} {h' : Heap} (S : St X N σ s) (he : Heap.ExtBut s.heap.objs.size s.heap h') : Pokes X N σ P s { s with heap := h' } := by
  have hn : s.heap.get? s.heap.objs.size = Option.none := get_ge_none (Nat.le_refl _)
  have PK : Poke X N σ s s.heap.objs.size h' := .mk' S (S.free_of_none hn) (S.H0_of_none hn) (fun z => by obtain ⟨m, o, es, ep, ho, _⟩ := S.ns; rw [← z, hn] at ho; cases ho) (.inl fun o xs n e => by rw [hn] at e; cases e) he (fun ⟨o, e⟩ => by rw [S.hid_fresh hn] at e; cases e)
  exact .step (tk := s.toks) _ PK (.inr hn) (fun o e => by rw [hn] at e; cases e) (.refl _)
theorem filter_all {α β : Type} {f : α → Option β} : ∀ {l : List α}, (l.filterMap f).length = l.length → ∀ a ∈ l, ∃ b, f a = some b
  | [], _, _, h => by cases h
  | a :: l, h, b, hb => by
    rw [List.filterMap_cons] at h
    cases e : f a with
    | none =>
      rw [e] at h
      have := List.length_filterMap_le f l
      simp only [List.length_cons] at h
      omega
    | some c =>
      rw [e] at h
      rcases List.mem_cons.mp hb with rfl | hb
      · exact ⟨c, e⟩
      · exact filter_all (by simpa using h) b hb
def nameOf : PySem.Expr → PySem.Str
  | .Name id _ => id
  | _ => nmD
theorem filter_names {f : PySem.Expr → Option PySem.Str} {P : PySem.Expr → Prop} (hf : ∀ x b, f x = some b → nameOf x = b ∧ P x) : ∀ {ts : List PySem.Expr}, (ts.filterMap f).length = ts.length → ts.filterMap f = ts.map nameOf ∧ ∀ x ∈ ts, P x
  | [], _ => ⟨rfl, fun x h => by cases h⟩
  | a :: l, h => by
    obtain ⟨b, hb⟩ := filter_all h a (.head _)
    rw [List.filterMap_cons, hb] at h
    obtain ⟨h1, h2⟩ := filter_names hf (ts := l) (by simpa using h)
    rw [List.filterMap_cons, hb, h1, List.map_cons, (hf a b hb).1]
    exact ⟨rfl, fun x hx => by
      rcases List.mem_cons.mp hx with rfl | hx
      · exact (hf _ _ hb).2
      · exact h2 x hx⟩
theorem swapped_ok {sc : Scope} {nm : List (PySem.Str × Nat)} {env : Env} {t : Tg} {tg v : PySem.Expr} (hs : env.scope = sc) (hm : matTg sc nm false t tg = true) (ho : swapOk v = true) :
    ∃ o, swappedStores [tg] v env = pure o ∧ ∀ names, o = some names → ∃ ts n p, tg = .Tuple ts n p ∧ names = ts.map nameOf ∧ ∀ x ∈ ts, ∃ id pos, x = .Name id pos ∧ sc.names.lookup id = some .local := by
  cases t <;> cases tg <;> first | (cases hm; done) | exact ⟨none, rfl, fun _ h => by cases h⟩ | skip
  rename_i is ts n p
  cases v <;> first | exact ⟨none, rfl, fun _ h => by cases h⟩ | skip
  rename_i vs n' p'
  unfold swappedStores
  dsimp only
  split
  · exact ⟨none, rfl, fun _ h => by cases h⟩
  · split
    · exact ⟨none, rfl, fun _ h => by cases h⟩
    · generalize hnames : List.filterMap _ ts = names
      split
      · exact ⟨none, rfl, fun _ h => by cases h⟩
      · rename_i hnl
        split
        · exact ⟨none, rfl, fun _ h => by cases h⟩
        · rename_i hf
          split
          · rename_i hc
            exfalso
            replace ho : (!(vs.all (constantsAlone 8)) || vs.all (foldedForSure 8)) = true := ho
            rw [hc] at ho
            simp only [Bool.not_true, Bool.false_or] at ho
            exact hf ho
          · refine ⟨some names, rfl, fun nn e => ?_⟩
            cases e
            have hlen : names.length = ts.length := by
              by_cases q : names.length = ts.length
              · exact q
              · exfalso; apply hnl; simp [q]
            rw [← hnames] at hlen ⊢
            obtain ⟨h1, h2⟩ := filter_names (P := fun x => ∃ id pos, x = .Name id pos ∧ sc.names.lookup id = some .local) (fun x b hb => by
              cases x <;> first | (cases hb; done) | skip
              rename_i id pos
              dsimp only at hb
              split at hb
              · rename_i hc
                cases hb
                simp only [Bool.and_eq_true, beq_iff_eq] at hc
                refine ⟨rfl, _, _, rfl, ?_⟩
                have := hc.1; unfold Env.kindOf at this; rw [hs] at this; exact this
              · cases hb) hlen
            exact ⟨ts, n, p, rfl, h1, h2⟩
end
end Mine
end

section
open PySem PySem.Calls PyProof.Rows PySem.W
set_option maxRecDepth 20000
namespace Mine
variable {N : Hid}
section
variable {X : Cx} {k : Nat}
theorem FrOk.pokeNe {sc : Scope} {nm : List (PySem.Str × Nat)} {env : Env} {ρ : List V} {σ : AHeap} {s : Shared} {p : Addr} {h' : Heap} (F : FrOk X N sc nm env ρ σ s.heap) (u : Poke X N σ s p h') (h1 : env.locals ≠ p) (h2 : ∀ x, sc.names.lookup x = some .cell ∨ sc.names.lookup x = some .free → ∀ c, env.cells.lookup x = some c → c ≠ p) : FrOk X N sc nm env ρ σ h' where
  scope := F.scope
  kind := F.kind
  glob := F.glob
  blt := F.blt
  ns := by
    obtain ⟨m, ⟨o, es, ep, ho, hd, r0⟩, r⟩ := F.ns
    exact ⟨m, ⟨o, es, ep, u.at_ _ _ h1 ho, hd, r0⟩, fun x i e k v q z => let ⟨val, a, b⟩ := r x i e k v q z; ⟨val, a, b.poke u⟩⟩
  cell := fun x k => by
    obtain ⟨c, ov, a, ⟨o, ho, hd⟩, d, e, r⟩ := F.cell x k
    exact ⟨c, ov, a, ⟨o, u.at_ _ _ (h2 x k c a) ho, hd⟩, d, e, fun i e v q z => let ⟨val, a, b⟩ := r i e v q z; ⟨val, a, b.poke u⟩⟩
  own := F.own
  inj := F.inj
  cinj := F.cinj
theorem Pokes.keepP {P : Addr → Prop} {σ : AHeap} {s s' : Shared} (x : Pokes X N σ P s s') {b : Addr} {o : Obj} (e : s.heap.get? b = some o) (hb : ¬ P b) : s'.heap.get? b = some o := by
  induction x with
  | refl => exact e
  | step p a b' c _ ih => exact ih (a.at_ _ _ (fun z => by
      rcases b' with ⟨h, _⟩ | h
      · exact hb (z ▸ h)
      · rw [← z, e] at h; cases h) e)
theorem each_one {sc : Scope} {nm : List (PySem.Str × Nat)} {t : Tg} {tg : PySem.Expr} (h : matTg sc nm false t tg = true) (env : Env) : (assignEach [tg] env).map (·.2) = [assign tg env] := by
  cases t <;> cases tg <;> first | (cases h; done) | rfl
theorem swaps_ok {v : PySem.Expr} (h : swapOk v = true) (tg : PySem.Expr) (line : Nat) (env : Env) : ∃ b, swapsWith v (some tg) line env = pure b ∧ (b = true → ∃ l gens sc' pos, v = .ListComp l gens sc' pos) := by
  cases v <;> first | (cases h; done) | exact ⟨false, rfl, fun h => by cases h⟩ | skip
  cases tg <;> exact ⟨_, rfl, fun _ => ⟨_, _, _, _, rfl⟩⟩
theorem pairs_of {sc : Scope} {nm : List (PySem.Str × Nat)} : ∀ {is : List Nat} {es : List PySem.Expr}, matTg.matTgs sc nm false is es = true → (∀ p ∈ is.zip (es.map nameOf), tgOk sc nm false p.1 p.2) ∧ is.length = es.length := by
  intro is
  induction is with
  | nil =>
    intro es hm
    rcases matTgs_inv hm with ⟨_, rfl⟩ | ⟨_, _, _, _, _, q, _⟩
    · exact ⟨fun p hp => (by cases hp), rfl⟩
    · cases q
  | cons i is ih =>
    intro es hm
    rcases matTgs_inv hm with ⟨q, _⟩ | ⟨i', is', id, pos, es', q, rfl, ht, hm'⟩
    · cases q
    · cases q
      obtain ⟨a, b⟩ := ih hm'
      refine ⟨fun p hp => ?_, by simp [b]⟩
      rcases List.mem_cons.mp hp with e | hp
      · subst e; exact ht
      · exact a p hp
theorem ST.asg {t : Tg} {e : E} (he : ET X k e) (hcomp : ∀ new elt gs, e = .comp new elt gs → ET X k elt ∧ GsT X k gs) : ST X k (.asg t e) := by
  intro N sc nm env x ρ σ Q A s hm hq R S F
  cases x <;> first | cases hm | skip
  rename_i tgs v pos
  rcases tgs with _ | ⟨tg, rest⟩ <;> first | cases hm | skip
  cases rest <;> first | cases hm | skip
  replace hm : (matTg sc nm false t tg && decide t.slots.Nodup && swapOk v && (notComp v || isCompE e) && matE sc nm e v) = true := hm
  simp only [Bool.and_eq_true, decide_eq_true_eq] at hm
  obtain ⟨⟨⟨⟨m1, m2⟩, m3⟩, m4⟩, m5⟩ := hm
  replace hq : wpE X k e ρ σ (fun v σ₁ => asgP t v ρ fun ρ' => Q .next ρ' σ₁) := hq
  rw [arm_exec_Assign, each_one m1 env]
  refine wpAny_bind (wpAny_standAt ?_)
  obtain ⟨b, hb, hb2⟩ := swaps_ok m3 tg pos.line env
  refine wpAny_bind (wpAny_of_eq (show swapsWithSole [tg] v pos.line env = pure b from hb) ?_)
  have T0 : ∀ {v' : V} {val : Value} {s₁ : Shared} {σ₁ : AHeap}, St X N σ₁ s₁ → Step X σ s σ₁ s₁ → VRel (hid N σ₁) s₁.heap v' val → asgP t v' ρ (fun ρ' => Q .next ρ' σ₁) → ∀ G : Unit → Shared → Prop,
      (∀ s₂ ρ', Pokes X N σ₁ (ownP sc env) s₁ s₂ → FrOk X N sc nm env ρ' σ₁ s₂.heap → Q .next ρ' σ₁ → G () s₂) → wpAny (model X.prog X.w) A (assign tg env val) G NoE s₁ := fun S₁ T₁ V₁ h₁ G hG =>
    assign_tg (ownP_own sc env) R.1 m1 S₁ (F.step S S₁ T₁) V₁ h₁ hG
  cases b with
  | false =>
    rw [if_neg (by simp)]
    refine wpAny_bind (seqE (he m5 hq R S F) fun val s₁ v' σ₁ S₁ T₁ V₁ h₁ => ?_)
    obtain ⟨o, ho, hn⟩ := swapped_ok F.scope m1 m3
    refine wpAny_bind (wpAny_of_eq ho ?_)
    cases o with
    | none =>
      show wpAny (model X.prog X.w) A (assignAll val [assign tg env] >>= fun _ => pure Flow.next) _ NoE s₁
      refine wpAny_bind (T0 S₁ T₁ V₁ h₁ _ fun s₂ ρ' PP F₂ h₂ => wpAny_pure ?_)
      exact ⟨.next, ρ', σ₁, PP.st S₁, (StepX.of T₁).trans PP.stepX, F₂, .next, h₂⟩
    | some names =>
      obtain ⟨ts, n, p, rfl, rfl, hts⟩ := hn names rfl
      cases t with
      | v i => cases m1
      | tup is =>
        replace m1 : matTg.matTgs sc nm false is ts = true := m1
        obtain ⟨hp, hpl⟩ := pairs_of m1
        obtain ⟨l, hv, hl, hq2⟩ : ∃ l, (v' = .tup l ∨ v' = .list l) ∧ l.length = is.length ∧ Q .next (setAll ρ is l) σ₁ := by
          cases v' <;> first | exact h₁.elim | skip
          · exact ⟨_, .inl rfl, h₁.1, h₁.2⟩
          · exact ⟨_, .inr rfl, h₁.1, h₁.2⟩
        show wpAny (model X.prog X.w) A (rule "assign.swapped-stores" >>= fun _ => unpackItems val (ts.map nameOf).length none >>= fun items => assignInOrder ((ts.map nameOf).reverse.map fun n => bindName env n) items.reverse >>= fun _ => pure Flow.next) _ NoE s₁
        refine wpAny_bind (wpAny_rule (wpAny_bind (unpack_any R.1 S₁ V₁ hv (by rw [List.length_map, ← hpl, hl]) fun vals h' he Vs => ?_)))
        have PP := ext_poke (P := ownP sc env) S₁ he
        have S₂ := PP.st S₁
        have F₁ := F.step S S₁ T₁
        have g : Grow X s₁.heap h' := .of_all fun b o e => he b o (Nat.ne_of_lt (Heap.lt_size e)) e
        have F₂ : FrOk X N sc nm env ρ σ₁ h' := F₁.up (g.up S₁) g.sink (hid_none.mpr ⟨S₁.hid_G, S₁.gfree⟩)
        have e1 : (is.zip (ts.map nameOf)).map (·.2) = ts.map nameOf := by rw [List.map_snd_zip]; rw [List.length_map]; omega
        have e2 : (is.zip (ts.map nameOf)).map (·.1) = is := by rw [List.map_fst_zip]; rw [List.length_map]; omega
        have e3 : ((ts.map nameOf).reverse.map fun n => bindName env n) = (is.zip (ts.map nameOf)).reverse.map fun p => bindName env p.2 := by
          have e4 : (ts.map nameOf).reverse = ((is.zip (ts.map nameOf)).reverse).map (·.2) := by rw [List.map_reverse, e1]
          rw [e4, List.map_map]
          rfl
        rw [e3]
        refine wpAny_bind (bind_in_order (l := l.reverse) (s := { s₁ with heap := h' }) (ownP_own sc env) (fun p hp' => hp p (List.mem_reverse.mp hp')) ?_ S₂ F₂ (PP.vrels Vs).reverse fun s₃ PP' F₃ => wpAny_pure ?_)
        · rw [List.length_reverse, List.length_reverse, List.length_zip, List.length_map]; omega
        · refine ⟨.next, _, σ₁, PP'.st S₂, ((StepX.of T₁).trans PP.stepX).trans PP'.stepX, F₃, .next, ?_⟩
          have m2' : is.Nodup := m2
          rw [List.map_reverse, e2, setAll_rev m2' hl]
          exact hq2
  | true =>
    obtain ⟨l, gens, sc', pos', rfl⟩ := hb2 rfl
    rw [if_pos rfl]
    have hc : isCompE e = true := by simpa [notComp] using m4
    cases e <;> first | (cases hc; done) | skip
    rename_i new elt gs
    obtain ⟨h1, h2⟩ := hcomp _ _ _ rfl
    have hfa : firstAsync gens = false := by
      obtain ⟨K, hne, hmg, hme⟩ := matComp_inv m5
      cases gens with
      | nil => exact absurd rfl hne
      | cons g r =>
        have := gens_sync hmg g (.head _)
        obtain ⟨a, b, c, d⟩ := g
        dsimp only at this
        subst this
        rfl
    have e5 : ∀ use, evalThenUse (.ListComp l gens sc' pos') env use = (comprehension (.ListComp l gens sc' pos') sc' env (firstIterPos gens pos') (newList []) (firstAsync gens) (firstIter gens env) (some use) >>= fun _ => pure ()) := fun _ => rfl
    rw [e5, hfa]
    have run := comp_run (new := new) (pos' := firstIterPos gens pos') (use := some fun v => assignAll v [assign tg env]) h1 h2 m5 hq R S F (QV := fun _ s' => PostF X N sc nm env σ s Q .next s') fun D C s' l' σ' o e => ?_
    · exact wpAny_bind (wpAny_bind (wpAny_mono run (fun _ s' h => wpAny_pure (wpAny_pure h)) fun _ _ z => z))
    · obtain ⟨v', σ₂, S₁, T₁, V₁, h₁, hC⟩ := e.value' (Heap.SameBut.refl C s'.heap)
      obtain ⟨m, nC⟩ := e.ns
      obtain ⟨oC, esC, epC, hoC, hdC, hrC⟩ := nC
      refine T0 (s₁ := s') S₁ T₁ V₁ h₁ _ fun s₂ ρ' PP F₂ h₂ => ?_
      have hPC : ¬ ownP sc env C := fun z => by
        rcases z with z | ⟨x, z1, z2⟩
        · obtain ⟨m, ⟨o', es, ep, ho, _⟩, _⟩ := F.ns
          rw [← z, e.cfree.2.2.1] at ho; cases ho
        · obtain ⟨c, ov, a, ⟨o', ho, hd⟩, _⟩ := F.cell x (.inl z1)
          rw [z2] at a; cases a
          rw [e.cfree.2.2.1] at ho; cases ho
      have hoC2 := PP.keepP hoC hPC
      refine ⟨m, ⟨oC, esC, epC, hoC2, hdC, hrC⟩, fun h' hs => ?_⟩
      have S₂ := PP.st S₁
      have PK : Poke X N σ₂ s₂ C h' := .mk' S₂ hC e.cfree.2.2.2.1 e.cfree.2.2.2.2 (.inl fun o' xs n q => by rw [hoC2] at q; cases q; rw [hdC]; nofun) (fun b o' ne q => (hs.2 b ne).trans q) fun ⟨o', q⟩ => by rw [e.cfree.2.1] at q; cases q
      refine ⟨.next, ρ', σ₂, S₂.poke (tk := s₂.toks) PK, ((StepX.of T₁).trans PP.stepX).poke (tk := s₂.toks) PK (.inr e.cfree.2.2.1), F₂.pokeNe PK (fun z => hPC (.inl z.symm)) (fun x hx c hc z => ?_), .next, h₂⟩
      subst z
      obtain ⟨c', ov, a, ⟨o', ho, hd⟩, _⟩ := F.cell x hx
      rw [hc] at a; cases a
      rw [e.cfree.2.2.1] at ho; cases ho
end
end Mine
end

section
open PySem PySem.Calls PyProof.Rows PySem.W
set_option maxRecDepth 20000
namespace Mine
variable {N : Hid}
theorem bindL_not {kindOf : PySem.Str → Option NameKind} {x : PySem.Str} : ∀ {binds : List (PySem.Str × Value)} {m : PySem.Str → Option Value}, x ∉ binds.map (·.1) → bindL kindOf binds m x = m x
  | [], m, _ => rfl
  | (n, v) :: r, m, h => by
    have h1 : x ≠ n := fun e => h (by rw [e]; exact List.mem_cons_self)
    unfold bindL
    rw [bindL_not fun z => h (List.mem_cons_of_mem _ z)]
    split
    · exact if_neg h1
    · rfl
theorem bindL_get {kindOf : PySem.Str → Option NameKind} {x : PySem.Str} {w : Value} (hx : kindOf x = some .local) : ∀ {binds : List (PySem.Str × Value)} {m : PySem.Str → Option Value}, (binds.map (·.1)).Nodup → (x, w) ∈ binds → bindL kindOf binds m x = some w
  | (n, v) :: r, m, nd, h => by
    rw [List.map_cons, List.nodup_cons] at nd
    unfold bindL
    rcases List.mem_cons.mp h with e | h
    · cases e
      rw [bindL_not nd.1, if_pos hx]
      exact if_pos rfl
    · exact bindL_get hx nd.2 h
theorem bindC_not {kindOf : PySem.Str → Option NameKind} {x : PySem.Str} : ∀ {binds : List (PySem.Str × Value)} {m : PySem.Str → Option Value}, x ∉ binds.map (·.1) → bindC kindOf binds m x = m x
  | [], m, _ => rfl
  | (n, v) :: r, m, h => by
    have h1 : x ≠ n := fun e => h (by rw [e]; exact List.mem_cons_self)
    unfold bindC
    rw [bindC_not fun z => h (List.mem_cons_of_mem _ z)]
    split
    · rfl
    · exact if_neg h1
theorem bindC_get {kindOf : PySem.Str → Option NameKind} {x : PySem.Str} {w : Value} (hx : kindOf x ≠ some .local) : ∀ {binds : List (PySem.Str × Value)} {m : PySem.Str → Option Value}, (binds.map (·.1)).Nodup → (x, w) ∈ binds → bindC kindOf binds m x = some w
  | (n, v) :: r, m, nd, h => by
    rw [List.map_cons, List.nodup_cons] at nd
    unfold bindC
    rcases List.mem_cons.mp h with e | h
    · cases e
      rw [bindC_not nd.1, if_neg hx]
      exact if_pos rfl
    · exact bindC_get hx nd.2 h
theorem call_cells {prog : Program} {w : World} {A : Around} {s : Shared} {R : Result → Shared → Prop} {a : Addr} {o : Obj} {fd : FuncData} {body : List Stmt} {vals : List Value} {binds : List (PySem.Str × Value)}
    (hroom : A.depth < recursionLimit) (ho : s.heap.get? a = some o) (hdata : o.data = .func fd) (hlim : s.heap.NoLimit) (hcd : s.heap.CodeRec fd.code fd.qualname)
    (hbody : fd.body = .stmts body) (hbind : Looks (model prog w) s.heap (bindArgs fd ⟨vals, []⟩) binds) (hclo : fd.closure = [])
    (hkind : ∀ x ∈ binds, fd.scope.names.lookup x.1 = some .local ∨ (fd.scope.names.lookup x.1 = some .cell ∧ ((cellsFrom (s.heap.objs.size + 1) fd.scope.names []).lookup x.1).isSome = true))
    (h : ∀ s₁, InCallC s (callEnvC fd s.heap.objs.size a).locals (bindL (callEnvC fd s.heap.objs.size a).kindOf binds fun _ => none) (callEnvC fd s.heap.objs.size a).cells
        (bindC (callEnvC fd s.heap.objs.size a).kindOf binds fun _ => none) s₁ →
      wpAny (model prog w) (A.deeper (callEnvC fd s.heap.objs.size a)) (execs body (callEnvC fd s.heap.objs.size a)) (fun f s' => R (.ok (.ret (match f with | .ret v => v | _ => .none))) s') NoE s₁)
    (hco : fd.scope.isCoroutine = false) (hgen : fd.scope.isGenerator = false) (hk : fd.scope.kind = .function) :
    codeAny (model prog w) A (.call (.ref a) ⟨vals, []⟩) R s := by
  refine codeAny_call_function hroom ho hdata hco hgen hbody hcd ?_
  refine hbind.here ?_
  rw [hclo]
  refine wpAny_newFunctionEnv_cells hk hkind fun env he s' x => ?_
  subst he
  exact ⟨hlim.keeps x.toInCall.keep, codeAny_func (wpAny_mono (h s' x) (fun _ _ z => z) fun _ _ z => z.elim)⟩
section
variable {X : Cx} {k : Nat}
structure FnAt (X : Cx) (f : Fn) (a : Addr) (ps : List PySem.Str) : Prop where
  obj : ∃ oc od osl fd body, X.K.lookup a = some ⟨oc, od, .func fd, osl⟩ ∧ fd.body = .stmts body ∧ matSs fd.scope f.names f.body body = true ∧ fd.closure = [] ∧ fd.globals = mainGlobals ∧ fd.builtins = builtinsNs ∧
    fd.scope.kind = .function ∧ fd.scope.isCoroutine = false ∧ fd.scope.isGenerator = false ∧ codeIn X.K fd.code fd.qualname = true ∧
    (∀ vals : List Value, vals.length = ps.length → peek X.K ⟨X.prog, X.w.params⟩ (bindArgs fd ⟨vals, []⟩) = some (ps.zip vals)) ∧
    (∀ y ∈ fd.scope.names, y.2 ≠ .free) ∧
    (∀ p ∈ ps, fd.scope.names.lookup p = some .local ∨ fd.scope.names.lookup p = some .cell)
  slots : ((f.names).map (·.2)).Nodup
  params : f.names.take ps.length = ps.zip (List.range ps.length) ∧ ps.Nodup
  np : f.np = ps.length ∧ f.np ≤ f.ns
def retQ (Q : V → AHeap → Prop) : Fl → List V → AHeap → Prop := fun fl _ σ => match fl with
  | .next => Q .none σ
  | .ret v => Q v σ
  | .brk => False
def initR (f : Fn) (args : List V) : List V := args ++ List.replicate (f.ns - f.np) .undef
theorem cellsFrom_some {x : PySem.Str} : ∀ {names : List (PySem.Str × NameKind)} {n : Nat} {acc : List (PySem.Str × Addr)}, ((x, NameKind.cell) ∈ names ∨ ∃ c, acc.lookup x = some c) → ∃ c, (cellsFrom n names acc).lookup x = some c
  | [], n, acc, h => by
    rcases h with h | h
    · cases h
    · exact h
  | (m, q) :: r, n, acc, h => by
    unfold cellsFrom
    split
    · rename_i hq
      refine cellsFrom_some ?_
      rcases h with h | ⟨c, h⟩
      · rcases List.mem_cons.mp h with e | h
        · cases e; right; exact ⟨n, by rw [List.lookup_cons, beq_self_eq_true]⟩
        · exact .inl h
      · right
        rw [List.lookup_cons]
        split
        · exact ⟨_, rfl⟩
        · exact ⟨c, h⟩
    · rename_i hq
      refine cellsFrom_some ?_
      rcases h with h | h
      · rcases List.mem_cons.mp h with e | h
        · cases e; exact absurd (beq_self_eq_true _) hq
        · exact .inl h
      · exact .inr h
theorem VRels.mem_zip {τ : AHeap} {h : Heap} {ps : List PySem.Str} {l : List V} {vals : List Value} (r : VRels τ h l vals) {i : Nat} {x : PySem.Str} {v : V} (hx : ps[i]? = some x) (hv : l[i]? = some v) : ∃ val, (x, val) ∈ ps.zip vals ∧ VRel τ h v val := by
  obtain ⟨val, e, y⟩ := r.get hv
  refine ⟨val, ?_, y⟩
  have : (ps.zip vals)[i]? = some (x, val) := by rw [List.getElem?_zip_eq_some]; exact ⟨hx, e⟩
  exact List.mem_of_getElem? this
def WCc (X : Cx) (k : Nat) (f : Value) (args : List V) (σ : AHeap) (Q : V → AHeap → Prop) : Prop :=
  ∀ N A s vals, Room k A → St X N σ s → VRels (hid N σ) s.heap args vals → codeAny (model X.prog X.w) A (.call f ⟨vals, []⟩) (fun r s' => match r with | .ok (.ret v) => PostE X N σ s Q v s' | .ok _ => False | .error e => NoE e s') s
theorem WCc.wc {f : Value} {args : List V} {σ : AHeap} {Q : V → AHeap → Prop} (h : WCc X k f args σ Q) : WC X k f args σ Q := fun N A s vals R S Vs => wpAny_call (h N A s vals R S Vs)
theorem fn_code (B : Base X) {f : Fn} {a : Addr} {ps : List PySem.Str} (FA : FnAt X f a ps) (hbody : SsT X k f.body) {args : List V} {σ : AHeap} {Q : V → AHeap → Prop} (hlen : args.length = ps.length) (h : wpSs X k f.body (initR f args) σ (retQ Q)) : WCc X (k + 1) (.ref a) args σ Q := by
  intro N A s vals R S Vs
  obtain ⟨oc, od, osl, fd, body, o1, o2, o3, o4, o5, o6, o7, o8, o9, o10, o11, o12, o13⟩ := FA.obj
  have KH := B.inK.keeps S.keep
  have hvl : vals.length = ps.length := by rw [← Vs.length, hlen]
  obtain ⟨r1, r2, r3⟩ := R
  have hpk : ∀ x ∈ ps.zip vals, x.1 ∈ ps := fun x hx => (List.of_mem_zip hx).1
  have zmap : (ps.zip vals).map (·.1) = ps := by rw [List.map_fst_zip]; omega
  refine (call_cells (by unfold recursionLimit at r2 ⊢; omega) (KH _ _ o1) rfl (B.nolimit.keeps S.keep) (codeRec_of KH o10) o2 (.of_peek KH (o11 vals hvl)) o4 (fun x hx => ?_) (fun s₁ x => ?_) o8 o9 o7)
  · rcases o13 _ (hpk x hx) with h1 | h1
    · exact .inl h1
    · obtain ⟨c, hc⟩ := cellsFrom_some (n := s.heap.objs.size + 1) (acc := []) (.inl (lookup_mem h1))
      exact .inr ⟨h1, by rw [hc]; rfl⟩
  · have keep := x.toInCall.keep
    obtain ⟨h', tk, rfl⟩ := x.toInCall.same
    have g : Grow X s.heap h' := .of_all keep
    have S₁ := S.grow (tk := tk) g
    have T₁ := Step.grow (X := X) (σ := σ) (s := s) (tk := tk) g
    have Vs₁ := Vs.up (g.up S)
    have fresh : ∀ b, s.heap.objs.size ≤ b → s.heap.get? b = none := fun b hb => get_ge_none hb
    have hL : s.heap.objs.size ≤ (callEnvC fd s.heap.objs.size a).locals := x.toInCall.fresh
    have above : ∀ n c, (callEnvC fd s.heap.objs.size a).cells.lookup n = some c → s.heap.get? c = none := fun n c hc => fresh _ (Nat.le_of_lt (Nat.lt_of_le_of_lt hL (x.above n c (mem_of_lookup hc))))
    have sl : ∀ x i, f.names.lookup x = some i → ∀ v, (initR f args)[i]? = some v → v ≠ .undef → ∃ val, (x, val) ∈ ps.zip vals ∧ VRel (hid N σ) h' v val := fun y i hy v hv hne => by
      unfold initR at hv
      have hi : i < args.length := by
        by_cases q : i < args.length
        · exact q
        · rw [List.getElem?_append_right (by omega)] at hv
          have := List.mem_of_getElem? hv
          rw [List.mem_replicate] at this
          exact absurd this.2 hne
      rw [List.getElem?_append_left hi] at hv
      have hyp : ps[i]? = some y := by
        have hm := lookup_mem hy
        have hi' : i < ps.length := by omega
        have e1 : (f.names.take ps.length)[i]? = some (ps[i], i) := by
          rw [FA.params.1, List.getElem?_zip_eq_some]
          exact ⟨by rw [List.getElem?_eq_getElem hi'], by rw [List.getElem?_range hi']⟩
        have e2 : (ps[i], i) ∈ f.names := List.mem_of_mem_take (List.mem_of_getElem? e1)
        have := snd_inj FA.slots hm e2
        rw [this, List.getElem?_eq_getElem hi']
      exact Vs₁.mem_zip hyp hv
    have F₁ : FrOk X N fd.scope f.names (callEnvC fd s.heap.objs.size a) (initR f args) σ h' := {
      scope := rfl
      kind := o7
      glob := o5
      blt := o6
      ns := ⟨_, x.toInCall.ns, fun y i hy hl v hv hne => by
        obtain ⟨val, hm, hr⟩ := sl y i hy v hv hne
        exact ⟨val, bindL_get (by show fd.scope.names.lookup y = _; exact hl) (by rw [zmap]; exact FA.params.2) hm, hr⟩⟩
      cell := fun y hy => by
        have hc' : fd.scope.names.lookup y = some .cell := by
          rcases hy with h1 | h1
          · exact h1
          · exact absurd rfl (o12 _ (lookup_mem h1))
        obtain ⟨c, hc⟩ := cellsFrom_some (n := s.heap.objs.size + 1) (acc := []) (.inl (lookup_mem hc'))
        have hc2 : (callEnvC fd s.heap.objs.size a).cells.lookup y = some c := hc
        have hn := above y c hc2
        refine ⟨c, _, hc2, x.cell y c hc2, S.hfree_of_none hn, S.H0_of_none hn, fun i hi v hv hne => ?_⟩
        obtain ⟨val, hm, hr⟩ := sl y i hi v hv hne
        exact ⟨val, bindC_get (by show fd.scope.names.lookup y ≠ _; rw [hc']; nofun) (by rw [zmap]; exact FA.params.2) hm, hr⟩
      own := ⟨S.hfree_of_none (fresh _ hL), S.H0_of_none (fresh _ hL)⟩
      inj := fun y z i hy hz => snd_inj FA.slots (lookup_mem hy) (lookup_mem hz)
      cinj := fun y z c hy hz => name_of_addr x.apart (mem_of_lookup hy) (mem_of_lookup hz) }
    have R₁ : Room k (A.deeper (callEnvC fd s.heap.objs.size a)) := ⟨r1, by show A.depth + 1 + 4 * k + 10 ≤ _; omega, by show A.units + 3 + 20 * k + 200 ≤ _; omega⟩
    refine wpAny_mono (hbody o3 h R₁ S₁ F₁) (fun fl s₂ ⟨f', ρ', σ', S₂, T₂, F₂, fr, hq⟩ => ?_) fun _ _ z => z
    have T := StepX.after T₁ T₂ (fun p hp => by
      rcases hp with rfl | ⟨y, _, hc⟩
      · exact fresh _ hL
      · exact above y p hc)
    cases fr with
    | next => exact ⟨.none, σ', S₂, T, .none, hq⟩
    | brk => exact hq.elim
    | ret v => exact ⟨_, σ', S₂, T, v, hq⟩
theorem tc_weight (C : Addr) (vals : List Value) : (Code.builtin "type.__call__" ⟨.ref C :: vals, []⟩).weight = 1 := by kernel_rfl
theorem tc_units (a : Args) : (Code.builtin "type.__call__" a).cUnits = 1 := by kernel_rfl
theorem cls_entry (B : Base X) {C fI : Addr} (hC : C ∈ clsL) (hI : meth C 27 = some fI) {args : List V} {σ : AHeap} {Q : V → AHeap → Prop}
    (h : ∀ x dx, σ x = none → σ dx = none → x ≠ dx → WCc X k (.ref fI) (.ref x :: args) (upd (upd σ dx (.sub x)) x (.inst C [])) (fun v σ' => v = .none ∧ Q (.ref x) σ')) : WC X (k + 1) (.ref C) args σ Q := by
  intro N A s vals R S Vs
  obtain ⟨c1, c2, c3, c4, c5⟩ := B.cls C hC
  obtain ⟨b1, b2, b3⟩ := B.meths C 27 fI hI
  have KH := B.inK.keeps S.keep
  have hn : s.heap.get? s.heap.objs.size = none := get_ge_none (Nat.le_refl _)
  obtain ⟨S₁, T₁⟩ := S.add (tk := s.toks) (h' := s.heap.push emptyDict) (a := s.heap.objs.size) (o := .sub (s.heap.objs.size + 1)) (ob := emptyDict) (Grow.push _ _) hn (Heap.get?_push_size _ rfl) trivial
  have hsz : (s.heap.push emptyDict).objs.size = s.heap.objs.size + 1 := Heap.size_push _ _
  have hn₁ : (s.heap.push emptyDict).get? (s.heap.objs.size + 1) = none := get_ge_none (by rw [hsz]; exact Nat.le_refl _)
  have hdx : ((s.heap.push emptyDict).push (instObj C s.heap.objs.size)).get? s.heap.objs.size = some (dictOf [] 0) := Heap.get?_push_of_some _ (Heap.get?_push_size _ rfl)
  have hx : ((s.heap.push emptyDict).push (instObj C s.heap.objs.size)).get? (s.heap.objs.size + 1) = some (instObj C s.heap.objs.size) := by
    have := Heap.get?_push_size (s.heap.push emptyDict) (o := instObj C s.heap.objs.size) rfl
    rw [hsz] at this; exact this
  have nex : s.heap.objs.size ≠ s.heap.objs.size + 1 := by omega
  obtain ⟨S₂, T₂⟩ := S₁.add (tk := s.toks) (h' := (s.heap.push emptyDict).push (instObj C s.heap.objs.size)) (a := s.heap.objs.size + 1) (o := .inst C []) (ob := instObj C s.heap.objs.size) (Grow.push _ _) hn₁ hx
    ⟨s.heap.objs.size, [], 0, hx, hid_sub.mpr ⟨S.hid_fresh hn, by rw [upd_ne nex]; exact upd_self⟩, hdx, .nil, hC, by simp, fun p hp => by cases hp⟩
  have fx : σ (s.heap.objs.size + 1) = none := by
    have := S₁.free_of_none hn₁
    rw [upd_ne (Ne.symm nex)] at this; exact this
  have T := T₁.trans T₂ S.gfree S₂.gfree
  have Vs₂ : VRels (hid N (upd (upd σ s.heap.objs.size (.sub (s.heap.objs.size + 1))) (s.heap.objs.size + 1) (.inst C []))) ((s.heap.push emptyDict).push (instObj C s.heap.objs.size)) (.ref (s.heap.objs.size + 1) :: args) (.ref (s.heap.objs.size + 1) :: vals) := .cons .ref (Vs.up (T.up S))
  have R₂ : Room k (A.under (.builtin "type.__call__" ⟨.ref C :: vals, []⟩)) := by
    obtain ⟨r1, r2, r3⟩ := R
    refine ⟨r1, ?_, ?_⟩
    · show A.depth + (Code.builtin "type.__call__" ⟨.ref C :: vals, []⟩).weight + 4 * k + 10 ≤ _
      rw [tc_weight]; omega
    · show A.units + (Code.builtin "type.__call__" ⟨.ref C :: vals, []⟩).cUnits + 20 * k + 200 ≤ _
      rw [tc_units]; omega
  have main := h _ _ fx (S.free_of_none hn) (Ne.symm nex) N _ { s with heap := (s.heap.push emptyDict).push (instObj C s.heap.objs.size) } _ R₂ S₂ Vs₂
  refine wpAny_call ?_
  obtain ⟨hh, g, d, tt, os⟩ := s
  refine make_core (makes_of KH c5) (looks_findIn KH b1) (fun self => bind_fn KH self (beq_iff_eq.mp b2)) (.inl rfl) (codeAny_mono main fun r s' z => ?_)
  rcases r with e | (v | _ | _ | _) <;> first | exact z.elim | skip
  obtain ⟨v', σ', S', T', V', rfl, hq⟩ := z
  refine ⟨V'.none_inv, ⟨.ref _, σ', S', T.trans T' S.gfree S'.gfree, .ref, hq⟩⟩
end
end Mine
end

section
open PySem PySem.Calls PyProof.Rows PySem.W
set_option maxRecDepth 20000
namespace Mine
variable {N : Hid}
def pairGt (p q : Int × Int) : Bool := decide (q.1 < p.1) || (decide (p.1 = q.1) && decide (q.2 < p.2))
section
variable {prog : Program} {w : World} {A : Around} {E : Value → Shared → Prop} {s : Shared}
theorem int_gt {a b : Int} {t u : Tok} {Q : Value → Shared → Prop} (h : Q (.bool (decide (a > b))) s) : wpAny (model prog w) A (richCompare .Gt (.int a t) (.int b u)) Q E s :=
  richCompare_gives (op := .Gt) (typeIs_int s _ t) (typeIs_int s _ u) F.slot_int_gt F.entry_int_gt (F.args_int_gt_2 _ _) (gives_int_gt _ _ t u) (fun x => nomatch x) h
theorem tuple_gt {a b : Addr} {i1 i2 j1 j2 : Int} {t1 t2 u1 u2 : Tok} {Q : Value → Shared → Prop} (ha : IsTup s.heap a #[.int i1 t1, .int i2 t2]) (hb : IsTup s.heap b #[.int j1 u1, .int j2 u2]) (hu : A.units < cLine)
    (h : Q (.bool (pairGt (i1, i2) (j1, j2))) s) : wpAny (model prog w) A (richCompare .Gt (.ref a) (.ref b)) Q E s := by
  refine wpAny_richCompare_same_or (T := "tuple") ha.typeIs hb.typeIs F.slot_tuple_gt (wpAny_call_entry F.slot_tuple_gt ha.typeIs F.entry_tuple_gt ?_ (F.args_tuple_gt_2 _ _)) (.inr hu)
  have hTb := hb.typeIs (s := s)
  show wpAny _ _ (isInstance (.ref b) (.type "tuple") >>= _) _ _ s
  refine wpAny_bind (wpAny_isInstance hTb isSubtype_tuple_tuple ?_)
  simp only [Bool.not_true, Bool.false_eq_true, if_false]
  refine wpAny_bind (tupleItemsOf_ ha ?_)
  refine wpAny_bind (tupleItemsOf_ hb ?_)
  refine wpAny_bind ?_
  show wpAny _ _ (forIn [((Value.int i1 t1), (Value.int j1 u1)), ((Value.int i2 t2), (Value.int j2 u2))] _ _) _ _ s
  rw [List.forIn_cons]
  refine wpAny_bind (wpAny_bind (wpAny_eqBool_int ?_))
  by_cases e1 : i1 = j1
  · have hb1 : (i1 == j1) = true := by simpa using e1
    rw [hb1]
    refine wpAny_pure ?_
    dsimp only
    rw [List.forIn_cons]
    refine wpAny_bind (wpAny_bind (wpAny_eqBool_int ?_))
    by_cases e2 : i2 = j2
    · have hb2 : (i2 == j2) = true := by simpa using e2
      rw [hb2]
      refine wpAny_pure ?_
      dsimp only
      rw [List.forIn_nil]
      refine wpAny_pure ?_
      refine wpAny_pure ⟨_, rfl, nofun, ?_⟩
      have : pairGt (i1, i2) (j1, j2) = false := by subst e1 e2; simp [pairGt]
      rw [this] at h
      exact h
    · have hb2 : (i2 == j2) = false := by simpa using e2
      rw [hb2]
      refine wpAny_bind (wpAny_rule (wpAny_bind (int_gt ?_)))
      refine wpAny_bind (wpAny_pure (wpAny_pure (wpAny_pure (wpAny_pure ⟨_, rfl, nofun, ?_⟩))))
      have : pairGt (i1, i2) (j1, j2) = decide (i2 > j2) := by subst e1; simp [pairGt]
      rw [this] at h
      exact h
  · have hb1 : (i1 == j1) = false := by simpa using e1
    rw [hb1]
    refine wpAny_bind (wpAny_rule (wpAny_bind (int_gt ?_)))
    refine wpAny_bind (wpAny_pure (wpAny_pure (wpAny_pure (wpAny_pure ⟨_, rfl, nofun, ?_⟩))))
    have : pairGt (i1, i2) (j1, j2) = decide (i1 > j1) := by simp [pairGt, e1]
    rw [this] at h
    exact h
end
section
variable {X : Cx} {k : Nat}
theorem pairsOf_eq : ∀ {l : List V} {x : List (Int × Int)}, pairsOf l = some x → l = x.map pairV
  | [], _, e => by cases e; rfl
  | .tup [.int i, .int j] :: r, _, e => by
    obtain ⟨y, hy, rfl⟩ := Option.map_eq_some_iff.mp e
    rw [pairsOf_eq hy]; rfl
  | .tup [] :: _, _, e => by cases e
  | .tup [.undef] :: _, _, e => by cases e
  | .int _ :: _, _, e => by cases e
  | .undef :: _, _, e => by cases e
  | .none :: _, _, e => by cases e
  | .bool _ :: _, _, e => by cases e
  | .str _ :: _, _, e => by cases e
  | .bytes _ :: _, _, e => by cases e
  | .list _ :: _, _, e => by cases e
  | .ref _ :: _, _, e => by cases e
  | .tup (a :: l) :: r, x, e => by
    cases l with
    | nil => cases a <;> cases e
    | cons b l =>
      cases a <;> cases b <;> first | (cases e; done) | skip
      cases l with
      | nil =>
        obtain ⟨y, hy, rfl⟩ := Option.map_eq_some_iff.mp (show (pairsOf r).map _ = some x from e)
        rw [pairsOf_eq hy]; rfl
      | cons => cases e
theorem pair_inv {σ : AHeap} {h : Heap} {p : Int × Int} {val : Value} (x : VRel (hid N σ) h (pairV p) val) : ∃ a t u, val = .ref a ∧ IsTup h a #[.int p.1 t, .int p.2 u] := by
  cases x with
  | tup a1 a2 a3 a4 =>
    rename_i c vs
    obtain ⟨vl⟩ := vs
    cases a4 with
    | cons v1 r1 =>
      cases r1 with
      | cons v2 r2 =>
        cases r2
        obtain ⟨t, rfl⟩ := v1.int_inv
        obtain ⟨u, rfl⟩ := v2.int_inv
        exact ⟨_, t, u, rfl, a2⟩
def bestOf : List (Int × Int) → Int × Int → Int × Int
  | [], b => b
  | p :: r, b => bestOf r (if pairGt p b = true then p else b)
theorem pairGt_le {p q : Int × Int} : pairGt p q = false ↔ pairLe p q := by
  unfold pairGt pairLe
  simp only [Bool.or_eq_false_iff, decide_eq_false_iff_not, Bool.and_eq_false_iff]
  omega
theorem pairLe_trans {p q r : Int × Int} (h : pairLe p q) (h' : pairLe q r) : pairLe p r := by unfold pairLe at *; omega
theorem pairLe_refl (p : Int × Int) : pairLe p p := by unfold pairLe; omega
theorem pairGt_ge {p q : Int × Int} (h : pairGt p q = true) : pairLe q p := by
  unfold pairGt at h
  simp only [Bool.or_eq_true, decide_eq_true_eq, Bool.and_eq_true] at h
  unfold pairLe; omega
theorem bestOf_ok : ∀ (l : List (Int × Int)) (b : Int × Int), (bestOf l b = b ∨ bestOf l b ∈ l) ∧ pairLe b (bestOf l b) ∧ ∀ q ∈ l, pairLe q (bestOf l b)
  | [], b => ⟨.inl rfl, pairLe_refl b, fun q h => by cases h⟩
  | p :: r, b => by
    unfold bestOf
    by_cases h : pairGt p b = true
    · rw [if_pos h]
      obtain ⟨a1, a2, a3⟩ := bestOf_ok r p
      refine ⟨.inr ?_, pairLe_trans (pairGt_ge h) a2, fun q hq => ?_⟩
      · rcases a1 with e | e
        · rw [e]; exact List.mem_cons_self
        · exact List.mem_cons_of_mem _ e
      · rcases List.mem_cons.mp hq with rfl | hq
        · exact a2
        · exact a3 q hq
    · rw [if_neg h]
      obtain ⟨a1, a2, a3⟩ := bestOf_ok r b
      refine ⟨?_, a2, fun q hq => ?_⟩
      · rcases a1 with e | e
        · exact .inl e
        · exact .inr (List.mem_cons_of_mem _ e)
      · rcases List.mem_cons.mp hq with rfl | hq
        · exact pairLe_trans (pairGt_le.mp (by simpa using h)) a2
        · exact a3 q hq
theorem max_loop {A : Around} {σ : AHeap} {s₀ : Shared} {c I L : Addr} {vs : Array Value} {R : Result → Shared → Prop} (hh : A.handled = none) (hu : A.units + 10 < cLine) (hl : s₀.heap.IsList c vs) (hI : s₀.heap.get? I = none) (hL : s₀.heap.get? L = none) (hIL : I ≠ L) :
    ∀ (rest : List (Int × Int)) (i : Nat) (s : Shared) (b : Int × Int) (vb : Value) (e : Nat), VRels (hid N σ) s₀.heap (rest.map pairV) (vs.toList.drop i) → VRel (hid N σ) s₀.heap (pairV b) vb → (∀ x o, s₀.heap.get? x = some o → s.heap.get? x = some o) →
      s.heap.IsListIter I c i → s.heap.get? L = some { cls := .type "list", dict := none, data := .seq #[vb, vb] e, slots := #[] } →
      (∀ val h' tk, VRel (hid N σ) s₀.heap (pairV (bestOf rest b)) val → (∀ x o, s₀.heap.get? x = some o → h'.get? x = some o) → R (.ok (.ret val)) { s with heap := h', toks := tk }) →
      codeAny (model X.prog X.w) A (.builtin "max.loop" ⟨[.ref I, .none, .ref L], []⟩) R s := by
  have hname : (toString "max" ++ toString ".loop" : String) = "max.loop" := by decide
  have neI : ∀ {x o}, s₀.heap.get? x = some o → x ≠ I := fun e z => by rw [z, hI] at e; cases e
  have neL : ∀ {x o}, s₀.heap.get? x = some o → x ≠ L := fun e z => by rw [z, hL] at e; cases e
  intro rest
  induction rest with
  | nil =>
    intro i s b vb e hr hb hk hit hS hR
    have hd : vs.toList.drop i = [] := by
      have := hr.length
      simp only [List.map_nil, List.length_nil] at this
      exact List.eq_nil_of_length_eq_zero this.symm
    have hi : vs[i]? = none := by
      have := List.drop_eq_nil_iff.mp hd
      simp only [Array.length_toList] at this
      exact Array.getElem?_eq_none this
    have hl' : s.heap.IsList c vs := by obtain ⟨o, ho, r⟩ := hl; exact ⟨o, hk _ _ ho, r⟩
    refine codeAny_builtin F.entry_max_loop ?_
    rw [Around.under_plainId F.plain_max_loop _]
    show wpAny _ A.in1 (seqItems? (.ref L) >>= _) _ _ s
    refine wpAny_bind (wpAny_seqItems hS rfl ?_)
    show wpAny _ A.in1 (tryCatch (pyNext (.ref I)) _ >>= _) _ _ s
    refine wpAny_bind (wpAny_tryCatch (wpAny_pyNext_list_end hh hit hl' hi fun h' he => ?_))
    have hS' := he L _ (Ne.symm hIL) hS
    show wpAny _ A.in1 (updateSeq L (fun _ => #[]) >>= _) _ _ _
    refine wpAny_bind ?_
    refine wpAny_updateSeq hS' rfl (wpAny_bind (wpAny_letGo (wpAny_pure ?_)))
    exact hR vb _ _ hb fun x o q => (Heap.get?_update_other _ _ (Ne.symm (neL q))).trans (he x o (neI q) (hk x o q))
  | cons p rest ih =>
    intro i s b vb e hr hb hk hit hS hR
    cases hd : vs.toList.drop i with
    | nil => rw [hd] at hr; cases hr
    | cons v vr =>
      obtain ⟨d1, d2⟩ := drop_cons hd
      rw [hd] at hr
      cases hr with
      | cons hv hr =>
        have hl' : s.heap.IsList c vs := by obtain ⟨o, ho, r⟩ := hl; exact ⟨o, hk _ _ ho, r⟩
        refine codeAny_builtin F.entry_max_loop ?_
        rw [Around.under_plainId F.plain_max_loop _]
        show wpAny _ A.in1 (seqItems? (.ref L) >>= _) _ _ s
        refine wpAny_bind (wpAny_seqItems hS rfl ?_)
        show wpAny _ A.in1 (tryCatch (pyNext (.ref I)) _ >>= _) _ _ s
        refine wpAny_bind (wpAny_tryCatch (wpAny_pyNext_list_item hit hl' (x := v) (by simpa using d1) fun h' hit' hs => ?_))
        have hS' : h'.get? L = _ := (hs.2 L (Ne.symm hIL)).trans hS
        have hk' : ∀ x o, s₀.heap.get? x = some o → h'.get? x = some o := fun x o q => (hs.2 x (neI q)).trans (hk x o q)
        obtain ⟨a1, t1, u1, rfl, k1⟩ := pair_inv hv
        obtain ⟨a2, t2, u2, rfl, k2⟩ := pair_inv hb
        have k1' : IsTup h' a1 #[.int p.1 t1, .int p.2 u1] := k1.keeps hk'
        have k2' : IsTup h' a2 #[.int b.1 t2, .int b.2 u2] := k2.keeps hk'
        show wpAny _ A.in1 (tryCatch (holding [.ref a1, .ref a1] (richCompare .Gt (.ref a1) (.ref a2) >>= _)) _ >>= _) _ _ _
        refine wpAny_bind (wpAny_tryCatch (wpAny_holding (wpAny_bind (tuple_gt (s := { s with heap := h' }) k1' k2' (by show A.units + 1 < cLine; omega) ?_))))
        refine wpAny_bind (wpAny_holding (wpAny_truthy_bool ?_))
        refine wpAny_bind (wpAny_letGo (wpAny_pure ?_))
        cases hg : pairGt (p.1, p.2) (b.1, b.2) with
        | true =>
          simp only [if_true]
          refine wpAny_bind ?_
          refine wpAny_updateSeq hS' rfl (wpAny_bind (wpAny_letGo ?_))
          rw [hname]
          refine wpAny_pure ⟨plainId_quiet F.plain_max_loop _, ih (i + 1) _ p (.ref a1) _ (by rw [d2]; exact hr) hv (fun x o q => (Heap.get?_update_other _ _ (Ne.symm (neL q))).trans (hk' x o q)) ?_ (Heap.get?_update_self _ hS' rfl) fun val h'' tk'' hv'' hk'' => ?_⟩
          · obtain ⟨o, ho, r⟩ := hit'
            exact ⟨o, (Heap.get?_update_other _ _ (Ne.symm hIL)).trans ho, r⟩
          · refine hR val h'' tk'' ?_ hk''
            unfold bestOf
            rw [if_pos hg]; exact hv''
        | false =>
          simp only [Bool.false_eq_true, if_false]
          refine wpAny_bind (wpAny_letGo ?_)
          rw [hname]
          refine wpAny_pure ⟨plainId_quiet F.plain_max_loop _, ih (i + 1) { s with heap := h' } b (.ref a2) e (by rw [d2]; exact hr) hb hk' hit' hS' fun val h'' tk'' hv'' hk'' => ?_⟩
          refine hR val h'' tk'' ?_ hk''
          unfold bestOf
          rw [if_neg (by rw [show ((p.1, p.2) : Int × Int) = p from rfl, show ((b.1, b.2) : Int × Int) = b from rfl] at hg; rw [hg]; simp)]; exact hv''
theorem max_pairs {A : Around} {σ : AHeap} {s : Shared} {c : Addr} {vs : Array Value} {p : Int × Int} {rest : List (Int × Int)} {Q : Value → Shared → Prop} (hh : A.handled = none) (hu : A.units + 20 < cLine) (hl : s.heap.IsList c vs) (hr : VRels (hid N σ) s.heap ((p :: rest).map pairV) vs.toList)
    (h : ∀ val h' tk, VRel (hid N σ) s.heap (pairV (bestOf rest p)) val → (∀ x o, s.heap.get? x = some o → h'.get? x = some o) → Q val { s with heap := h', toks := tk }) :
    wpAny (model X.prog X.w) A (call (.builtin "max") [.ref c]) Q NoE s := by
  have hname : (toString "max" ++ toString ".loop" : String) = "max.loop" := by decide
  refine call_function_tree F.kind_max F.plain_max F.entry_max (F.args_max1 _) ?_
  show wpAny _ A.in1 (Builtin.Builtins.bindParams "max" ["key", "default"] 0 ⟨[], []⟩ >>= _) _ _ s
  refine wpAny_bind (wpAny_of_eq (show Builtin.Builtins.bindParams "max" ["key", "default"] 0 ⟨[], []⟩ = pure [none, none] from rfl) ?_)
  refine wpAny_bind (wpAny_pure ?_)
  refine wpAny_bind (wpAny_pyIter_list hl ?_)
  refine wpAny_bind (wpAny_newObj_type ?_)
  rw [hname]
  have hn : s.heap.get? s.heap.objs.size = none := get_ge_none (Nat.le_refl _)
  generalize hlo : ({ cls := .type "list_iterator", data := .fields #[.ref c, .int 0 0] } : Obj) = lo
  have hsz : (s.heap.push lo).objs.size = s.heap.objs.size + 1 := Heap.size_push _ _
  dsimp only
  rw [hsz]
  have hn1 : s.heap.get? (s.heap.objs.size + 1) = none := get_ge_none (by omega)
  have nIL : s.heap.objs.size ≠ s.heap.objs.size + 1 := by omega
  have keep : ∀ b o, s.heap.get? b = some o → ((s.heap.push lo).push { cls := .type "list", data := .seq ([] : List Value).toArray }).get? b = some o := fun b o e => Heap.get?_push_of_some _ (Heap.get?_push_of_some _ e)
  have hit : ((s.heap.push lo).push { cls := .type "list", data := .seq ([] : List Value).toArray }).IsListIter s.heap.objs.size c 0 := ⟨lo, Heap.get?_push_of_some _ (Heap.get?_push_size _ (by rw [← hlo]; rfl)), by rw [← hlo], by rw [← hlo]; rfl⟩
  have hS : ((s.heap.push lo).push { cls := .type "list", data := .seq ([] : List Value).toArray }).get? (s.heap.objs.size + 1) = some { cls := .type "list", dict := none, data := .seq #[] 0, slots := #[] } := by
    have := Heap.get?_push_size (s.heap.push lo) (o := { cls := .type "list", data := .seq ([] : List Value).toArray }) rfl
    rw [hsz] at this; exact this
  generalize ((s.heap.push lo).push { cls := .type "list", data := .seq ([] : List Value).toArray }) = h₁ at keep hit hS ⊢
  cases hd : vs.toList with
  | nil => rw [hd] at hr; cases hr
  | cons v vr =>
    have hr0 := hr
    rw [hd] at hr
    cases hr with
    | cons hv hr =>
      have hl' : h₁.IsList c vs := by obtain ⟨o, ho, r⟩ := hl; exact ⟨o, keep _ _ ho, r⟩
      have d1 : vs[0]? = some v := by
        have : vs.toList[0]? = some v := by rw [hd]; rfl
        simpa using this
      refine wpAny_pure ⟨plainId_quiet F.plain_max_loop _, ?_⟩
      refine codeAny_builtin F.entry_max_loop ?_
      rw [Around.under_plainId F.plain_max_loop _]
      show wpAny _ A.in1 (seqItems? (.ref (s.heap.objs.size + 1)) >>= _) _ _ _
      refine wpAny_bind (wpAny_seqItems hS rfl ?_)
      show wpAny _ A.in1 (tryCatch (pyNext (.ref s.heap.objs.size)) _ >>= _) _ _ _
      refine wpAny_bind (wpAny_tryCatch (wpAny_pyNext_list_item hit hl' (x := v) d1 fun h' hit' hs => ?_))
      have hS' : h'.get? (s.heap.objs.size + 1) = _ := (hs.2 _ (Ne.symm nIL)).trans hS
      have k' : ∀ b o, s.heap.get? b = some o → h'.get? b = some o := fun b o e => (hs.2 b (fun z => by rw [z, hn] at e; cases e)).trans (keep b o e)
      show wpAny _ A.in1 (updateSeq (s.heap.objs.size + 1) (fun _ => #[v, v]) >>= _) _ _ _
      refine wpAny_bind ?_
      refine wpAny_updateSeq hS' rfl ?_
      rw [hname]
      refine wpAny_pure ⟨plainId_quiet F.plain_max_loop _, max_loop (N := N) (σ := σ) (s₀ := s) (c := c) (vs := vs) hh (by omega) hl hn hn1 nIL rest 1 _ p v _ (by rw [hd]; exact hr) hv (fun x o e => (Heap.get?_update_other _ _ (fun z => by rw [← z, hn1] at e; cases e)).trans (k' x o e)) ?_ (Heap.get?_update_self _ hS' rfl) fun val h'' tk hv' hk => h val h'' tk hv' hk⟩
      obtain ⟨o, ho, r⟩ := hit'
      exact ⟨o, (Heap.get?_update_other _ _ (Ne.symm nIL)).trans ho, r⟩
theorem ET.max1 (B : Base X) {a : E} (ha : ET X k a) : ET X k (.max1 a) := by
  intro N sc nm env x ρ σ Q A s hm hq R S F
  cases x <;> first | cases hm | skip
  rename_i fn xs kws pos
  cases fn <;> first | cases hm | skip
  rcases xs with _ | ⟨l, _ | ⟨_, _⟩⟩ <;> cases kws <;> first | cases hm | skip
  refine blt1 B (name := "max") (f := .builtin "max") ha (by decide) (by kernel_rfl) (by decide +kernel) (kept_b _) hm (show wpE X k a ρ σ (fun u σ₁ => max1P u σ₁ fun r => Q r σ₁) from hq) R S F
    fun val s₁ u σ₁ S₁ v h₁ => ?_
  unfold max1P at h₁
  split at h₁ <;> first | exact h₁.elim | skip
  rename_i l' e
  obtain ⟨c, vs, rfl, i1, i2, i3⟩ := asList_inv S₁ e v
  split at h₁
  · rename_i x hx
    obtain ⟨h0, hmx⟩ := h₁
    rw [intsOf_eq hx] at i3
    obtain ⟨m, news, Fm, Nw, all⟩ := ledger S₁
    refine max_list_N R.1 Fm Nw (vs := vs.toList) (by simpa using i1.isList) i3.ints h0 fun h' M t tk F' N' hM hle => ?_
    have g : Grow X s₁.heap h' := Grow.of_news Fm all F' N' fun p hp => hp
    exact ⟨_, σ₁, S₁.grow (tk := tk) g, .grow (tk := tk) g, .int, hmx M hM hle⟩
  · split at h₁ <;> first | exact h₁.elim | skip
    rename_i x hx
    obtain ⟨h0, hmx⟩ := h₁
    rw [pairsOf_eq hx] at i3
    cases x with
    | nil => cases h0
    | cons p rest =>
      obtain ⟨r1, r2, r3⟩ := R
      refine max_pairs (N := N) (σ := σ₁) r1 (by omega) i1.isList i3 fun val h' tk hv hk => ?_
      have g : Grow X s₁.heap h' := .of_all hk
      obtain ⟨b1, b2, b3⟩ := bestOf_ok rest p
      refine ⟨_, σ₁, S₁.grow (tk := tk) g, .grow (tk := tk) g, hv.up (g.up S₁), hmx _ ?_ fun q hq => ?_⟩
      · rcases b1 with e | e
        · rw [e]; exact List.mem_cons_self
        · exact List.mem_cons_of_mem _ e
      · rcases List.mem_cons.mp hq with rfl | hq
        · exact b2
        · exact b3 q hq
end
end Mine
end

section
open PySem PySem.Calls PyProof.Rows PySem.W
set_option maxRecDepth 20000
namespace Mine
def spec {α : Type} (lt : Nat → Nat → Bool) (n : Nat) : KasT α → (α → Prop) → Prop
  | .ret a, Q => Q a
  | .ask i j k, Q => i < n ∧ j < n ∧ spec lt n (k (lt i j)) Q
theorem spec_bind {α β : Type} {lt : Nat → Nat → Bool} {n : Nat} {f : α → KasT β} {Q : β → Prop} : ∀ (t : KasT α), spec lt n t (fun a => spec lt n (f a) Q) → spec lt n (t.bind f) Q
  | .ret _, h => h
  | .ask _ _ k, h => ⟨h.1, h.2.1, spec_bind (k _) h.2.2⟩
theorem spec_mono {α : Type} {lt : Nat → Nat → Bool} {n : Nat} {Q Q' : α → Prop} (hq : ∀ a, Q a → Q' a) : ∀ (t : KasT α), spec lt n t Q → spec lt n t Q'
  | .ret _, h => hq _ h
  | .ask _ _ k, h => ⟨h.1, h.2.1, spec_mono hq (k _) h.2.2⟩
theorem spec_wp {α : Type} {lt : Nat → Nat → Bool} {n : Nat} {Q : α → Prop} {cmp : Nat → Nat → (Bool → Shared → Prop) → Shared → Prop} {s : Shared} (hc : ∀ i j C, i < n → j < n → C (lt i j) s → cmp i j C s) : ∀ (t : KasT α), spec lt n t Q → t.kasWp cmp (fun a s' => s' = s ∧ Q a) s
  | .ret _, h => ⟨rfl, h⟩
  | .ask i j k, h => hc i j _ h.1 h.2.1 (spec_wp hc (k _) h.2.2)
section
variable {lt : Nat → Nat → Bool} {n : Nat}
structure Tot (lt : Nat → Nat → Bool) (n : Nat) : Prop where
  tri : ∀ i j, i < n → j < n → i ≠ j → lt i j = false → lt j i = true
  asym : ∀ i j, i < n → j < n → lt i j = true → lt j i = false
  trans : ∀ i j k, i < n → j < n → k < n → lt i j = true → lt j k = true → lt i k = true
def Ok (n : Nat) (p : Array Nat) : Prop := p.toList.Perm (List.range n)
theorem Ok.size {p : Array Nat} (h : Ok n p) : p.size = n := by have := h.length_eq; simpa using this
theorem getD_at {p : Array Nat} {t : Nat} (h : t < p.size) : p.getD t 0 = p[t] := by simp [Array.getD, h]
theorem Ok.bd {p : Array Nat} (h : Ok n p) {t : Nat} (ht : t < n) : p.getD t 0 < n := by
  have hs := h.size
  rw [getD_at (by omega)]
  have : p[t] ∈ p.toList := by simp
  have := h.mem_iff.mp this
  simpa using this
theorem Ok.ne {p : Array Nat} (h : Ok n p) {s t : Nat} (hs : s < n) (ht : t < n) (e : s ≠ t) : p.getD s 0 ≠ p.getD t 0 := by
  have hz := h.size
  rw [getD_at (by omega), getD_at (by omega)]
  have nd : p.toList.Nodup := h.nodup_iff.mpr List.nodup_range
  have key := List.pairwise_iff_getElem.mp nd
  intro q
  rcases Nat.lt_or_gt_of_ne e with h1 | h1
  · exact key s t (by simpa using (by omega : s < p.size)) (by simpa using (by omega : t < p.size)) h1 (by simpa using q)
  · exact key t s (by simpa using (by omega : t < p.size)) (by simpa using (by omega : s < p.size)) h1 (by simpa using q.symm)
def SP (lt : Nat → Nat → Bool) (p : Array Nat) (m : Nat) : Prop := ∀ t, t + 1 < m → lt (p.getD t 0) (p.getD (t + 1) 0) = true
theorem SP.far (T : Tot lt n) {p : Array Nat} (ok : Ok n p) {m : Nat} (hm : m ≤ n) (h : SP lt p m) : ∀ (d s : Nat), s + d + 1 < m → lt (p.getD s 0) (p.getD (s + d + 1) 0) = true
  | 0, s, hs => h s hs
  | d + 1, s, hs => T.trans _ _ _ (ok.bd (by omega)) (ok.bd (by omega)) (ok.bd (by omega)) (SP.far T ok hm h d s (by omega)) (h (s + d + 1) hs)
theorem SP.lt' (T : Tot lt n) {p : Array Nat} (ok : Ok n p) {m : Nat} (hm : m ≤ n) (h : SP lt p m) {s t : Nat} (hst : s < t) (ht : t < m) : lt (p.getD s 0) (p.getD t 0) = true := by
  have := SP.far T ok hm h (t - s - 1) s (by omega)
  rwa [show s + (t - s - 1) + 1 = t by omega] at this
theorem asc_ok (T : Tot lt n) {p : Array Nat} (ok : Ok n p) : ∀ (f m : Nat), 1 ≤ m → m + f = n → SP lt p m → spec lt n (kas_asc p f m) fun r => m ≤ r ∧ r ≤ n ∧ SP lt p r ∧ (r < n → lt (p.getD r 0) (p.getD (r - 1) 0) = true)
  | 0, m, h1, h2, h3 => ⟨Nat.le_refl _, by omega, h3, fun h => by omega⟩
  | f + 1, m, h1, h2, h3 => by
    refine ⟨ok.bd (by omega), ok.bd (by omega), ?_⟩
    by_cases c : lt (p.getD m 0) (p.getD (m - 1) 0) = true
    · rw [c]
      exact ⟨Nat.le_refl _, by omega, h3, fun _ => c⟩
    · have cf : lt (p.getD m 0) (p.getD (m - 1) 0) = false := by simpa using c
      rw [cf]
      refine spec_mono (fun r ⟨a, b, d, e⟩ => ⟨by omega, b, d, e⟩) _ (asc_ok T ok f (m + 1) (by omega) (by omega) fun t ht => ?_)
      by_cases e : t + 1 = m
      · subst e
        exact T.tri _ _ (ok.bd (by omega)) (ok.bd (by omega)) (ok.ne (by omega) (by omega) (by omega)) cf
      · exact h3 t (by omega)
def DP (lt : Nat → Nat → Bool) (p : Array Nat) (m : Nat) : Prop := ∀ t, t + 1 < m → lt (p.getD (t + 1) 0) (p.getD t 0) = true
theorem desc_ok (T : Tot lt n) {p : Array Nat} (ok : Ok n p) : ∀ (f m : Nat), 1 ≤ m → m + f = n → DP lt p m → spec lt n (kas_desc f p m 0) fun (r : Array Nat × Nat × Nat) => r.1 = p ∧ r.2.2 = 0 ∧ m ≤ r.2.1 ∧ r.2.1 ≤ n ∧ DP lt p r.2.1
  | 0, m, h1, h2, h3 => ⟨rfl, rfl, Nat.le_refl _, (by show m ≤ n; omega), h3⟩
  | f + 1, m, h1, h2, h3 => by
    refine ⟨ok.bd (by omega), ok.bd (by omega), ?_⟩
    by_cases c : lt (p.getD m 0) (p.getD (m - 1) 0) = true
    · rw [c]
      refine spec_mono (fun r ⟨a, b, d, e, g⟩ => ⟨a, b, by omega, e, g⟩) _ (desc_ok T ok f (m + 1) (by omega) (by omega) fun t ht => ?_)
      by_cases e : t + 1 = m
      · subst e; exact c
      · exact h3 t (by omega)
    · have cf : lt (p.getD m 0) (p.getD (m - 1) 0) = false := by simpa using c
      rw [cf]
      refine ⟨ok.bd (by omega), ok.bd (by omega), ?_⟩
      have d := T.tri _ _ (ok.bd (by omega)) (ok.bd (by omega)) (ok.ne (by omega) (by omega) (by omega)) cf
      rw [d]
      exact ⟨rfl, rfl, Nat.le_refl _, (by show m ≤ n; omega), h3⟩
theorem rev_get {p : Array Nat} {m t : Nat} (hm : m ≤ p.size) (ht : t < m) : (kas_rev p 0 m).getD t 0 = p.getD (m - 1 - t) 0 := by
  have := getElem?_mirror_all (xs := p) (i := 0) (j := m) hm t
  rw [if_pos ⟨Nat.zero_le _, ht⟩] at this
  unfold kas_rev
  have h1 : t < (mirror p 0 m ((m - 0) / 2)).size := by rw [mirror_size]; omega
  have h2 : m - 1 - t < p.size := by omega
  rw [getD_at h1, getD_at h2]
  rw [Array.getElem?_eq_getElem h1, show 0 + m - 1 - t = m - 1 - t by omega, Array.getElem?_eq_getElem h2] at this
  exact Option.some.inj this
theorem rev_ok {p : Array Nat} (ok : Ok n p) (m : Nat) : Ok n (kas_rev p 0 m) := by
  have := (mirror_perm p 0 m ((m - 0) / 2))
  exact (Array.perm_iff_toList_perm.mp this).trans ok
theorem count_ok (T : Tot lt n) {p : Array Nat} (ok : Ok n p) (hn : 2 ≤ n) : spec lt n (kas_count n p) fun r => 1 ≤ r.1 ∧ r.1 ≤ n ∧ Ok n r.2 ∧ SP lt r.2 r.1 := by
  refine spec_bind _ (spec_mono (fun m ⟨h1, h2, h3, h4⟩ => ?_) _ (asc_ok T ok (n - 1) 1 (Nat.le_refl _) (by omega) fun t ht => by omega))
  by_cases e : m = n
  · rw [if_pos (by simpa using e)]
    exact ⟨h1, h2, ok, h3⟩
  · rw [if_neg (by simpa using e)]
    by_cases e1 : m > 1
    · rw [if_pos e1]
      refine ⟨ok.bd (by omega), ok.bd (by omega), ?_⟩
      rw [SP.lt' T ok h2 h3 (by omega) (by omega)]
      exact ⟨h1, h2, ok, h3⟩
    · rw [if_neg e1]
      have hm : m = 1 := by omega
      subst hm
      have c := h4 (by omega)
      refine spec_bind _ (spec_mono (fun r ⟨a, b, d, e, g⟩ => ?_) _ (desc_ok T ok (n - 2) 2 (by omega) (by omega) fun t ht => by
        have : t = 0 := by omega
        subst this; exact c))
      rw [if_neg (by omega), a]
      have ok' := rev_ok ok r.2.1
      refine spec_bind _ (spec_mono (fun m' hm' => ?_) _ (asc_ok T ok' (n - r.2.1) r.2.1 (by omega) (by omega) fun t ht => ?_))
      · obtain ⟨k1, k2, k3, _⟩ := hm'
        exact ⟨(by show 1 ≤ m'; omega), k2, ok', k3⟩
      · have hs := ok.size
        rw [rev_get (by omega) (by omega), rev_get (by omega) (by omega)]
        have := g (r.2.1 - 1 - (t + 1)) (by omega)
        rwa [show r.2.1 - 1 - (t + 1) + 1 = r.2.1 - 1 - t by omega] at this
theorem place_ok (T : Tot lt n) {p : Array Nat} (ok : Ok n p) {k : Nat} (hk : k < n) (hp : SP lt p k) : ∀ (f l r : Nat), l ≤ r → r ≤ k → r - l ≤ f → (∀ t, t < l → lt (p.getD t 0) (p.getD k 0) = true) → (∀ t, r ≤ t → t < k → lt (p.getD k 0) (p.getD t 0) = true) →
    spec lt n (kas_place p k f l r) fun l' => l' ≤ k ∧ (∀ t, t < l' → lt (p.getD t 0) (p.getD k 0) = true) ∧ ∀ t, l' ≤ t → t < k → lt (p.getD k 0) (p.getD t 0) = true
  | 0, l, r, h1, h2, h3, h4, h5 => ⟨by omega, h4, fun t a b => h5 t (by omega) b⟩
  | f + 1, l, r, h1, h2, h3, h4, h5 => by
    unfold kas_place
    by_cases e : l ≥ r
    · rw [if_pos e]; exact ⟨by omega, h4, fun t a b => h5 t (by omega) b⟩
    · rw [if_neg e]
      have hmid : (l + r) / 2 < r := by omega
      have hmid2 : l ≤ (l + r) / 2 := by omega
      refine ⟨ok.bd hk, ok.bd (by omega), ?_⟩
      by_cases c : lt (p.getD k 0) (p.getD ((l + r) / 2) 0) = true
      · rw [c]
        refine place_ok T ok hk hp f l ((l + r) / 2) hmid2 (by omega) (by omega) h4 fun t a b => ?_
        by_cases q : t = (l + r) / 2
        · rw [q]; exact c
        · exact T.trans _ _ _ (ok.bd hk) (ok.bd (by omega)) (ok.bd (by omega)) c (SP.lt' T ok (by omega) hp (by omega) b)
      · have cf : lt (p.getD k 0) (p.getD ((l + r) / 2) 0) = false := by simpa using c
        rw [cf]
        have d := T.tri _ _ (ok.bd hk) (ok.bd (by omega)) (ok.ne hk (by omega) (by omega)) cf
        refine place_ok T ok hk hp f ((l + r) / 2 + 1) r (by omega) h2 (by omega) (fun t a => ?_) h5
        by_cases q : t = (l + r) / 2
        · rw [q]; exact d
        · exact T.trans _ _ _ (ok.bd (by omega)) (ok.bd (by omega)) (ok.bd hk) (SP.lt' T ok (by omega) hp (show t < (l + r) / 2 by omega) (by omega)) d
theorem bub_get {p : Array Nat} {k l t : Nat} (hk : k < p.size) (hl : l ≤ k) (ht : t ≤ k) : (bubble p k (k - l)).getD t 0 = if t = l then p.getD k 0 else if l < t then p.getD (t - 1) 0 else p.getD t 0 := by
  have := getElem?_bubble hk (k - l) (by omega) t
  rw [show k - (k - l) = l by omega] at this
  have h1 : t < (bubble p k (k - l)).size := by rw [bubble_size]; omega
  rw [getD_at h1]
  rw [Array.getElem?_eq_getElem h1] at this
  by_cases e : t = l
  · rw [if_pos e] at this ⊢
    rw [getD_at hk]
    rw [Array.getElem?_eq_getElem hk] at this
    exact Option.some.inj this
  · rw [if_neg e] at this ⊢
    by_cases e2 : l < t
    · rw [if_pos ⟨e2, ht⟩] at this
      rw [if_pos e2, getD_at (by omega)]
      rw [Array.getElem?_eq_getElem (by omega)] at this
      exact Option.some.inj this
    · rw [if_neg (fun h => e2 h.1)] at this
      rw [if_neg e2, getD_at (by omega)]
      rw [Array.getElem?_eq_getElem (by omega)] at this
      exact Option.some.inj this
theorem bub_ok {p : Array Nat} (ok : Ok n p) (k d : Nat) : Ok n (bubble p k d) := (Array.perm_iff_toList_perm.mp (bubble_perm p k d)).trans ok
theorem bin_ok (T : Tot lt n) : ∀ (f : Nat) {p : Array Nat} (k : Nat), Ok n p → 1 ≤ k → k + f = n → SP lt p k → spec lt n (kas_bin f p k) fun q => Ok n q ∧ SP lt q n
  | 0, p, k, ok, h1, h2, h3 => ⟨ok, by rw [show n = k by omega]; exact h3⟩
  | f + 1, p, k, ok, h1, h2, h3 => by
    refine spec_bind _ (spec_mono (fun l ⟨a, b, c⟩ => ?_) _ (place_ok T ok (by omega) h3 k 0 k (Nat.zero_le _) (Nat.le_refl _) (by omega) (fun t h => by omega) fun t a b => by omega))
    refine bin_ok T f (k + 1) (bub_ok ok _ _) (by omega) (by omega) fun t ht => ?_
    have hs := ok.size
    rw [bub_get (by omega) a (by omega), bub_get (by omega) a (by omega)]
    by_cases e1 : t = l
    · rw [if_pos e1, if_neg (by omega), if_pos (by omega)]
      subst e1
      exact c t (Nat.le_refl _) (by omega)
    · rw [if_neg e1]
      by_cases e2 : t + 1 = l
      · rw [if_neg (by omega), if_pos e2]
        exact b t (by omega)
      · rw [if_neg e2]
        by_cases e3 : l < t
        · rw [if_pos e3, if_pos (by omega)]
          have := h3 (t - 1) (by omega)
          rwa [show t - 1 + 1 = t by omega] at this
        · rw [if_neg e3, if_neg (by omega)]
          exact h3 t (by omega)
theorem sort_ok (T : Tot lt n) (hn : 2 ≤ n) : spec lt n (kas_sort n) fun q => Ok n q ∧ SP lt q n := by
  have ok0 : Ok n (List.toArray (List.range n)) := by unfold Ok; simp
  refine spec_bind _ (spec_mono (fun r ⟨a, b, c, d⟩ => ?_) _ (count_ok T ok0 hn))
  by_cases e : r.1 < n
  · rw [if_pos e, Nat.max_eq_left a]
    exact bin_ok T _ _ c a (by omega) d
  · rw [if_neg e]
    exact ⟨c, by rw [show n = r.1 by omega]; exact d⟩
end
end Mine
end

section
open PySem PySem.Calls PyProof.Rows PySem.W
set_option maxRecDepth 20000
namespace Mine
variable {N : Hid}
def pairLt (p q : Int × Int) : Bool := decide (p.1 < q.1) || (decide (p.1 = q.1) && decide (p.2 < q.2))
def ltOf (x : List (Int × Int)) (i j : Nat) : Bool := pairLt (x.getD i (0, 0)) (x.getD j (0, 0))
theorem pairLt_iff {p q : Int × Int} : pairLt p q = true ↔ p.1 < q.1 ∨ (p.1 = q.1 ∧ p.2 < q.2) := by
  unfold pairLt
  simp only [Bool.or_eq_true, decide_eq_true_eq, Bool.and_eq_true]
theorem tot_of {x : List (Int × Int)} (nd : x.Nodup) : Tot (ltOf x) x.length where
  tri := fun i j hi hj ne h => by
    have key := List.pairwise_iff_getElem.mp nd
    have hne : x[i] ≠ x[j] := by
      rcases Nat.lt_or_gt_of_ne ne with h1 | h1
      · exact key i j hi hj h1
      · exact fun q => key j i hj hi h1 q.symm
    unfold ltOf at h ⊢
    have g1 : x.getD i (0, 0) = x[i] := by simp [hi]
    have g2 : x.getD j (0, 0) = x[j] := by simp [hj]
    rw [g1, g2] at h ⊢
    have h' : ¬ pairLt x[i] x[j] = true := by rw [h]; simp
    rw [pairLt_iff] at h' ⊢
    have : x[i].1 ≠ x[j].1 ∨ x[i].2 ≠ x[j].2 := by
      by_cases q : x[i].1 = x[j].1
      · right; exact fun q2 => hne (Prod.ext q q2)
      · exact .inl q
    omega
  asym := fun i j hi hj h => by
    unfold ltOf at h ⊢
    have : ¬ pairLt (x.getD j (0, 0)) (x.getD i (0, 0)) = true := by rw [pairLt_iff] at h ⊢; omega
    simpa using this
  trans := fun i j k hi hj hk h h' => by
    unfold ltOf at h h' ⊢
    rw [pairLt_iff] at *
    omega
section
variable {prog : Program} {w : World} {A : Around} {s : Shared}
theorem lt_pairs {a b : Addr} {p q : Int × Int} {t1 t2 u1 u2 : Tok} {C : Bool → Shared → Prop} (ha : IsTup s.heap a #[.int p.1 t1, .int p.2 t2]) (hb : IsTup s.heap b #[.int q.1 u1, .int q.2 u2]) (h : C (pairLt p q) s) :
    wpAny (model prog w) A (keyLt' (tuples' true) (.ref a) (.ref b)) C (fun _ _ => False) s := by
  obtain ⟨oa, hoa, _, na, hda⟩ := ha
  obtain ⟨ob, hob, _, nb, hdb⟩ := hb
  refine kat_lt hoa hda hob hdb ?_
  show KatLex prog w A true _ C [(.int p.1 t1, .int q.1 u1), (.int p.2 t2, .int q.2 u2)] 0 s
  refine kat_cons (wpAny_eqBool_int ?_)
  by_cases e1 : p.1 = q.1
  · rw [show (p.1 == q.1) = true by simpa using e1]
    refine kat_yes (kat_cons (wpAny_eqBool_int ?_))
    by_cases e2 : p.2 = q.2
    · rw [show (p.2 == q.2) = true by simpa using e2]
      refine kat_yes (kat_nil ?_)
      have : pairLt p q = false := by unfold pairLt; simp [e1, e2]
      rw [this] at h
      exact h
    · rw [show (p.2 == q.2) = false by simpa using e2]
      refine kat_no (kat_one _ _ ?_)
      have : pairLt p q = decide (p.2 < q.2) := by unfold pairLt; simp [e1]
      rw [this] at h
      exact richCompare_gives (op := .Lt) (typeIs_int s _ _) (typeIs_int s _ _) F.slot_int_lt F.entry_int_lt (F.args_int_lt_2 _ _) (gives_int_lt _ _ _ _) (fun x => nomatch x) h
  · rw [show (p.1 == q.1) = false by simpa using e1]
    refine kat_no (oneLt_int ?_)
    have : pairLt p q = decide (p.1 < q.1) := by unfold pairLt; simp [e1]
    rw [this] at h
    exact h
end
section
variable {X : Cx} {k : Nat}
theorem firsts_of {σ : AHeap} {h : Heap} : ∀ {x : List (Int × Int)} {vs : List Value}, VRels (hid N σ) h (x.map pairV) vs → ∃ fs, KatTups h vs fs ∧ fs.length = x.length ∧ ∀ v ∈ fs, ∃ i t, v = .int i t
  | [], _, .nil => ⟨[], KatTups.nil, rfl, fun v h => by cases h⟩
  | p :: r, _, .cons y z => by
    obtain ⟨fs, h1, h2, h3⟩ := firsts_of z
    obtain ⟨a, t, u, rfl, ⟨o, ho, hc, n, hd⟩⟩ := pair_inv y
    exact ⟨_, KatTups.cons ho hc hd (by rfl) h1, by simp [h2], fun v hv => by
      rcases List.mem_cons.mp hv with e | hv
      · exact ⟨_, _, e⟩
      · exact h3 v hv⟩
theorem VRels.getD {σ : AHeap} {h : Heap} {x : List (Int × Int)} {vs : List Value} (r : VRels (hid N σ) h (x.map pairV) vs) {i : Nat} (hi : i < x.length) : VRel (hid N σ) h (pairV (x.getD i (0, 0))) (vs.getD i .none) := by
  obtain ⟨val, e, y⟩ := r.get (i := i) (v := pairV (x.getD i (0, 0))) (by rw [List.getElem?_map, List.getElem?_eq_getElem hi]; simp [hi])
  have : vs.getD i .none = val := by rw [List.getD_eq_getElem?_getD, e]; rfl
  rw [this]
  exact y
theorem VRels.pick {σ : AHeap} {h : Heap} {x : List (Int × Int)} {vs : List Value} (r : VRels (hid N σ) h (x.map pairV) vs) : ∀ {q : List Nat}, (∀ i ∈ q, i < x.length) → VRels (hid N σ) h ((q.map fun i => x.getD i (0, 0)).map pairV) (q.map fun i => vs.getD i .none)
  | [], _ => .nil
  | i :: q, hq => .cons (r.getD (hq i (.head _))) (r.pick fun j hj => hq j (.tail _ hj))
theorem map_range_getD {α : Type} {x : List α} {d : α} : (List.range x.length).map (fun i => x.getD i d) = x := by
  apply List.ext_getElem
  · simp
  · intro i h1 h2
    simp [h2]
theorem spec_wp2 {α : Type} {lt : Nat → Nat → Bool} {n : Nat} {G : α → Shared → Prop} {cmp : Nat → Nat → (Bool → Shared → Prop) → Shared → Prop} {s : Shared} (hc : ∀ i j C, i < n → j < n → C (lt i j) s → cmp i j C s) : ∀ (t : KasT α), spec lt n t (fun a => G a s) → t.kasWp cmp G s
  | .ret _, h => h
  | .ask i j k, h => hc i j _ h.1 h.2.1 (spec_wp2 hc (k _) h.2.2)
theorem sorted_pairs {A : Around} {σ : AHeap} {s : Shared} {c : Addr} {vs : Array Value} {x : List (Int × Int)} {Q : V → AHeap → Prop} (S : St X N σ s) (hl : s.heap.PlainList c vs) (hr : VRels (hid N σ) s.heap (x.map pairV) vs.toList) (h2 : 2 ≤ x.length) (h64 : x.length < 64) (nd : x.Nodup)
    (hq : ∀ y : List (Int × Int), y.Perm x → y.Pairwise pairLe → Q (.list (y.map pairV)) σ) : wpAny (model X.prog X.w) A (call (.builtin "sorted") [.ref c]) (PostE X N σ s Q) NoE s := by
  obtain ⟨m, news, Fm, Nw, all⟩ := ledger S
  have hlen := hr.length
  rw [List.length_map] at hlen
  refine kat_sorted (vs := vs.toList) Fm Nw (by simpa using hl.isList) (by omega) (by omega) fun D e1 h' F' N' hlt => ?_
  have keep : Grow X s.heap h' := Grow.of_news Fm all F' N' fun p hp => List.mem_cons_of_mem _ hp
  have hD : s.heap.get? D = none := by
    cases q : s.heap.get? D with
    | none => rfl
    | some o => exact absurd (hlt _ (all D o (N' _ (List.mem_cons_self ..)).2.1 q)) (Nat.lt_irrefl _)
  have hr' := hr.up (keep.up S)
  obtain ⟨fs, k1, k2, k3⟩ := firsts_of hr'
  refine kat_kind (T := .type "int") k1 (by omega) (fun v hv => ?_) (by decide) ?_
  · obtain ⟨i, t, rfl⟩ := k3 v hv
    exact Looks.of_pure rfl
  · have ht : ((Value.type "int") != Value.type "tuple") = true := by decide
    rw [ht]
    have sp := sort_ok (tot_of nd) h2
    rw [← hlen]
    refine spec_wp2 (s := { s with heap := h' }) (cmp := kas_ask X.prog X.w A.in1.in1 (tuples' true) vs.toList) (fun i j C hi hj hC => ?_) _ (spec_mono (fun q hs' => ?_) _ sp)
    · obtain ⟨a, t, u, e1, i1⟩ := pair_inv (hr'.getD hi)
      obtain ⟨b, t', u', e2, i2⟩ := pair_inv (hr'.getD hj)
      unfold kas_ask
      rw [e1, e2]
      exact lt_pairs (s := { s with heap := h' }) i1 i2 hC
    · obtain ⟨ok, sp'⟩ := hs'
      have hmem : ∀ i ∈ q.toList, i < x.length := fun i hi => by have := ok.mem_iff.mp hi; simpa using this
      refine KasFin.intro F' N' (.head fun p hp => Nat.ne_of_lt (hlt p hp)) fun h'' c' F'' N'' => ?_
      have g : Grow X s.heap h'' := Grow.of_news Fm all F'' N'' fun p hp => List.mem_cons_of_mem _ hp
      have ho := (N'' _ (List.mem_cons_self ..)).1
      have hp2 := hr.pick hmem
      have y1 : (q.toList.map fun i => x.getD i (0, 0)).Perm x := by
        have := ok.map (fun i => x.getD i (0, 0))
        rwa [map_range_getD] at this
      have hlen2 : ((q.toList.map fun i => x.getD i (0, 0)).map pairV).length ≤ 1000 := by
        rw [List.length_map, y1.length_eq]; omega
      refine newList_end (new := false) S (tk := s.toks) g hD ⟨c', ho⟩ ?_ ⟨hlen2, hq _ y1 ?_⟩
      · rw [List.toList_toArray]; exact hp2
      · rw [List.pairwise_iff_getElem]
        intro i j hi hj hij
        rw [List.length_map] at hi hj
        have hz := ok.size
        have := SP.lt' (tot_of nd) ok (Nat.le_refl _) sp' hij (by simpa [hz] using hj)
        rw [getD_at (by simpa using hi), getD_at (by simpa using hj)] at this
        simp only [List.getElem_map, Array.getElem_toList]
        unfold ltOf at this
        rw [pairLt_iff] at this
        unfold pairLe
        omega
theorem ET.sorted (B : Base X) {a : E} (ha : ET X k a) : ET X k (.sorted a) := by
  intro N sc nm env x ρ σ Q A s hm hq R S F
  cases x <;> first | cases hm | skip
  rename_i fn xs kws pos
  cases fn <;> first | cases hm | skip
  rcases xs with _ | ⟨l, _ | ⟨_, _⟩⟩ <;> cases kws <;> first | cases hm | skip
  refine blt1 B (name := "sorted") (f := .builtin "sorted") ha (by decide) (by kernel_rfl) (by decide +kernel) (kept_b _) hm (show wpE X k a ρ σ (fun u σ₁ => sortP u σ₁ fun r => Q r σ₁) from hq) R S F
    fun val s₁ u σ₁ S₁ v h₁ => ?_
  unfold sortP at h₁
  split at h₁ <;> first | exact h₁.elim | skip
  rename_i l' e
  obtain ⟨c, vs, rfl, i1, i2, i3⟩ := asList_inv S₁ e v
  obtain ⟨h64, h₁⟩ := h₁
  have hlen := i3.length
  split at h₁
  · rename_i x hx
    rw [intsOf_eq hx] at i3 h64 hlen
    rw [List.length_map] at h64
    obtain ⟨m, news, Fm, Nw, all⟩ := ledger S₁
    refine sorted_N Fm Nw (vs := vs.toList) (by simpa using i1.isList) i3.ints (by rw [← i3.length, List.length_map]; exact h64) fun h' vs' ns' e F' N' hI hp hs => ?_
    have g : Grow X s₁.heap h' := Grow.of_news Fm all F' N' fun p hp => List.mem_cons_of_mem _ hp
    have ho := (N' _ (List.mem_cons_self ..)).1
    have hn : s₁.heap.get? (s₁.heap.objs.size + 1) = Option.none := get_ge_none (by omega)
    refine newList_end (new := false) S₁ (tk := s₁.toks) g hn ⟨e, ho⟩ ?_ ⟨by rw [List.length_map, hp.length_eq]; omega, h₁ ns' hp hs⟩
    rw [List.toList_toArray]
    exact VRels.of_ints hI
  · split at h₁ <;> first | exact h₁.elim | skip
    rename_i x hx
    obtain ⟨h2, nd, h₁⟩ := h₁
    rw [pairsOf_eq hx] at i3 h64 h2
    rw [List.length_map] at h64 h2
    exact sorted_pairs S₁ i1 i3 h2 h64 nd h₁
end
end Mine
end

section
open PySem PySem.Calls PyProof.Rows PySem.W
set_option maxRecDepth 20000
namespace Mine
section
variable {X : Cx} {k : Nat}
mutual
theorem soundE (B : Base X) : ∀ e : E, ET X k e ∧ BT X k e
  | .v i => ⟨ET.v i, .ofET (ET.v i) fun {_ _ x} h => by cases x <;> first | rfl | (cases h; done)⟩
  | .int n => ⟨ET.int n, .ofET (ET.int n) fun {_ _ x} h => by cases x <;> first | rfl | (cases h; done)⟩
  | .bool b => ⟨ET.bool b, .ofET (ET.bool b) fun {_ _ x} h => by cases x <;> first | rfl | (cases h; done)⟩
  | .str t => ⟨ET.str t, .ofET (ET.str t) fun {_ _ x} h => by cases x <;> first | rfl | (cases h; done)⟩
  | .none => ⟨ET.none, .ofET ET.none fun {_ _ x} h => by cases x <;> first | rfl | (cases h; done)⟩
  | .neg n => ⟨ET.neg n, .ofET (ET.neg n) fun {_ _ x} h => by
      cases x <;> first | rfl | (cases h; done) | skip
      rename_i o c _
      cases o <;> first | rfl | (cases h; done)⟩
  | .nowhere => ⟨ET.nowhere B, .ofET (ET.nowhere B) fun {_ _ x} h => by cases x <;> first | rfl | (cases h; done)⟩
  | .bin op a b => have h : ET X k (.bin op a b) := ET.bin (soundE B a).1 (soundE B b).1; ⟨h, .ofET h fun {_ _ x} h => by cases x <;> first | rfl | (cases h; done)⟩
  | .cmp a op b => ⟨ET.cmp (soundE B a).1 (soundE B b).1, BT.cmp (soundE B a).1 (soundE B b).1⟩
  | .cmp2 a op b op2 c => ⟨ET.cmp2 (soundE B a).1 (soundE B b).1 (soundE B c).1, BT.cmp2 (soundE B a).1 (soundE B b).1 (soundE B c).1⟩
  | .isnone neg a => ⟨ET.isnone (soundE B a).1, BT.isnone (soundE B a).1⟩
  | .and a b => ⟨ET.and (soundE B a).1 (soundE B b).1, BT.and (soundE B a).2 (soundE B b).2⟩
  | .or a b => ⟨ET.or (soundE B a).1 (soundE B b).1, BT.or (soundE B a).2 (soundE B b).2⟩
  | .not a => ⟨ET.not (soundE B a).1, BT.not (soundE B a).2⟩
  | .ite c a b => ⟨ET.ite (soundE B c).2 (soundE B a).1 (soundE B b).1, BT.ite (soundE B c).2 (soundE B a).2 (soundE B b).2⟩
  | .idx a i => have h : ET X k (.idx a i) := ET.idx (soundE B a).1 (soundE B i).1; ⟨h, .ofET h fun {_ _ x} h => by cases x <;> first | rfl | (cases h; done)⟩
  | .last a => have h : ET X k (.last a) := ET.last (soundE B a).1; ⟨h, .ofET h fun {_ _ x} h => by cases x <;> first | rfl | (cases h; done)⟩
  | .slice a lo hi => have h : ET X k (.slice a lo hi) := ET.slice (soundE B a).1 (soundE B lo).1 (soundE B hi).1; ⟨h, .ofET h fun {_ _ x} h => by cases x <;> first | rfl | (cases h; done)⟩
  | .rev a => have h : ET X k (.rev a) := ET.rev (soundE B a).1; ⟨h, .ofET h fun {_ _ x} h => by cases x <;> first | rfl | (cases h; done)⟩
  | .attr a n => have h : ET X k (.attr a n) := ET.attr B (n := n) (soundE B a).1; ⟨h, .ofET h fun {_ _ x} h => by cases x <;> first | rfl | (cases h; done)⟩
  | .layers a => have h : ET X k (.layers a) := ET.layers B (soundE B a).1; ⟨h, .ofET h fun {_ _ x} h => by cases x <;> first | rfl | (cases h; done)⟩
  | .treesize a => have h : ET X k (.treesize a) := ET.treesize B (soundE B a).1; ⟨h, .ofET h fun {_ _ x} h => by cases x <;> first | rfl | (cases h; done)⟩
  | .tup es => have h : ET X k (.tup es) := ET.tup (soundEs B es); ⟨h, .ofET h fun {_ _ x} h => by cases x <;> first | rfl | (cases h; done)⟩
  | .lst es => have h : ET X k (.lst es) := ET.lst (soundEs B es); ⟨h, .ofET h fun {_ _ x} h => by cases x <;> first | rfl | (cases h; done)⟩
  | .nlst es => have h : ET X k (.nlst es) := ET.nlst (soundEs B es); ⟨h, .ofET h fun {_ _ x} h => by cases x <;> first | rfl | (cases h; done)⟩
  | .ndict => ⟨ET.ndict, .ofET ET.ndict fun {_ _ x} h => by cases x <;> first | rfl | (cases h; done)⟩
  | .frz a => ⟨ET.frz (soundE B a).1, fun h => by cases h⟩
  | .callf f es => have h : ET X k (.callf f es) := ET.callf B (f := f) (soundEs B es); ⟨h, .ofET h fun {_ _ x} h => by cases x <;> first | rfl | (cases h; done)⟩
  | .meth o m es => have h : ET X k (.meth o m es) := ET.meth B (m := m) (soundE B o).1 (soundEs B es); ⟨h, .ofET h fun {_ _ x} h => by cases x <;> first | rfl | (cases h; done)⟩
  | .cmeth c m es => have h : ET X k (.cmeth c m es) := ET.cmeth B (c := c) (m := m) (soundEs B es); ⟨h, .ofET h fun {_ _ x} h => by cases x <;> first | rfl | (cases h; done)⟩
  | .len a => have h : ET X k (.len a) := ET.len B (soundE B a).1; ⟨h, .ofET h fun {_ _ x} h => by cases x <;> first | rfl | (cases h; done)⟩
  | .min2 a b => have h : ET X k (.min2 a b) := ET.min2 B (soundE B a).1 (soundE B b).1; ⟨h, .ofET h fun {_ _ x} h => by cases x <;> first | rfl | (cases h; done)⟩
  | .max2 a b => have h : ET X k (.max2 a b) := ET.max2 B (soundE B a).1 (soundE B b).1; ⟨h, .ofET h fun {_ _ x} h => by cases x <;> first | rfl | (cases h; done)⟩
  | .max1 a => have h : ET X k (.max1 a) := ET.max1 B (soundE B a).1; ⟨h, .ofET h fun {_ _ x} h => by cases x <;> first | rfl | (cases h; done)⟩
  | .bytes a => have h : ET X k (.bytes a) := ET.bytes B (soundE B a).1; ⟨h, .ofET h fun {_ _ x} h => by cases x <;> first | rfl | (cases h; done)⟩
  | .tuple a => have h : ET X k (.tuple a) := ET.tuple B (soundE B a).1; ⟨h, .ofET h fun {_ _ x} h => by cases x <;> first | rfl | (cases h; done)⟩
  | .sorted a => have h : ET X k (.sorted a) := ET.sorted B (soundE B a).1; ⟨h, .ofET h fun {_ _ x} h => by cases x <;> first | rfl | (cases h; done)⟩
  | .listr it => have h : ET X k (.listr it) := ET.listr' B (soundI B it).2; ⟨h, .ofET h fun {_ _ x} h => by cases x <;> first | rfl | (cases h; done)⟩
  | .lappend o x => have h : ET X k (.lappend o x) := ET.lappend B (soundE B o).1 (soundE B x).1; ⟨h, .ofET h fun {_ _ x} h => by cases x <;> first | rfl | (cases h; done)⟩
  | .dget o key d => have h : ET X k (.dget o key d) := ET.dget B (soundE B o).1 (soundE B key).1 (soundE B d).1; ⟨h, .ofET h fun {_ _ x} h => by cases x <;> first | rfl | (cases h; done)⟩
  | .lindex o x => have h : ET X k (.lindex o x) := ET.lindex B (soundE B o).1 (soundE B x).1; ⟨h, .ofET h fun {_ _ x} h => by cases x <;> first | rfl | (cases h; done)⟩
  | .nrep x n => have h : ET X k (.nrep x n) := ET.nrep (soundE B x).1 (soundE B n).1; ⟨h, .ofET h fun {_ _ x} h => by cases x <;> first | rfl | (cases h; done)⟩
  | .ncat a b => have h : ET X k (.ncat a b) := ET.ncat (soundE B a).1 (soundE B b).1; ⟨h, .ofET h fun {_ _ x} h => by cases x <;> first | rfl | (cases h; done)⟩
  | .comp new elt gs => have h : ET X k (.comp new elt gs) := ET.comp (soundE B elt).1 (soundG B gs); ⟨h, .ofET h fun {_ _ x} h => by cases x <;> first | rfl | (cases h; done)⟩
theorem soundEs (B : Base X) : ∀ es : Es, EsT X k es
  | .nil => EsT.nil
  | .cons e r => EsT.cons (soundE B e).1 (soundEs B r)
theorem soundI (B : Base X) : ∀ it : It, IT X k it ∧ (notE it = true → RT X k it)
  | .e a => ⟨IT.e (soundE B a).1, fun h => by cases h⟩
  | .r1 a => ⟨IT.ofR (RT.r1 B (soundE B a).1), fun _ => RT.r1 B (soundE B a).1⟩
  | .r2 a b => ⟨IT.ofR (RT.r2 B (soundE B a).1 (soundE B b).1), fun _ => RT.r2 B (soundE B a).1 (soundE B b).1⟩
  | .r3 a b c => ⟨IT.ofR (RT.r3 B (soundE B a).1 (soundE B b).1 (soundE B c).1), fun _ => RT.r3 B (soundE B a).1 (soundE B b).1 (soundE B c).1⟩
theorem soundG (B : Base X) : ∀ gs : Gs, GsT X k gs
  | .nil => trivial
  | .cons t it c r => ⟨(soundI B it).1, (soundE B c).2, soundG B r⟩
end
mutual
theorem soundS (B : Base X) : ∀ st : S, ST X k st
  | .asg t e => ST.asg (soundE B e).1 fun new elt gs h => ⟨(soundE B elt).1, soundG B gs⟩
  | .setattr o n e => ST.setattr B (soundE B o).1 (soundE B e).1
  | .setidx o i e => ST.setidx (soundE B o).1 (soundE B i).1 (soundE B e).1
  | .aug i op e => ST.aug (soundE B e).1
  | .ife c a b => ST.ife (soundE B c).2 (soundSs B a) (soundSs B b)
  | .forr t it b => ST.forr (soundI B it).1 (soundSs B b)
  | .wh c b => ST.wh (soundE B c).2 (soundSs B b)
  | .ret e => ST.ret (soundE B e).1
  | .retn => ST.retn
  | .brk => ST.brk
  | .pass => ST.pass
  | .raise => ST.raise
  | .expr e => ST.expr (soundE B e).1
theorem soundSs (B : Base X) : ∀ st : Ss, SsT X k st
  | .nil => SsT.nil
  | .cons s r => SsT.cons (soundS B s) (soundSs B r)
  | .fz i r => SsT.fz (soundSs B r)
end
end
end Mine
end

section
open PySem PySem.Calls PyProof.Rows PySem.W
set_option maxRecDepth 20000
namespace Mine
def f_PlaceRow_init_b : Ss := (.cons (.ife (.cmp (.v 2) .lt (.int 1)) (.cons .raise .nil) .nil) (.cons (.setattr (.v 0) 0 (.v 1)) (.cons (.setattr (.v 0) 1 (.v 2)) (.cons (.setattr (.v 0) 2 .ndict) (.cons (.setattr (.v 0) 3 (.nrep .nowhere (.len (.v 1)))) .nil)))))
def f_PlaceRow_init : Fn := ⟨[("self", 0), ("octets", 1), ("size", 2)], 3, 3, f_PlaceRow_init_b⟩
def f_PlaceRow_key_b1 : Ss := (.cons (.asg (.v 2) (.bin .add (.bin .mul (.v 2) (.int 256)) (.v 3))) .nil)
def f_PlaceRow_key_b : Ss := (.cons (.ife (.not (.cmp2 (.int 0) .le (.v 1) .le (.len (.attr (.v 0) 0)))) (.cons .raise .nil) .nil) (.cons (.ife (.cmp (.bin .add (.v 1) (.attr (.v 0) 1)) .gt (.len (.attr (.v 0) 0))) (.cons (.ret .none) .nil) .nil) (.cons (.asg (.v 2) (.int 0)) (.cons (.forr (.v 3) (.e (.slice (.attr (.v 0) 0) (.v 1) (.bin .add (.v 1) (.attr (.v 0) 1)))) f_PlaceRow_key_b1) (.cons (.ret (.v 2)) .nil)))))
def f_PlaceRow_key : Fn := ⟨[("self", 0), ("place", 1), ("number", 2), ("octet", 3)], 2, 4, f_PlaceRow_key_b⟩
def f_PlaceRow_put_b : Ss := (.cons (.asg (.v 2) (.meth (.v 0) 14 (.cons (.v 1) .nil))) (.cons (.ife (.isnone true (.v 2)) (.cons (.setidx (.attr (.v 0) 3) (.v 1) (.dget (.attr (.v 0) 2) (.v 2) .nowhere)) (.cons (.setidx (.attr (.v 0) 2) (.v 2) (.v 1)) .nil)) .nil) .nil))
def f_PlaceRow_put : Fn := ⟨[("self", 0), ("place", 1), ("number", 2)], 2, 3, f_PlaceRow_put_b⟩
def f_PlaceRow_newest_c1 : E := (.cmp (.v 3) .ge (.v 1))
def f_PlaceRow_newest_b2 : Ss := (.cons (.asg (.v 3) (.idx (.attr (.v 0) 3) (.v 3))) .nil)
def f_PlaceRow_newest_b : Ss := (.cons (.asg (.v 2) (.meth (.v 0) 14 (.cons (.v 1) .nil))) (.cons (.ife (.isnone false (.v 2)) (.cons (.ret .nowhere) .nil) .nil) (.cons (.asg (.v 3) (.dget (.attr (.v 0) 2) (.v 2) .nowhere)) (.cons (.wh f_PlaceRow_newest_c1 f_PlaceRow_newest_b2) (.cons (.ret (.v 3)) .nil)))))
def f_PlaceRow_newest : Fn := ⟨[("self", 0), ("place", 1), ("number", 2), ("other", 3)], 2, 4, f_PlaceRow_newest_b⟩
def f_Matcher_init_b : Ss := (.cons (.ife (.cmp (.v 2) .lt (.int 1)) (.cons .raise .nil) .nil) (.cons (.ife (.cmp (.v 3) .lt (.int 1)) (.cons .raise .nil) .nil) (.cons (.ife (.cmp (.v 4) .lt (.int 1)) (.cons .raise .nil) .nil) (.cons (.setattr (.v 0) 0 (.bytes (.v 1))) (.cons (.setattr (.v 0) 4 (.v 2)) (.cons (.setattr (.v 0) 5 (.v 3)) (.cons (.setattr (.v 0) 6 (.v 4)) (.cons (.setattr (.v 0) 7 (.int 0)) .nil))))))))
def f_Matcher_init : Fn := ⟨[("self", 0), ("octets", 1), ("least", 2), ("window", 3), ("chain", 4)], 5, 5, f_Matcher_init_b⟩
def f_Matcher_put_b : Ss := (.cons (.ife (.or (.cmp (.v 1) .lt (.attr (.v 0) 7)) (.cmp (.v 1) .ge (.len (.attr (.v 0) 0)))) (.cons .raise .nil) .nil) (.cons (.setattr (.v 0) 7 (.bin .add (.v 1) (.int 1))) (.cons (.expr (.meth (.v 0) 17 (.cons (.v 1) .nil))) .nil)))
def f_Matcher_put : Fn := ⟨[("self", 0), ("place", 1)], 2, 2, f_Matcher_put_b⟩
def f_Matcher_enter_b : Ss := (.cons .pass .nil)
def f_Matcher_enter : Fn := ⟨[("self", 0), ("place", 1)], 2, 2, f_Matcher_enter_b⟩
def f_Matcher_limit_b : Ss := (.cons (.ret (.min2 (.v 2) (.bin .sub (.len (.attr (.v 0) 0)) (.v 1)))) .nil)
def f_Matcher_limit : Fn := ⟨[("self", 0), ("place", 1), ("most", 2)], 3, 3, f_Matcher_limit_b⟩
def f_Matcher_length_b : Ss := (.cons (.ife (.not (.cmp2 (.int 0) .le (.v 2) .lt (.v 1))) (.cons .raise .nil) .nil) (.cons (.ret (.meth (.v 0) 20 (.cons (.v 1) (.cons (.v 2) (.cons (.int 0) (.cons (.meth (.v 0) 18 (.cons (.v 1) (.cons (.v 3) .nil))) .nil)))))) .nil))
def f_Matcher_length : Fn := ⟨[("self", 0), ("place", 1), ("other", 2), ("most", 3)], 4, 4, f_Matcher_length_b⟩
def f_Matcher_alike_c1 : E := (.and (.cmp (.v 3) .lt (.v 4)) (.cmp (.idx (.v 5) (.bin .add (.v 1) (.v 3))) .eq (.idx (.v 5) (.bin .add (.v 2) (.v 3)))))
def f_Matcher_alike_b2 : Ss := (.cons (.aug 3 .add (.int 1)) .nil)
def f_Matcher_alike_b : Ss := (.cons (.asg (.v 5) (.attr (.v 0) 0)) (.cons (.wh f_Matcher_alike_c1 f_Matcher_alike_b2) (.cons (.ret (.v 3)) .nil)))
def f_Matcher_alike : Fn := ⟨[("self", 0), ("place", 1), ("other", 2), ("known", 3), ("limit", 4), ("octets", 5)], 5, 6, f_Matcher_alike_b⟩
def f_Matcher_is_near_b : Ss := (.cons (.ret (.and (.cmp (.v 2) .ne .nowhere) (.cmp (.bin .sub (.v 1) (.v 2)) .le (.attr (.v 0) 5)))) .nil)
def f_Matcher_is_near : Fn := ⟨[("self", 0), ("place", 1), ("other", 2)], 3, 3, f_Matcher_is_near_b⟩
def f_Matcher_every_b : Ss := (.cons (.ret (.lst .nil)) .nil)
def f_Matcher_every : Fn := ⟨[("self", 0), ("place", 1), ("most", 2)], 3, 3, f_Matcher_every_b⟩
def f_Matcher_best_b : Ss := (.cons (.asg (.v 3) (.meth (.v 0) 22 (.cons (.v 1) (.cons (.v 2) .nil)))) (.cons (.ret (.ite (.cmp (.len (.v 3)) .gt (.int 0)) (.last (.v 3)) (.tup (.cons (.int 0) (.cons (.int 0) .nil))))) .nil))
def f_Matcher_best : Fn := ⟨[("self", 0), ("place", 1), ("most", 2), ("found", 3)], 3, 4, f_Matcher_best_b⟩
def f_Finder_init_b : Ss := (.cons (.expr (.cmeth 1 27 (.cons (.v 0) (.cons (.v 1) (.cons (.v 2) (.cons (.v 3) (.cons (.v 4) .nil))))))) (.cons (.setattr (.v 0) 8 (.callf 0 (.cons (.attr (.v 0) 0) (.cons (.v 2) .nil)))) .nil))
def f_Finder_init : Fn := ⟨[("self", 0), ("octets", 1), ("least", 2), ("window", 3), ("chain", 4)], 5, 5, f_Finder_init_b⟩
def f_Finder_enter_b : Ss := (.cons (.expr (.meth (.attr (.v 0) 8) 15 (.cons (.v 1) .nil))) .nil)
def f_Finder_enter : Fn := ⟨[("self", 0), ("place", 1)], 2, 2, f_Finder_enter_b⟩
def f_Finder_candidates_c1 : E := (.and (.meth (.v 0) 21 (.cons (.v 1) (.cons (.v 3) .nil))) (.cmp (.len (.v 2)) .lt (.attr (.v 0) 6)))
def f_Finder_candidates_b2 : Ss := (.cons (.expr (.lappend (.v 2) (.v 3))) (.cons (.asg (.v 3) (.idx (.attr (.attr (.v 0) 8) 3) (.v 3))) .nil))
def f_Finder_candidates_b : Ss := (.cons (.asg (.v 2) (.nlst .nil)) (.cons (.asg (.v 3) (.meth (.attr (.v 0) 8) 16 (.cons (.v 1) .nil))) (.cons (.wh f_Finder_candidates_c1 f_Finder_candidates_b2) (.cons (.ret (.frz (.v 2))) .nil))))
def f_Finder_candidates : Fn := ⟨[("self", 0), ("place", 1), ("found", 2), ("other", 3)], 2, 4, f_Finder_candidates_b⟩
def f_Finder_every_b1 : Ss := (.cons (.ife (.cmp (.v 5) .ge (.v 4)) (.cons .brk .nil) .nil) (.cons (.ife (.cmp (.idx (.attr (.v 0) 0) (.bin .add (.v 6) (.v 5))) .eq (.idx (.attr (.v 0) 0) (.bin .add (.v 1) (.v 5)))) (.cons (.asg (.v 7) (.meth (.v 0) 20 (.cons (.v 1) (.cons (.v 6) (.cons (.int 0) (.cons (.v 4) .nil)))))) (.cons (.ife (.cmp (.v 7) .gt (.v 5)) (.cons (.expr (.lappend (.v 3) (.tup (.cons (.v 7) (.cons (.bin .sub (.v 1) (.v 6)) .nil))))) (.cons (.asg (.v 5) (.v 7)) .nil)) .nil) .nil)) .nil) .nil))
def f_Finder_every_b : Ss := (.cons (.asg (.tup [3, 4]) (.tup (.cons (.nlst .nil) (.cons (.meth (.v 0) 18 (.cons (.v 1) (.cons (.v 2) .nil))) .nil)))) (.cons (.asg (.v 5) (.bin .sub (.attr (.v 0) 4) (.int 1))) (.cons (.forr (.v 6) (.e (.meth (.v 0) 24 (.cons (.v 1) .nil))) f_Finder_every_b1) (.cons (.ret (.frz (.v 3))) .nil))))
def f_Finder_every : Fn := ⟨[("self", 0), ("place", 1), ("most", 2), ("found", 3), ("limit", 4), ("longest", 5), ("other", 6), ("count", 7)], 3, 8, f_Finder_every_b⟩
def f_TreeFinder_init_b : Ss := (.cons (.expr (.cmeth 1 27 (.cons (.v 0) (.cons (.v 1) (.cons (.v 2) (.cons (.v 3) (.cons (.v 4) .nil))))))) (.cons (.setattr (.v 0) 8 (.callf 0 (.cons (.attr (.v 0) 0) (.cons (.v 2) .nil)))) (.cons (.setattr (.v 0) 9 .ndict) (.cons (.setattr (.v 0) 10 (.nrep .nowhere (.len (.attr (.v 0) 0)))) (.cons (.setattr (.v 0) 11 (.nrep .nowhere (.len (.attr (.v 0) 0)))) .nil)))))
def f_TreeFinder_init : Fn := ⟨[("self", 0), ("octets", 1), ("least", 2), ("window", 3), ("chain", 4)], 5, 5, f_TreeFinder_init_b⟩
def f_TreeFinder_hang_b : Ss := (.cons (.ife (.v 2) (.cons (.setidx (.attr (.v 0) 11) (.v 1) (.v 3)) .nil) (.cons (.setidx (.attr (.v 0) 10) (.v 1) (.v 3)) .nil)) .nil)
def f_TreeFinder_hang : Fn := ⟨[("self", 0), ("owner", 1), ("is_greater", 2), ("place", 3)], 4, 4, f_TreeFinder_hang_b⟩
def f_TreeFinder_enter_b : Ss := (.cons (.asg (.v 2) (.meth (.attr (.v 0) 8) 14 (.cons (.v 1) .nil))) (.cons (.ife (.isnone false (.v 2)) (.cons .retn .nil) .nil) (.cons (.asg (.v 3) (.dget (.attr (.v 0) 9) (.v 2) .nowhere)) (.cons (.setidx (.attr (.v 0) 9) (.v 2) (.v 1)) (.cons (.expr (.meth (.v 0) 26 (.cons (.v 1) (.cons (.v 3) .nil)))) .nil)))))
def f_TreeFinder_enter : Fn := ⟨[("self", 0), ("place", 1), ("number", 2), ("other", 3)], 2, 4, f_TreeFinder_enter_b⟩
def f_TreeFinder_part_c1 : E := (.and (.meth (.v 0) 21 (.cons (.v 1) (.cons (.v 2) .nil))) (.cmp (.v 4) .lt (.attr (.v 0) 6)))
def f_TreeFinder_part_b2 : Ss := (.cons (.aug 4 .add (.int 1)) (.cons (.asg (.v 11) (.meth (.v 0) 20 (.cons (.v 1) (.cons (.v 2) (.cons (.min2 (.v 7) (.v 10)) (.cons (.v 3) .nil)))))) (.cons (.ife (.cmp (.v 11) .eq (.v 3)) (.cons (.expr (.meth (.v 0) 25 (.cons (.v 5) (.cons (.v 6) (.cons (.idx (.attr (.v 0) 10) (.v 2)) .nil))))) (.cons (.expr (.meth (.v 0) 25 (.cons (.v 8) (.cons (.v 9) (.cons (.idx (.attr (.v 0) 11) (.v 2)) .nil))))) (.cons .retn .nil))) .nil) (.cons (.ife (.cmp (.idx (.attr (.v 0) 0) (.bin .add (.v 2) (.v 11))) .lt (.idx (.attr (.v 0) 0) (.bin .add (.v 1) (.v 11)))) (.cons (.expr (.meth (.v 0) 25 (.cons (.v 5) (.cons (.v 6) (.cons (.v 2) .nil))))) (.cons (.asg (.tup [5, 6, 7]) (.tup (.cons (.v 2) (.cons (.bool true) (.cons (.v 11) .nil))))) (.cons (.asg (.v 2) (.idx (.attr (.v 0) 11) (.v 2))) .nil))) (.cons (.expr (.meth (.v 0) 25 (.cons (.v 8) (.cons (.v 9) (.cons (.v 2) .nil))))) (.cons (.asg (.tup [8, 9, 10]) (.tup (.cons (.v 2) (.cons (.bool false) (.cons (.v 11) .nil))))) (.cons (.asg (.v 2) (.idx (.attr (.v 0) 10) (.v 2))) .nil)))) .nil))))
def f_TreeFinder_part_b : Ss := (.cons (.asg (.tup [3, 4]) (.tup (.cons (.bin .sub (.len (.attr (.v 0) 0)) (.v 1)) (.cons (.int 0) .nil)))) (.cons (.asg (.tup [5, 6, 7]) (.tup (.cons (.v 1) (.cons (.bool false) (.cons (.int 0) .nil))))) (.cons (.asg (.tup [8, 9, 10]) (.tup (.cons (.v 1) (.cons (.bool true) (.cons (.int 0) .nil))))) (.cons (.wh f_TreeFinder_part_c1 f_TreeFinder_part_b2) (.cons (.expr (.meth (.v 0) 25 (.cons (.v 5) (.cons (.v 6) (.cons .nowhere .nil))))) (.cons (.expr (.meth (.v 0) 25 (.cons (.v 8) (.cons (.v 9) (.cons .nowhere .nil))))) .nil))))))
def f_TreeFinder_part : Fn := ⟨[("self", 0), ("place", 1), ("other", 2), ("limit", 3), ("steps", 4), ("low", 5), ("low_is_greater", 6), ("low_count", 7), ("high", 8), ("high_is_greater", 9), ("high_count", 10), ("count", 11)], 3, 12, f_TreeFinder_part_b⟩
def f_TreeFinder_every_c1 : E := (.and (.meth (.v 0) 21 (.cons (.v 1) (.cons (.v 10) .nil))) (.and (.cmp (.v 7) .lt (.attr (.v 0) 6)) (.cmp (.v 6) .lt (.v 5))))
def f_TreeFinder_every_b2 : Ss := (.cons (.aug 7 .add (.int 1)) (.cons (.asg (.v 11) (.meth (.v 0) 20 (.cons (.v 1) (.cons (.v 10) (.cons (.min2 (.v 8) (.v 9)) (.cons (.v 5) .nil)))))) (.cons (.ife (.cmp (.v 11) .gt (.v 6)) (.cons (.expr (.lappend (.v 4) (.tup (.cons (.v 11) (.cons (.bin .sub (.v 1) (.v 10)) .nil))))) (.cons (.asg (.v 6) (.v 11)) .nil)) .nil) (.cons (.ife (.cmp (.v 11) .lt (.v 5)) (.cons (.ife (.cmp (.idx (.attr (.v 0) 0) (.bin .add (.v 10) (.v 11))) .lt (.idx (.attr (.v 0) 0) (.bin .add (.v 1) (.v 11)))) (.cons (.asg (.tup [8, 10]) (.tup (.cons (.v 11) (.cons (.idx (.attr (.v 0) 11) (.v 10)) .nil)))) .nil) (.cons (.asg (.tup [9, 10]) (.tup (.cons (.v 11) (.cons (.idx (.attr (.v 0) 10) (.v 10)) .nil)))) .nil)) .nil) .nil) .nil))))
def f_TreeFinder_every_b : Ss := (.cons (.ife (.cmp (.v 1) .lt (.attr (.v 0) 7)) (.cons .raise .nil) .nil) (.cons (.asg (.v 3) (.meth (.attr (.v 0) 8) 14 (.cons (.v 1) .nil))) (.cons (.ife (.isnone false (.v 3)) (.cons (.ret (.lst .nil)) .nil) .nil) (.cons (.asg (.tup [4, 5]) (.tup (.cons (.nlst .nil) (.cons (.meth (.v 0) 18 (.cons (.v 1) (.cons (.v 2) .nil))) .nil)))) (.cons (.asg (.tup [6, 7]) (.tup (.cons (.bin .sub (.attr (.v 0) 4) (.int 1)) (.cons (.int 0) .nil)))) (.cons (.asg (.tup [8, 9]) (.tup (.cons (.int 0) (.cons (.int 0) .nil)))) (.cons (.asg (.v 10) (.dget (.attr (.v 0) 9) (.v 3) .nowhere)) (.cons (.wh f_TreeFinder_every_c1 f_TreeFinder_every_b2) (.cons (.ret (.frz (.v 4))) .nil)))))))))
def f_TreeFinder_every : Fn := ⟨[("self", 0), ("place", 1), ("most", 2), ("number", 3), ("found", 4), ("limit", 5), ("longest", 6), ("steps", 7), ("low_count", 8), ("high_count", 9), ("other", 10), ("count", 11)], 3, 12, f_TreeFinder_every_b⟩
def f_LayeredFinder_init_b : Ss := (.cons (.expr (.cmeth 1 27 (.cons (.v 0) (.cons (.v 1) (.cons (.idx (.layers (.v 0)) (.int 0)) (.cons (.v 2) (.cons (.v 3) .nil))))))) (.cons (.setattr (.v 0) 12 (.comp false (.callf 0 (.cons (.attr (.v 0) 0) (.cons (.v 4) .nil))) (.cons (.v 4) (.e (.layers (.v 0))) (.bool true) .nil))) (.cons (.setattr (.v 0) 13 (.callf 3 (.cons (.attr (.v 0) 0) (.cons (.treesize (.v 0)) (.cons (.v 2) (.cons (.v 3) .nil)))))) .nil)))
def f_LayeredFinder_init : Fn := ⟨[("self", 0), ("octets", 1), ("window", 2), ("chain", 3)], 4, 5, f_LayeredFinder_init_b⟩
def f_LayeredFinder_enter_b1 : Ss := (.cons (.expr (.meth (.v 2) 15 (.cons (.v 1) .nil))) .nil)
def f_LayeredFinder_enter_b : Ss := (.cons (.forr (.v 2) (.e (.attr (.v 0) 12)) f_LayeredFinder_enter_b1) (.cons (.expr (.meth (.attr (.v 0) 13) 15 (.cons (.v 1) .nil))) .nil))
def f_LayeredFinder_enter : Fn := ⟨[("self", 0), ("place", 1), ("row", 2)], 2, 3, f_LayeredFinder_enter_b⟩
def f_LayeredFinder_every_b1 : Ss := (.cons (.asg (.v 7) (.meth (.v 6) 16 (.cons (.v 1) .nil))) (.cons (.ife (.meth (.v 0) 21 (.cons (.v 1) (.cons (.v 7) .nil))) (.cons (.asg (.v 8) (.meth (.v 0) 20 (.cons (.v 1) (.cons (.v 7) (.cons (.int 0) (.cons (.v 3) .nil)))))) (.cons (.ife (.cmp (.v 8) .gt (.v 5)) (.cons (.expr (.lappend (.v 4) (.tup (.cons (.v 8) (.cons (.bin .sub (.v 1) (.v 7)) .nil))))) (.cons (.asg (.v 5) (.v 8)) .nil)) .nil) .nil)) .nil) .nil))
def f_LayeredFinder_every_b2 : Ss := (.cons (.ife (.cmp (.v 8) .gt (.v 5)) (.cons (.expr (.lappend (.v 4) (.tup (.cons (.v 8) (.cons (.v 9) .nil))))) (.cons (.asg (.v 5) (.v 8)) .nil)) .nil) .nil)
def f_LayeredFinder_every_b : Ss := (.cons (.asg (.v 3) (.meth (.v 0) 18 (.cons (.v 1) (.cons (.v 2) .nil)))) (.cons (.asg (.tup [4, 5]) (.tup (.cons (.nlst .nil) (.cons (.bin .sub (.attr (.v 0) 4) (.int 1)) .nil)))) (.cons (.forr (.v 6) (.e (.attr (.v 0) 12)) f_LayeredFinder_every_b1) (.cons (.forr (.tup [8, 9]) (.e (.meth (.attr (.v 0) 13) 22 (.cons (.v 1) (.cons (.v 2) .nil)))) f_LayeredFinder_every_b2) (.cons (.ret (.frz (.v 4))) .nil)))))
def f_LayeredFinder_every : Fn := ⟨[("self", 0), ("place", 1), ("most", 2), ("limit", 3), ("found", 4), ("longest", 5), ("row", 6), ("other", 7), ("count", 8), ("distance", 9)], 3, 10, f_LayeredFinder_every_b⟩
def f_finder_for_b : Ss := (.cons (.ife (.cmp (.v 0) .eq (.str "chain")) (.cons (.ret (.callf 2 (.cons (.v 1) (.cons (.v 2) (.cons (.v 3) (.cons (.v 4) .nil)))))) .nil) .nil) (.cons (.ife (.cmp (.v 0) .eq (.str "tree")) (.cons (.ret (.callf 3 (.cons (.v 1) (.cons (.v 2) (.cons (.v 3) (.cons (.v 4) .nil)))))) .nil) .nil) (.cons (.ife (.cmp (.v 0) .eq (.str "layers")) (.cons (.ret (.callf 4 (.cons (.v 1) (.cons (.v 3) (.cons (.v 4) .nil))))) .nil) .nil) (.cons .raise .nil))))
def f_finder_for : Fn := ⟨[("way", 0), ("octets", 1), ("least", 2), ("window", 3), ("chain", 4)], 5, 5, f_finder_for_b⟩
def f_law_box_b1 : Ss := (.cons (.ife (.cmp (.v 3) .ge (.bin .pow (.int 10) (.int 18))) (.cons (.asg (.v 1) (.bin .sub (.bin .add (.v 1) (.v 3)) (.bin .pow (.int 10) (.int 18)))) .nil) (.cons (.asg (.v 2) (.bin .add (.int 1) (.bin .mod (.bin .add (.bin .mul (.v 2) (.int 1009)) (.v 3)) (.int 2147483629)))) .nil)) .nil)
def f_law_box_b : Ss := (.cons (.asg (.tup [1, 2]) (.tup (.cons (.int 0) (.cons (.int 1) .nil)))) (.cons (.forr (.v 3) (.e (.slice (.v 0) .none (.int 30))) f_law_box_b1) (.cons (.ret (.nlst (.cons (.v 1) (.cons (.v 2) .nil)))) .nil)))
def f_law_box : Fn := ⟨[("script", 0), ("digits", 1), ("state", 2), ("cell", 3)], 1, 4, f_law_box_b⟩
def f_law_take_b : Ss := (.cons (.ife (.cmp (.idx (.v 0) (.int 0)) .gt (.int 0)) (.cons (.asg (.v 2) (.bin .mod (.idx (.v 0) (.int 0)) (.v 1))) (.cons (.setidx (.v 0) (.int 0) (.bin .fdiv (.idx (.v 0) (.int 0)) (.v 1))) (.cons (.ret (.v 2)) .nil))) .nil) (.cons (.setidx (.v 0) (.int 1) (.bin .mod (.bin .mul (.idx (.v 0) (.int 1)) (.int 48271)) (.int 2147483647))) (.cons (.ret (.bin .mod (.bin .fdiv (.idx (.v 0) (.int 1)) (.int 1024)) (.v 1))) .nil)))
def f_law_take : Fn := ⟨[("box", 0), ("many", 1), ("digit", 2)], 2, 3, f_law_take_b⟩
def f_law_text_c1 : E := (.cmp (.len (.v 3)) .lt (.v 1))
def f_law_text_b2 : Ss := (.cons (.ife (.cmp (.callf 7 (.cons (.v 0) (.cons (.int 3) .nil))) .gt (.int 0)) (.cons (.asg (.v 4) (.callf 7 (.cons (.v 0) (.cons (.len (.v 3)) .nil)))) (.cons (.asg (.v 3) (.ncat (.v 3) (.slice (.v 3) (.v 4) (.bin .add (.bin .add (.v 4) (.int 2)) (.callf 7 (.cons (.v 0) (.cons (.int 4) .nil))))))) .nil)) (.cons (.expr (.lappend (.v 3) (.idx (.lst (.cons (.int 97) (.cons (.int 0) (.cons (.int 255) .nil)))) (.callf 7 (.cons (.v 0) (.cons (.v 2) .nil)))))) .nil)) .nil)
def f_law_text_b : Ss := (.cons (.asg (.v 2) (.idx (.lst (.cons (.int 3) (.cons (.int 2) (.cons (.int 3) (.cons (.int 2) (.cons (.int 1) .nil)))))) (.callf 7 (.cons (.v 0) (.cons (.int 5) .nil))))) (.cons (.asg (.v 3) (.comp true (.idx (.lst (.cons (.int 97) (.cons (.int 0) (.cons (.int 255) .nil)))) (.callf 7 (.cons (.v 0) (.cons (.v 2) .nil)))) (.cons (.v 5) (.r1 (.bin .add (.int 2) (.callf 7 (.cons (.v 0) (.cons (.int 2) .nil))))) (.bool true) .nil))) (.cons (.wh f_law_text_c1 f_law_text_b2) (.cons (.ret (.bytes (.slice (.v 3) .none (.v 1)))) .nil))))
def f_law_text : Fn := ⟨[("box", 0), ("room", 1), ("letters", 2), ("found", 3), ("begin", 4)], 2, 6, f_law_text_b⟩
def f_law_numbers_b1 : Ss := (.cons (.asg (.v 2) (.bin .add (.bin .mul (.bin .add (.v 4) (.int 1)) (.v 3)) (.bin .fdiv (.v 2) (.int 257)))) (.cons (.expr (.lappend (.v 1) (.v 2))) .nil))
def f_law_numbers_b : Ss := (.cons (.asg (.tup [1, 2, 3]) (.tup (.cons (.nlst .nil) (.cons (.int 0) (.cons (.bin .pow (.int 257) (.bin .sub (.len (.v 0)) (.int 1))) .nil))))) (.cons (.forr (.v 4) (.e (.rev (.v 0))) f_law_numbers_b1) (.cons (.ret (.rev (.v 1))) .nil)))
def f_law_numbers : Fn := ⟨[("text", 0), ("found", 1), ("value", 2), ("weight", 3), ("octet", 4)], 1, 5, f_law_numbers_b⟩
def f_law_common_c1 : E := (.cmp (.bin .fdiv (.v 0) (.bin .pow (.int 257) (.bin .sub (.bin .sub (.v 2) (.v 3)) (.int 1)))) .eq (.bin .fdiv (.v 1) (.bin .pow (.int 257) (.bin .sub (.bin .sub (.v 2) (.v 3)) (.int 1)))))
def f_law_common_b2 : Ss := (.cons (.asg (.v 3) (.bin .add (.v 3) (.int 1))) .nil)
def f_law_common_b : Ss := (.cons (.asg (.v 3) (.int 0)) (.cons (.wh f_law_common_c1 f_law_common_b2) (.cons (.ret (.v 3)) .nil)))
def f_law_common : Fn := ⟨[("one", 0), ("two", 1), ("size", 2), ("count", 3)], 3, 4, f_law_common_b⟩
def f_law_order_b : Ss := (.cons (.asg (.tup [1, 2]) (.tup (.cons (.len (.v 0)) (.cons (.callf 9 (.cons (.v 0) .nil)) .nil)))) (.cons (.asg (.v 3) (.comp false (.v 5) (.cons (.tup [4, 5]) (.e (.sorted (.comp false (.tup (.cons (.idx (.v 2) (.v 6)) (.cons (.v 6) .nil))) (.cons (.v 6) (.r1 (.v 1)) (.bool true) .nil)))) (.bool true) .nil))) (.cons (.ret (.tup (.cons (.v 3) (.cons (.comp false (.callf 10 (.cons (.idx (.v 2) (.idx (.v 3) (.v 7))) (.cons (.idx (.v 2) (.idx (.v 3) (.bin .add (.v 7) (.int 1)))) (.cons (.v 1) .nil)))) (.cons (.v 7) (.r1 (.bin .sub (.v 1) (.int 1))) (.bool true) .nil)) .nil)))) .nil)))
def f_law_order : Fn := ⟨[("text", 0), ("size", 1), ("numbers", 2), ("order", 3)], 1, 8, f_law_order_b⟩
def f_law_sides_b1 : Ss := (.cons (.asg (.v 7) (.min2 (.v 7) (.idx (.v 1) (.v 9)))) (.cons (.asg (.v 10) (.ite (.cmp (.v 9) .lt (.v 4)) (.idx (.v 0) (.v 9)) (.idx (.v 0) (.bin .add (.v 9) (.int 1))))) (.cons (.ife (.cmp2 (.int 0) .lt (.bin .sub (.v 2) (.v 10)) .le (.v 3)) (.cons (.expr (.lappend (.v 8) (.tup (.cons (.v 7) (.cons (.v 10) .nil))))) .nil) .nil) .nil)))
def f_law_sides_b2 : Ss := (.cons (.asg (.tup [7, 8]) (.tup (.cons (.len (.v 0)) (.cons (.nlst .nil) .nil)))) (.cons (.forr (.v 9) (.e (.v 6)) f_law_sides_b1) (.cons (.expr (.lappend (.v 5) (.frz (.v 8)))) .nil)))
def f_law_sides_b : Ss := (.cons (.asg (.tup [4, 5]) (.tup (.cons (.lindex (.v 0) (.v 2)) (.cons (.nlst .nil) .nil)))) (.cons (.forr (.v 6) (.e (.lst (.cons (.listr (.r3 (.bin .sub (.v 4) (.int 1)) (.neg 1) (.neg 1))) (.cons (.listr (.r2 (.v 4) (.len (.v 1)))) .nil)))) f_law_sides_b2) (.cons (.ret (.frz (.v 5))) .nil)))
def f_law_sides : Fn := ⟨[("order", 0), ("near", 1), ("place", 2), ("window", 3), ("row", 4), ("sides", 5), ("gaps", 6), ("common", 7), ("side", 8), ("gap", 9), ("other", 10)], 4, 11, f_law_sides_b⟩
def f_law_longest_b : Ss := (.cons (.asg (.v 3) (.max1 (.bin .add (.lst (.cons (.int 0) .nil)) (.comp false (.idx (.idx (.v 4) (.int 0)) (.int 0)) (.cons (.v 4) (.e (.v 0)) (.cmp (.v 4) .ne (.lst .nil)) .nil))))) (.cons (.ife (.cmp (.v 3) .lt (.v 2)) (.cons (.ret (.tup (.cons (.int 0) (.cons (.int 0) .nil)))) .nil) .nil) (.cons (.ret (.tup (.cons (.v 3) (.cons (.bin .sub (.v 1) (.max1 (.comp false (.v 7) (.cons (.v 5) (.e (.v 0)) (.bool true) (.cons (.tup [6, 7]) (.e (.v 5)) (.cmp (.v 6) .eq (.v 3)) .nil))))) .nil)))) .nil)))
def f_law_longest : Fn := ⟨[("sides", 0), ("place", 1), ("shortest", 2), ("length", 3)], 3, 8, f_law_longest_b⟩
def f_law_outwards_b1 : Ss := (.cons (.asg (.v 7) (.comp false (.tup (.cons (.v 11) (.cons (.v 10) .nil))) (.cons (.tup [10, 11]) (.e (.v 4)) (.cmp (.v 10) .ge (.v 6)) .nil))) (.cons (.ife (.cmp (.v 7) .eq (.lst .nil)) (.cons .brk .nil) .nil) (.cons (.asg (.tup [8, 9]) (.max1 (.v 7))) (.cons (.ife (.or (.cmp (.v 5) .eq (.lst .nil)) (.cmp (.idx (.last (.v 5)) (.int 1)) .ne (.bin .sub (.v 1) (.v 8)))) (.cons (.expr (.lappend (.v 5) (.tup (.cons (.min2 (.v 9) (.v 3)) (.cons (.bin .sub (.v 1) (.v 8)) .nil))))) .nil) .nil) .nil))))
def f_law_outwards_b : Ss := (.cons (.asg (.tup [4, 5]) (.tup (.cons (.bin .add (.idx (.v 0) (.int 0)) (.idx (.v 0) (.int 1))) (.cons (.nlst .nil) .nil)))) (.cons (.forr (.v 6) (.r2 (.v 2) (.bin .add (.v 3) (.int 1))) f_law_outwards_b1) (.cons (.ret (.frz (.v 5))) .nil)))
def f_law_outwards : Fn := ⟨[("sides", 0), ("place", 1), ("shortest", 2), ("most", 3), ("both", 4), ("found", 5), ("length", 6), ("some", 7), ("other", 8), ("common", 9)], 4, 12, f_law_outwards_b⟩
def f_law_pairs_right_b1 : Ss := (.cons (.asg (.v 5) (.min2 (.v 5) (.idx (.v 2) (.bin .sub (.v 6) (.int 1))))) (.cons (.asg (.tup [7, 8]) (.tup (.cons (.idx (.v 1) (.v 4)) (.cons (.idx (.v 1) (.v 6)) .nil)))) (.cons (.ife (.cmp (.meth (.v 0) 19 (.cons (.max2 (.v 7) (.v 8)) (.cons (.min2 (.v 7) (.v 8)) (.cons (.v 3) .nil)))) .ne (.min2 (.v 5) (.v 3))) (.cons (.ret (.bool false)) .nil) .nil) .nil)))
def f_law_pairs_right_b2 : Ss := (.cons (.asg (.v 5) (.len (.v 1))) (.cons (.forr (.v 6) (.r2 (.bin .add (.v 4) (.int 1)) (.len (.v 1))) f_law_pairs_right_b1) .nil))
def f_law_pairs_right_b : Ss := (.cons (.forr (.v 4) (.r1 (.len (.v 1))) f_law_pairs_right_b2) (.cons (.ret (.bool true)) .nil))
def f_law_pairs_right : Fn := ⟨[("finder", 0), ("order", 1), ("near", 2), ("most", 3), ("row", 4), ("common", 5), ("later", 6), ("one", 7), ("two", 8)], 4, 9, f_law_pairs_right_b⟩
def f_law_wide_right_b1 : Ss := (.cons (.expr (.lappend (.v 5) (.tuple (.meth (.v 0) 23 (.cons (.v 6) (.cons (.v 4) .nil)))))) (.cons (.expr (.meth (.v 0) 15 (.cons (.v 6) .nil))) .nil))
def f_law_wide_right_b : Ss := (.cons (.asg (.tup [4, 5]) (.tup (.cons (.len (.v 2)) (.cons (.nlst .nil) .nil)))) (.cons (.forr (.v 6) (.r1 (.v 4)) f_law_wide_right_b1) (.fz 5 (.cons (.asg (.v 7) (.comp false (.ite (.cmp (.v 8) .ge (.v 3)) (.v 8) (.int 0)) (.cons (.v 8) (.e (.v 1)) (.bool true) .nil))) (.cons (.ife (.cmp (.sorted (.comp false (.v 9) (.cons (.tup [9, 10]) (.e (.v 5)) (.bool true) .nil))) .ne (.sorted (.bin .add (.lst (.cons (.int 0) .nil)) (.v 7)))) (.cons (.ret (.bool false)) .nil) .nil) (.cons (.ret (.cmp (.v 5) .eq (.comp false (.callf 13 (.cons (.idx (.v 2) (.v 11)) (.cons (.v 11) (.cons (.v 3) .nil)))) (.cons (.v 11) (.r1 (.v 4)) (.bool true) .nil)))) .nil))))))
def f_law_wide_right : Fn := ⟨[("finder", 0), ("near", 1), ("sides", 2), ("shortest", 3), ("size", 4), ("told", 5), ("place", 6), ("lengths", 7)], 4, 12, f_law_wide_right_b⟩
def f_law_narrow_right_b1 : Ss := (.cons (.asg (.v 8) (.callf 12 (.cons (.v 1) (.cons (.v 2) (.cons (.v 7) (.cons (.v 5) .nil)))))) (.cons (.ife (.cmp (.comp false (.tuple (.v 9)) (.cons (.v 9) (.e (.meth (.v 0) 22 (.cons (.v 7) (.cons (.v 6) .nil)))) (.bool true) .nil)) .ne (.callf 14 (.cons (.v 8) (.cons (.v 7) (.cons (.v 4) (.cons (.v 6) .nil)))))) (.cons (.ret (.bool false)) .nil) .nil) (.cons (.ife (.cmp (.tuple (.meth (.v 0) 23 (.cons (.v 7) (.cons (.len (.v 1)) .nil)))) .ne (.callf 13 (.cons (.v 8) (.cons (.v 7) (.cons (.v 4) .nil))))) (.cons (.ret (.bool false)) .nil) .nil) (.cons (.expr (.meth (.v 0) 15 (.cons (.v 7) .nil))) .nil))))
def f_law_narrow_right_b : Ss := (.cons (.asg (.tup [4, 5, 6]) (.v 3)) (.cons (.forr (.v 7) (.r1 (.len (.v 1))) f_law_narrow_right_b1) (.cons (.ret (.bool true)) .nil)))
def f_law_narrow_right : Fn := ⟨[("finder", 0), ("order", 1), ("near", 2), ("shape", 3), ("shortest", 4), ("window", 5), ("most", 6), ("place", 7), ("sides", 8)], 4, 10, f_law_narrow_right_b⟩
def f_law_b1 : Ss := (.cons (.ife (.not (.callf 16 (.cons (.callf 5 (.cons (.idx (.v 4) (.v 9)) (.cons (.v 2) (.cons (.idx (.v 8) (.v 9)) (.cons (.v 3) (.cons (.bin .add (.v 3) (.int 1)) .nil)))))) (.cons (.v 6) (.cons (.v 7) (.cons (.idx (.v 8) (.v 9)) .nil)))))) (.cons (.ret (.bool false)) .nil) .nil) .nil)
def f_law_b : Ss := (.cons (.asg (.v 1) (.callf 6 (.cons (.v 0) .nil))) (.cons (.asg (.v 2) (.callf 8 (.cons (.v 1) (.cons (.ite (.and (.cmp (.len (.v 0)) .lt (.int 2)) (.cmp (.idx (.v 1) (.int 0)) .eq (.int 0))) (.int 5) (.bin .add (.int 8) (.callf 7 (.cons (.v 1) (.cons (.int 5) .nil))))) .nil)))) (.cons (.asg (.tup [3, 4]) (.tup (.cons (.len (.v 2)) (.cons (.lst (.cons (.str "chain") (.cons (.str "tree") (.cons (.str "layers") .nil)))) .nil)))) (.cons (.asg (.tup [5, 6]) (.callf 11 (.cons (.v 2) .nil))) (.cons (.asg (.v 7) (.comp false (.callf 12 (.cons (.v 5) (.cons (.v 6) (.cons (.v 13) (.cons (.v 3) .nil))))) (.cons (.v 13) (.r1 (.v 3)) (.bool true) .nil))) (.cons (.asg (.v 8) (.lst (.cons (.idx (.lst (.cons (.int 1) (.cons (.int 2) (.cons (.int 1) (.cons (.int 3) .nil))))) (.callf 7 (.cons (.v 1) (.cons (.int 4) .nil)))) (.cons (.idx (.lst (.cons (.int 1) (.cons (.int 2) (.cons (.int 1) (.cons (.int 4) .nil))))) (.callf 7 (.cons (.v 1) (.cons (.int 4) .nil)))) (.cons (.int 2) .nil))))) (.cons (.forr (.v 9) (.r1 (.int 3)) f_law_b1) (.cons (.asg (.tup [9, 10, 11]) (.tup (.cons (.callf 7 (.cons (.v 1) (.cons (.int 3) .nil))) (.cons (.bin .add (.int 1) (.callf 7 (.cons (.v 1) (.cons (.v 3) .nil)))) (.cons (.idx (.lst (.cons (.v 3) (.cons (.bin .add (.int 1) (.callf 7 (.cons (.v 1) (.cons (.int 5) .nil)))) .nil))) (.callf 7 (.cons (.v 1) (.cons (.int 2) .nil)))) .nil))))) (.cons (.asg (.v 12) (.callf 5 (.cons (.idx (.v 4) (.v 9)) (.cons (.v 2) (.cons (.idx (.v 8) (.v 9)) (.cons (.v 10) (.cons (.bin .add (.v 3) (.int 1)) .nil))))))) (.cons (.ife (.not (.callf 15 (.cons (.v 12) (.cons (.v 5) (.cons (.v 6) (.cons (.v 11) .nil)))))) (.cons (.ret (.bool false)) .nil) .nil) (.cons (.ret (.callf 17 (.cons (.v 12) (.cons (.v 5) (.cons (.v 6) (.cons (.lst (.cons (.idx (.v 8) (.v 9)) (.cons (.v 10) (.cons (.v 11) .nil)))) .nil)))))) .nil)))))))))))
def f_law : Fn := ⟨[("script", 0), ("box", 1), ("text", 2), ("size", 3), ("ways", 4), ("order", 5), ("near", 6), ("sides", 7), ("shortest", 8), ("k", 9), ("window", 10), ("most", 11), ("finder", 12)], 1, 14, f_law_b⟩
end Mine
end

section
open PySem PySem.Calls PyProof.Rows PySem.W
set_option maxRecDepth 20000
namespace Mine
def stL (l : List String) : List PySem.Str := l.map PySem.Str.ofString
structure Fns (X : Cx) : Prop where
  base : Base X
  PlaceRow_init : FnAt X f_PlaceRow_init 68 (stL ["self", "octets", "size"])
  PlaceRow_key : FnAt X f_PlaceRow_key 75 (stL ["self", "place"])
  PlaceRow_put : FnAt X f_PlaceRow_put 82 (stL ["self", "place"])
  PlaceRow_newest : FnAt X f_PlaceRow_newest 89 (stL ["self", "place"])
  Matcher_init : FnAt X f_Matcher_init 110 (stL ["self", "octets", "least", "window", "chain"])
  Matcher_put : FnAt X f_Matcher_put 117 (stL ["self", "place"])
  Matcher_limit : FnAt X f_Matcher_limit 138 (stL ["self", "place", "most"])
  Matcher_length : FnAt X f_Matcher_length 145 (stL ["self", "place", "other", "most"])
  Matcher_alike : FnAt X f_Matcher_alike 152 (stL ["self", "place", "other", "known", "limit"])
  Matcher_is_near : FnAt X f_Matcher_is_near 159 (stL ["self", "place", "other"])
  Matcher_best : FnAt X f_Matcher_best 180 (stL ["self", "place", "most"])
  Finder_init : FnAt X f_Finder_init 202 (stL ["self", "octets", "least", "window", "chain"])
  Finder_enter : FnAt X f_Finder_enter 209 (stL ["self", "place"])
  Finder_candidates : FnAt X f_Finder_candidates 216 (stL ["self", "place"])
  Finder_every : FnAt X f_Finder_every 223 (stL ["self", "place", "most"])
  TreeFinder_init : FnAt X f_TreeFinder_init 243 (stL ["self", "octets", "least", "window", "chain"])
  TreeFinder_hang : FnAt X f_TreeFinder_hang 250 (stL ["self", "owner", "is_greater", "place"])
  TreeFinder_enter : FnAt X f_TreeFinder_enter 257 (stL ["self", "place"])
  TreeFinder_part : FnAt X f_TreeFinder_part 264 (stL ["self", "place", "other"])
  TreeFinder_every : FnAt X f_TreeFinder_every 271 (stL ["self", "place", "most"])
  LayeredFinder_init : FnAt X f_LayeredFinder_init 290 (stL ["self", "octets", "window", "chain"])
  LayeredFinder_enter : FnAt X f_LayeredFinder_enter 297 (stL ["self", "place"])
  LayeredFinder_every : FnAt X f_LayeredFinder_every 304 (stL ["self", "place", "most"])
  finder_for : FnAt X f_finder_for 317 (stL ["way", "octets", "least", "window", "chain"])
  law_box : FnAt X f_law_box 324 (stL ["script"])
  law_take : FnAt X f_law_take 331 (stL ["box", "many"])
  law_text : FnAt X f_law_text 336 (stL ["box", "room"])
  law_numbers : FnAt X f_law_numbers 343 (stL ["text"])
  law_common : FnAt X f_law_common 350 (stL ["one", "two", "size"])
  law_order : FnAt X f_law_order 355 (stL ["text"])
  law_sides : FnAt X f_law_sides 362 (stL ["order", "near", "place", "window"])
  law_longest : FnAt X f_law_longest 367 (stL ["sides", "place", "shortest"])
  law_outwards : FnAt X f_law_outwards 372 (stL ["sides", "place", "shortest", "most"])
  law_pairs_right : FnAt X f_law_pairs_right 379 (stL ["finder", "order", "near", "most"])
  law_wide_right : FnAt X f_law_wide_right 384 (stL ["finder", "near", "sides", "shortest"])
  law_narrow_right : FnAt X f_law_narrow_right 389 (stL ["finder", "order", "near", "shape"])
section
variable {X : Cx} {k : Nat}
theorem wc_of (F : Fns X) {f : Fn} {a : Addr} {ps : List PySem.Str} (h : FnAt X f a ps) {args : List V} {σ : AHeap} {Q : V → AHeap → Prop} (hl : args.length = ps.length) (h2 : wpSs X k f.body (initR f args) σ (retQ Q)) : WC X (k + 1) (.ref a) args σ Q :=
  (fn_code F.base h (soundSs F.base f.body) hl h2).wc
theorem wcc_of (F : Fns X) {f : Fn} {a : Addr} {ps : List PySem.Str} (h : FnAt X f a ps) {args : List V} {σ : AHeap} {Q : V → AHeap → Prop} (hl : args.length = ps.length) (h2 : wpSs X k f.body (initR f args) σ (retQ Q)) : WCc X (k + 1) (.ref a) args σ Q :=
  fn_code F.base h (soundSs F.base f.body) hl h2
end
end Mine
end

section
namespace Mine
def lcpL : List Nat → List Nat → Nat
  | a :: x, b :: y => if a = b then lcpL x y + 1 else 0
  | _, _ => 0
theorem lcpL_le : ∀ x y : List Nat, lcpL x y ≤ x.length ∧ lcpL x y ≤ y.length
  | a :: x, b :: y => by
    have := lcpL_le x y
    unfold lcpL
    split <;> simp <;> omega
  | [], _ => by simp [lcpL]
  | _ :: _, [] => by simp [lcpL]
theorem lcpL_eq : ∀ (x y : List Nat) (i : Nat), i < lcpL x y → x[i]? = y[i]?
  | a :: x, b :: y, i, h => by
    unfold lcpL at h
    split at h
    · rename_i e
      subst e
      cases i with
      | zero => rfl
      | succ i => simpa using lcpL_eq x y i (by omega)
    · omega
  | [], _, i, h => by simp [lcpL] at h
  | _ :: _, [], i, h => by simp [lcpL] at h
theorem lcpL_ne : ∀ (x y : List Nat), lcpL x y < x.length → lcpL x y < y.length → x[lcpL x y]? ≠ y[lcpL x y]?
  | a :: x, b :: y, h1, h2 => by
    unfold lcpL at h1 h2 ⊢
    split
    · rename_i e
      rw [if_pos e] at h1 h2
      simp only [List.length_cons] at h1 h2
      simpa using lcpL_ne x y (by omega) (by omega)
    · rename_i e
      simpa using e
  | [], _, h, _ => by simp [lcpL] at h
  | _ :: _, [], _, h => by simp [lcpL] at h
def L (t : List Nat) (p q : Nat) : Nat := lcpL (t.drop p) (t.drop q)
def dg (t : List Nat) (j : Nat) : Nat := match t[j]? with | some o => o + 1 | none => 0
theorem dg_some {t : List Nat} {j o : Nat} (h : t[j]? = some o) : dg t j = o + 1 := by unfold dg; rw [h]
theorem dg_out {t : List Nat} {j : Nat} (h : t.length ≤ j) : dg t j = 0 := by unfold dg; rw [List.getElem?_eq_none h]
theorem dg_in {t : List Nat} {j : Nat} (h : j < t.length) : t[j]? = some (dg t j - 1) ∧ 0 < dg t j := by
  have e : t[j]? = some t[j] := List.getElem?_eq_getElem h
  rw [dg_some e, e]
  exact ⟨rfl, by omega⟩
theorem dg_inj {t : List Nat} {i j : Nat} (h : dg t i = dg t j) : t[i]? = t[j]? := by
  unfold dg at h
  cases e1 : t[i]? <;> cases e2 : t[j]? <;> rw [e1, e2] at h <;> simp at h ⊢
  exact h
theorem dg_of {t : List Nat} {i j : Nat} (h : t[i]? = t[j]?) : dg t i = dg t j := by unfold dg; rw [h]
section
variable {t : List Nat} {p q : Nat}
theorem L_le : L t p q ≤ t.length - p ∧ L t p q ≤ t.length - q := by
  have := lcpL_le (t.drop p) (t.drop q)
  simpa [L] using this
theorem L_eq {i : Nat} (h : i < L t p q) : dg t (p + i) = dg t (q + i) := by
  have := lcpL_eq (t.drop p) (t.drop q) i h
  rw [List.getElem?_drop, List.getElem?_drop] at this
  exact dg_of this
theorem L_ne (n : p ≠ q) (hp : p < t.length) (hq : q < t.length) : dg t (p + L t p q) ≠ dg t (q + L t p q) := by
  intro e
  have e' := dg_inj e
  have hl := L_le (t := t) (p := p) (q := q)
  by_cases h : L t p q < t.length - p ∧ L t p q < t.length - q
  · have := lcpL_ne (t.drop p) (t.drop q) (by simpa [L] using h.1) (by simpa [L] using h.2)
    rw [List.getElem?_drop, List.getElem?_drop] at this
    exact this e'
  · have c : (p + L t p q < t.length ∧ t.length ≤ q + L t p q) ∨ (q + L t p q < t.length ∧ t.length ≤ p + L t p q) := by omega
    rcases c with ⟨h1, h2⟩ | ⟨h1, h2⟩
    · rw [dg_out h2] at e; have := (dg_in h1).2; omega
    · rw [dg_out h2] at e; have := (dg_in h1).2; omega
theorem L_of {m : Nat} (n : p ≠ q) (hp : p < t.length) (hq : q < t.length) (h1 : ∀ i, i < m → dg t (p + i) = dg t (q + i)) (h2 : dg t (p + m) ≠ dg t (q + m)) : L t p q = m := by
  rcases Nat.lt_trichotomy (L t p q) m with h | h | h
  · exact absurd (h1 _ h) (L_ne n hp hq)
  · exact h
  · exact absurd (L_eq h) h2
theorem L_ge {m : Nat} (n : p ≠ q) (hp : p < t.length) (hq : q < t.length) (h1 : ∀ i, i < m → dg t (p + i) = dg t (q + i)) : m ≤ L t p q := by
  rcases Nat.lt_or_ge (L t p q) m with h | h
  · exact absurd (h1 _ h) (L_ne n hp hq)
  · exact h
theorem L_comm (n : p ≠ q) (hp : p < t.length) (hq : q < t.length) : L t p q = L t q p :=
  L_of n hp hq (fun i hi => (L_eq hi).symm) (fun e => L_ne n.symm hq hp e.symm)
def Lt (t : List Nat) (p q : Nat) : Prop := ∃ k, (∀ i, i < k → dg t (p + i) = dg t (q + i)) ∧ dg t (p + k) < dg t (q + k)
theorem Lt_iff (n : p ≠ q) (hp : p < t.length) (hq : q < t.length) : Lt t p q ↔ dg t (p + L t p q) < dg t (q + L t p q) := by
  constructor
  · rintro ⟨k, h1, h2⟩
    rw [L_of n hp hq h1 (by omega)]
    exact h2
  · intro h
    exact ⟨_, fun i hi => L_eq hi, h⟩
theorem Lt_or (n : p ≠ q) (hp : p < t.length) (hq : q < t.length) : Lt t p q ∨ Lt t q p := by
  have := L_ne n hp hq
  rcases Nat.lt_or_ge (dg t (p + L t p q)) (dg t (q + L t p q)) with h | h
  · exact .inl ⟨_, fun i hi => L_eq hi, h⟩
  · exact .inr ⟨_, fun i hi => (L_eq hi).symm, by omega⟩
theorem Lt_trans {r : Nat} : Lt t p q → Lt t q r → Lt t p r := by
  rintro ⟨k, h1, h2⟩ ⟨m, h3, h4⟩
  rcases Nat.lt_trichotomy k m with h | h | h
  · exact ⟨k, fun i hi => (h1 i hi).trans (h3 i (by omega)), by rw [← h3 k h]; exact h2⟩
  · subst h; exact ⟨k, fun i hi => (h1 i hi).trans (h3 i hi), by omega⟩
  · exact ⟨m, fun i hi => (h1 i (by omega)).trans (h3 i hi), by rw [h1 m h]; exact h4⟩
theorem Lt_irrefl : ¬ Lt t p p := fun ⟨_, _, h⟩ => Nat.lt_irrefl _ h
theorem Lt_asymm (h : Lt t p q) : ¬ Lt t q p := fun h' => Lt_irrefl (Lt_trans h h')
theorem Lt_ne (h : Lt t p q) : p ≠ q := fun e => by subst e; exact Lt_irrefl h
theorem L_between {r : Nat} (hp : p < t.length) (hq : q < t.length) (hr : r < t.length) (h1 : Lt t p q) (h2 : Lt t q r) : L t p r = min (L t p q) (L t q r) := by
  have n1 := Lt_ne h1
  have n2 := Lt_ne h2
  have n3 := Lt_ne (Lt_trans h1 h2)
  have a := (Lt_iff n1 hp hq).mp h1
  have b := (Lt_iff n2 hq hr).mp h2
  refine L_of n3 hp hr (fun i hi => (L_eq (t := t) (p := p) (q := q) (i := i) (by omega)).trans (L_eq (t := t) (p := q) (q := r) (i := i) (by omega))) ?_
  rcases Nat.lt_trichotomy (L t p q) (L t q r) with h | h | h
  · rw [Nat.min_eq_left (by omega), ← L_eq h]; omega
  · rw [← h, Nat.min_self]; rw [← h] at b; omega
  · rw [Nat.min_eq_right (by omega), L_eq h]; omega
end
end Mine
end

section
namespace Mine
section
variable {t : List Nat} {p lim : Nat}
def fv (t : List Nat) (p lim c : Nat) : Nat := min (L t p c) lim
def recs (t : List Nat) (p lim : Nat) : Nat → List Nat → List (Nat × Nat)
  | _, [] => []
  | m, c :: r => if m < fv t p lim c then (fv t p lim c, p - c) :: recs t p lim (fv t p lim c) r else recs t p lim m r
def cands (p w : Nat) : List Nat := (List.range (min w p)).map fun i => p - 1 - i
theorem cands_mem {p w c : Nat} : c ∈ cands p w ↔ c < p ∧ p - c ≤ w := by
  unfold cands
  simp only [List.mem_map, List.mem_range]
  constructor
  · rintro ⟨i, hi, rfl⟩; omega
  · intro h; exact ⟨p - 1 - c, by omega, by omega⟩
theorem cands_desc {p w : Nat} : (cands p w).Pairwise (· > ·) := by
  unfold cands
  rw [List.pairwise_map]
  refine List.Pairwise.imp_of_mem ?_ List.pairwise_lt_range
  intro a b ha hb h
  have := List.mem_range.mp ha
  have := List.mem_range.mp hb
  omega
theorem recs_sub : ∀ {l1 l2 : List Nat} {m : Nat}, l2.Sublist l1 → l1.Pairwise (· > ·) → (∀ c ∈ l1, c ∉ l2 → fv t p lim c ≤ m ∨ ∃ c' ∈ l2, c < c' ∧ fv t p lim c ≤ fv t p lim c') → recs t p lim m l2 = recs t p lim m l1
  | _, _, m, .slnil, _, _ => rfl
  | _, _, m, .cons (l₁ := l2) (l₂ := l1) a h, hp, hd => by
    rw [List.pairwise_cons] at hp
    have hn : a ∉ l2 := fun e => Nat.lt_irrefl _ (hp.1 a (h.subset e))
    have ha : fv t p lim a ≤ m := by
      rcases hd a List.mem_cons_self hn with h1 | ⟨c', h1, h2, _⟩
      · exact h1
      · have := hp.1 c' (h.subset h1); omega
    rw [recs, if_neg (by omega)]
    exact recs_sub h hp.2 fun c hc hc' => hd c (List.mem_cons_of_mem _ hc) hc'
  | _, _, m, .cons_cons (l₁ := l2) (l₂ := l1) a h, hp, hd => by
    rw [List.pairwise_cons] at hp
    rw [recs, recs]
    split
    · rename_i hm
      rw [recs_sub h hp.2]
      intro c hc hc'
      have hca : c ≠ a := fun e => by subst e; exact Nat.lt_irrefl _ (hp.1 c hc)
      rcases hd c (List.mem_cons_of_mem _ hc) (by simp [hca, hc']) with h1 | ⟨c', h1, h2, h3⟩
      · exact .inl (by omega)
      · rcases List.mem_cons.mp h1 with rfl | h1
        · exact .inl h3
        · exact .inr ⟨c', h1, h2, h3⟩
    · rename_i hm
      rw [recs_sub h hp.2]
      intro c hc hc'
      have hca : c ≠ a := fun e => by subst e; exact Nat.lt_irrefl _ (hp.1 c hc)
      rcases hd c (List.mem_cons_of_mem _ hc) (by simp [hca, hc']) with h1 | ⟨c', h1, h2, h3⟩
      · exact .inl (by omega)
      · rcases List.mem_cons.mp h1 with rfl | h1
        · exact .inl (by omega)
        · exact .inr ⟨c', h1, h2, h3⟩
theorem recs_gt : ∀ {l : List Nat} {m : Nat}, ∀ x ∈ recs t p lim m l, m < x.1 ∧ x.1 ≤ lim
  | [], m, x, h => by simp [recs] at h
  | c :: l, m, x, h => by
    rw [recs] at h
    split at h
    · rename_i hm
      rcases List.mem_cons.mp h with rfl | h
      · exact ⟨hm, by unfold fv; omega⟩
      · have := recs_gt (l := l) x h; omega
    · exact recs_gt x h
theorem recs_nil : ∀ {l : List Nat} {m : Nat}, (∀ c ∈ l, fv t p lim c ≤ m) → recs t p lim m l = []
  | [], m, _ => rfl
  | c :: l, m, h => by
    rw [recs, if_neg (by have := h c List.mem_cons_self; omega)]
    exact recs_nil fun c hc => h c (List.mem_cons_of_mem _ hc)
theorem recs_filter : ∀ {l : List Nat} {m v : Nat}, m ≤ v → recs t p lim v l = (recs t p lim m l).filter fun x => decide (v < x.1)
  | [], m, v, _ => by simp [recs]
  | c :: l, m, v, h => by
    rw [recs, recs]
    by_cases h1 : v < fv t p lim c
    · rw [if_pos h1, if_pos (by omega), List.filter_cons_of_pos (by simpa using h1)]
      congr 1
      rw [List.filter_eq_self.mpr]
      intro x hx
      have := (recs_gt x hx).1
      simp; omega
    · rw [if_neg h1]
      by_cases h2 : m < fv t p lim c
      · rw [if_pos h2, List.filter_cons_of_neg (by simpa using h1)]
        exact recs_filter (by omega)
      · rw [if_neg h2]
        exact recs_filter h
theorem recs_first : ∀ {l : List Nat} {m c : Nat}, l.Pairwise (· > ·) → c ∈ l → m < fv t p lim c → (∀ c' ∈ l, c < c' → fv t p lim c' ≤ m) → recs t p lim m l = (fv t p lim c, p - c) :: recs t p lim (fv t p lim c) l
  | [], m, c, _, h, _, _ => by cases h
  | a :: l, m, c, hp, h, hm, hf => by
    rw [List.pairwise_cons] at hp
    rcases List.mem_cons.mp h with rfl | h
    · rw [recs, if_pos hm]
      congr 1
      rw [recs, if_neg (by omega)]
    · have h1 := hp.1 c h
      have h2 := hf a List.mem_cons_self h1
      rw [recs, if_neg (by omega), recs_first hp.2 h hm fun c' hc' => hf c' (List.mem_cons_of_mem _ hc')]
      congr 1
      conv => rhs; rw [recs, if_neg (by omega)]
end
end Mine
end

section
open PySem PySem.Calls PyProof.Rows PySem.W
set_option maxRecDepth 20000
namespace Mine
theorem lookup_hit {α : Type} {n : Nat} {v : α} {r : List (Nat × α)} : ((n, v) :: r).lookup n = some v := by simp [List.lookup]
theorem lookup_miss {α : Type} {n m : Nat} {v : α} {r : List (Nat × α)} (h : (n == m) = false) : ((m, v) :: r).lookup n = r.lookup n := by simp [List.lookup, h]
theorem pos {c : Prop} [Decidable c] {A B : Prop} (h : c) (a : A) : if c then A else B := by rw [if_pos h]; exact a
theorem neg {c : Prop} [Decidable c] {A B : Prop} (h : ¬c) (b : B) : if c then A else B := by rw [if_neg h]; exact b
section
variable {X : Cx} {k : Nat}
theorem WC.le {X : Cx} {k k' : Nat} {f : Value} {args : List V} {σ : AHeap} {Q : V → AHeap → Prop} (h : k ≤ k') (x : WC X k f args σ Q) : WC X k' f args σ Q := fun N A s vals ⟨r1, r2, r3⟩ => x N A s vals ⟨r1, by omega, by omega⟩
def bytesV (l : List Nat) : List V := l.map fun (n : Nat) => V.int (n : Int)
def num256 (l : List Nat) : Nat := l.foldl (fun a o => a * 256 + o) 0
def keyN (t : List Nat) (p s : Nat) : Option Nat := if p + s ≤ t.length then some (num256 ((t.drop p).take s)) else none
def keyV (t : List Nat) (p s : Nat) : V := match keyN t p s with | some n => .int n | none => .none
def rowF (t : List Nat) (s : Nat) (la be : Addr) : List (Nat × V) := [(0, .bytes t), (1, .int s), (2, .ref la), (3, .ref be)]
theorem key_loop {r : V} {p : V} {Q : Fl → List V → AHeap → Prop} {σ : AHeap} : ∀ (l : List Nat) (a : Nat) (z : V), (∀ z, Q .next [r, p, .int (l.foldl (fun a o => a * 256 + o) a : Nat), z] σ) →
    forP (Tg.v 3) (fun ρ σ Q => wpSs X k f_PlaceRow_key_b1 ρ σ Q) Q (l.map fun (n : Nat) => V.int (n : Int)) [r, p, .int a, z] σ
  | [], a, z, h => by simpa [forP] using h z
  | o :: l, a, z, h => by
    simp only [List.map_cons, forP]
    try simp only [wpSs, wpS, wpE, binP, binI, asList, asgP, List.getElem?_cons_zero, List.getElem?_cons_succ, List.set_cons_zero, List.set_cons_succ, Option.some.injEq, exists_eq_left', ne_eq, reduceCtorEq, not_false_eq_true, true_and, f_PlaceRow_key_b1]
    refine ⟨IntMulOk.of_right (by decide +kernel), ?_⟩
    have e : ((a : Int) * 256 + (o : Int)) = ((a * 256 + o : Nat) : Int) := by omega
    rw [e]
    exact key_loop l _ _ h
theorem key_c (F : Fns X) {r : Addr} {t : List Nat} {s p : Nat} {la be : Addr} {σ : AHeap} {Q : V → AHeap → Prop} (hr : σ r = some (.inst 92 (rowF t s la be))) (hp : p ≤ t.length)
    (hQ : Q (keyV t p s) σ) : WC X (k + 1) (.ref 75) [.ref r, .int p] σ Q := by
  refine wc_of F F.PlaceRow_key rfl ?_
  unfold rowF at hr
  unfold keyV keyN at hQ
  try simp only [wpSs, wpS, wpE, wpI, truthP, cmpP, copI, binP, binI, attrP, lenP, asItems, asList, asFrozen, asgP, retQ, initR, bndP, sliceP, List.getElem?_cons_zero, List.getElem?_cons_succ, List.set_cons_zero, List.set_cons_succ, List.cons_append, List.nil_append, List.replicate_succ, List.replicate_zero, Nat.reduceSub, Option.some.injEq, exists_eq_left', ne_eq, reduceCtorEq, not_false_eq_true, true_and, if_true, Nat.reduceBEq, lookup_hit, lookup_miss, Bool.not_true, Bool.not_false, decide_eq_true_eq, decide_eq_false_iff_not, Int.toNat_natCast, List.length_map, Bool.not_eq_eq_eq_not, f_PlaceRow_key, f_PlaceRow_key_b, hr]
  refine pos (by omega) (neg (by omega) ?_)
  split
  · rename_i h
    rw [if_neg (by omega)] at hQ
    exact hQ
  · rename_i h
    rw [if_pos (by omega)] at hQ
    refine ⟨by omega, by omega, ?_⟩
    have e : ((p : Int) + (s : Int)).toNat = p + s := by omega
    rw [e]
    refine key_loop (a := 0) _ _ fun z => ?_
    try simp only [List.getElem?_cons_zero, List.getElem?_cons_succ, Option.some.injEq, exists_eq_left', reduceCtorEq, not_false_eq_true, true_and]
    have e2 : cut t p (some (p + s)) = (t.drop p).take s := by
      unfold cut; simp only
      rw [List.drop_take, show p + s - p = s by omega]
    rw [e2]
    exact hQ
theorem put_c (F : Fns X) {r : Addr} {t : List Nat} {s p nd : Nat} {la be : Addr} {m : Int → Option V} {l : List V} {σ : AHeap} {Q : V → AHeap → Prop} (hr : σ r = some (.inst 92 (rowF t s la be)))
    (hl : σ la = some (.dict nd m)) (hb : σ be = some (.list l)) (hp : p < t.length) (hn : nd < 1000) (hbl : l.length = t.length) (ne : la ≠ be)
    (hQ : match keyN t p s with | some n => Q .none (upd (upd σ be (.list (l.set p ((m n).getD (.int (-1)))))) la (.dict (nd + 1) fun j => if j = (n : Int) then some (.int p) else m j)) | none => Q .none σ) : WC X (k + 2) (.ref 82) [.ref r, .int p] σ Q := by
  refine wc_of F F.PlaceRow_put rfl ?_
  have hr' := hr
  unfold rowF at hr
  try simp only [wpSs, wpS, wpE, wpEs, truthP, attrP, methP, asgP, retQ, initR, dgetP, isDict, V.isNone, List.getElem?_cons_zero, List.getElem?_cons_succ, List.set_cons_zero, List.set_cons_succ, List.cons_append, List.nil_append, List.replicate_succ, List.replicate_zero, Nat.reduceSub, Option.some.injEq, exists_eq_left', ne_eq, reduceCtorEq, not_false_eq_true, true_and, Nat.reduceBEq, List.lookup_nil, lookup_miss, f_PlaceRow_put, f_PlaceRow_put_b, hr]
  refine ⟨75, rfl, ?_⟩
  refine key_c F hr' (by omega) ?_
  unfold keyV
  have n2 : be ≠ la := fun e => ne e.symm
  split
  · rename_i n hk
    rw [hk] at hQ
    have nr : r ≠ be := fun e => by rw [e, hb] at hr; cases hr
    try simp only [Option.some.injEq, exists_eq_left', reduceCtorEq, not_false_eq_true, true_and, Nat.reduceBEq, lookup_hit, lookup_miss, Int.toNat_natCast, hl, hb, hr, upd_ne nr, upd_ne ne, setidxP]
    refine ⟨by omega, by omega, ?_⟩
    exact ⟨hn, hQ⟩
  · rename_i hk
    rw [hk] at hQ
    try simp only [reduceCtorEq, not_false_eq_true, true_and, if_false, Bool.false_eq_true, bne_self_eq_false]
    exact hQ
def lastV (m : Int → Option V) : Option Nat → Int
  | some n => (match m n with | some (.int i) => i | _ => -1)
  | none => -1
theorem newest_c (F : Fns X) {r : Addr} {t : List Nat} {s p nd : Nat} {la be : Addr} {m : Int → Option V} {σ : AHeap} {Q : V → AHeap → Prop} (hr : σ r = some (.inst 92 (rowF t s la be)))
    (hl : σ la = some (.dict nd m)) (hp : p ≤ t.length) (hm : ∀ n v, m n = some v → ∃ i : Int, v = .int i) (hlt : lastV m (keyN t p s) < (p : Int))
    (hQ : Q (.int (lastV m (keyN t p s))) σ) : WC X (k + 2) (.ref 89) [.ref r, .int p] σ Q := by
  refine wc_of F F.PlaceRow_newest rfl ?_
  have hr' := hr
  unfold rowF at hr
  try simp only [wpSs, wpS, wpE, wpEs, truthP, attrP, methP, asgP, retQ, initR, dgetP, isDict, V.isNone, List.getElem?_cons_zero, List.getElem?_cons_succ, List.set_cons_zero, List.set_cons_succ, List.cons_append, List.nil_append, List.replicate_succ, List.replicate_zero, Nat.reduceSub, Option.some.injEq, exists_eq_left', ne_eq, reduceCtorEq, not_false_eq_true, true_and, Nat.reduceBEq, List.lookup_nil, lookup_miss, f_PlaceRow_newest, f_PlaceRow_newest_b, hr]
  refine ⟨75, rfl, ?_⟩
  refine key_c F hr' (by omega) ?_
  unfold keyV
  split
  · rename_i n hk
    rw [hk] at hQ hlt
    try simp only [Option.some.injEq, exists_eq_left', reduceCtorEq, not_false_eq_true, true_and, if_false, Bool.false_eq_true, Nat.reduceBEq, lookup_hit, lookup_miss, bne_self_eq_false, hl, hr]
    have e : ∃ i : Int, (m (n : Int)).getD (V.int (-1)) = .int i ∧ lastV m (some n) = i := by
      unfold lastV
      cases q : m (n : Int) with
      | none => exact ⟨-1, rfl, by simp only [q]⟩
      | some v => obtain ⟨i, rfl⟩ := hm _ _ q; exact ⟨i, rfl, by simp only [q]⟩
    obtain ⟨i, e1, e2⟩ := e
    rw [e1]
    rw [e2] at hQ hlt
    refine ⟨1, ?_⟩
    unfold whileP
    try simp only [wpE, cmpP, copI, List.getElem?_cons_zero, List.getElem?_cons_succ, Option.some.injEq, exists_eq_left', ne_eq, reduceCtorEq, not_false_eq_true, true_and, decide_eq_true_eq, f_PlaceRow_newest_c1]
    refine neg (by omega) ?_
    try simp only [wpSs, wpS, wpE, wpEs, wpI, truthP, cmpP, copI, binP, binI, attrP, lenP, asItems, asList, asFrozen, methP, asgP, setAll, setattrP, putF, retQ, initR, idxP, lastP, bndP, sliceP, revP, dgetP, isDict, range1P, range2P, range3P, appendP, frzP, V.isNone, mkList, List.getElem?_cons_zero, List.getElem?_cons_succ, List.set_cons_zero, List.set_cons_succ, List.set_nil, List.cons_append, List.nil_append, List.replicate_succ, List.replicate_zero, Nat.reduceSub, Nat.reduceAdd, Option.some.injEq, exists_eq_left', ne_eq, reduceCtorEq, not_false_eq_true, true_and, and_true, if_true, if_false, Bool.true_eq_false, Bool.false_eq_true, Option.isSome_some, Nat.reduceBEq, List.lookup_nil, lookup_hit, lookup_miss, bne_self_eq_false, Bool.not_true, Bool.not_false, decide_true, decide_false, ite_true, ite_false, reduceIte, Nat.reduceEqDiff, Nat.reduceLT, Nat.reduceLeDiff, List.length_cons, List.length_nil, decide_eq_true_eq, Bool.not_eq_true', decide_eq_false_iff_not, Int.toNat_natCast, List.length_map, Bool.and_eq_true, Bool.or_eq_true, Bool.not_eq_eq_eq_not, Bool.not_eq_true, Bool.not_eq_false]
    exact hQ
  · rename_i hk
    rw [hk] at hQ
    try simp only [reduceCtorEq, not_false_eq_true, true_and]
    exact hQ
end
end Mine
end

section
open PySem PySem.Calls PyProof.Rows PySem.W
set_option maxRecDepth 20000
namespace Mine
section
variable {X : Cx} {k : Nat}
structure Mt (σ : AHeap) (f C : Addr) (fs : List (Nat × V)) (t : List Nat) (least w ch ah : Nat) : Prop where
  obj : σ f = some (.inst C fs)
  f0 : fs.lookup 0 = some (.bytes t)
  f4 : fs.lookup 4 = some (.int least)
  f5 : fs.lookup 5 = some (.int w)
  f6 : fs.lookup 6 = some (.int ch)
  f7 : fs.lookup 7 = some (.int ah)
  nom : ∀ m, 14 ≤ m → fs.lookup m = none
def isF (C : Addr) : Prop := C = 226 ∨ C = 274 ∨ C = 307
theorem isF.m15 {C : Addr} (h : isF C) : meth C 15 = some 117 := by rcases h with rfl | rfl | rfl <;> rfl
theorem isF.m18 {C : Addr} (h : isF C) : meth C 18 = some 138 := by rcases h with rfl | rfl | rfl <;> rfl
theorem isF.m19 {C : Addr} (h : isF C) : meth C 19 = some 145 := by rcases h with rfl | rfl | rfl <;> rfl
theorem isF.m20 {C : Addr} (h : isF C) : meth C 20 = some 152 := by rcases h with rfl | rfl | rfl <;> rfl
theorem isF.m21 {C : Addr} (h : isF C) : meth C 21 = some 159 := by rcases h with rfl | rfl | rfl <;> rfl
theorem isF.m23 {C : Addr} (h : isF C) : meth C 23 = some 180 := by rcases h with rfl | rfl | rfl <;> rfl
variable {σ : AHeap} {f C : Addr} {fs : List (Nat × V)} {t : List Nat} {least w ch ah : Nat} {Q : V → AHeap → Prop}
theorem limit_c (F : Fns X) (M : Mt σ f C fs t least w ch ah) {p m : Nat} (hp : p ≤ t.length) (hQ : Q (.int (min m (t.length - p) : Nat)) σ) : WC X (k + 1) (.ref 138) [.ref f, .int p, .int m] σ Q := by
  refine wc_of F F.Matcher_limit rfl ?_
  try simp only [wpSs, wpS, wpE, binP, binI, attrP, lenP, asItems, asList, retQ, initR, List.getElem?_cons_zero, List.getElem?_cons_succ, List.cons_append, List.nil_append, List.replicate_zero, Nat.reduceSub, Option.some.injEq, exists_eq_left', ne_eq, reduceCtorEq, not_false_eq_true, true_and, List.length_map, f_Matcher_limit, f_Matcher_limit_b, M.obj, M.f0]
  have e : min (m : Int) ((t.length : Int) - (p : Int)) = ((min m (t.length - p) : Nat) : Int) := by omega
  rw [e]
  exact hQ
theorem near_c (F : Fns X) (M : Mt σ f C fs t least w ch ah) {p : Nat} {o : Int} (hQ : Q (.bool (decide (o ≠ -1 ∧ (p : Int) - o ≤ w))) σ) : WC X (k + 1) (.ref 159) [.ref f, .int p, .int o] σ Q := by
  refine wc_of F F.Matcher_is_near rfl ?_
  try simp only [wpSs, wpS, wpE, truthP, cmpP, copI, binP, binI, attrP, retQ, initR, List.getElem?_cons_zero, List.getElem?_cons_succ, List.cons_append, List.nil_append, List.replicate_zero, Nat.reduceSub, Option.some.injEq, exists_eq_left', ne_eq, reduceCtorEq, not_false_eq_true, true_and, Bool.not_true, decide_eq_false_iff_not, Bool.not_eq_eq_eq_not, f_Matcher_is_near, f_Matcher_is_near_b, M.obj, M.f5]
  by_cases h : o = -1
  · rw [if_neg (by simpa using h)]
    rw [decide_eq_false (by omega)] at hQ
    exact hQ
  · rw [if_pos (by simpa using h)]
    have e : decide (o ≠ -1 ∧ (p : Int) - o ≤ w) = decide ((p : Int) - o ≤ w) := by simp [h]
    rw [e] at hQ
    exact hQ
theorem get_b {t : List Nat} {i : Nat} (h : i < t.length) : (t.map fun (n : Nat) => V.int (n : Int))[i]? = some (.int ((dg t i - 1 : Nat) : Int)) := by
  rw [List.getElem?_map, (dg_in h).1]; rfl
theorem dg_eq {t : List Nat} {i j : Nat} (hi : i < t.length) (hj : j < t.length) : (((dg t i - 1 : Nat) : Int) = ((dg t j - 1 : Nat) : Int)) ↔ dg t i = dg t j := by
  have := (dg_in hi).2; have := (dg_in hj).2; omega
theorem dg_lt {t : List Nat} {i j : Nat} (hi : i < t.length) (hj : j < t.length) : (((dg t i - 1 : Nat) : Int) < ((dg t j - 1 : Nat) : Int)) ↔ dg t i < dg t j := by
  have := (dg_in hi).2; have := (dg_in hj).2; omega
theorem alike_loop {p q limit : Nat} {s : V} {R : Fl → List V → AHeap → Prop} (hq : q < p) (hl : limit ≤ t.length - p) (hp : p ≤ t.length) (hR : R .next [s, .int p, .int q, .int (min (L t p q) limit : Nat), .int limit, .bytes t] σ) : ∀ (d j : Nat), j + d = min (L t p q) limit →
    whileP (fun ρ σ Q => wpE X k f_Matcher_alike_c1 ρ σ fun u σ₁ => truthP u fun b => Q b σ₁) (fun ρ σ Q => wpSs X k f_Matcher_alike_b2 ρ σ Q) R (d + 1) [s, .int p, .int q, .int j, .int limit, .bytes t] σ
  | d, j, h => by
    unfold whileP
    generalize hK : whileP _ _ R d = K
    try simp only [wpE, truthP, cmpP, copI, binP, binI, asItems, asList, idxP, List.getElem?_cons_zero, List.getElem?_cons_succ, Option.some.injEq, exists_eq_left', ne_eq, reduceCtorEq, not_false_eq_true, true_and, if_false, Bool.false_eq_true, decide_eq_true_eq, f_Matcher_alike_c1]
    have e1 : ((p : Int) + (j : Int)).toNat = p + j := by omega
    have e2 : ((q : Int) + (j : Int)).toNat = q + j := by omega
    by_cases hj : j < limit
    · rw [if_pos (by omega)]
      refine ⟨by omega, _, by rw [e1]; exact get_b (by omega), by omega, _, by rw [e2]; exact get_b (by omega), ?_⟩
      try simp only []
      cases d with
      | zero =>
        refine neg ?_ ?_
        · rw [dg_eq (by omega) (by omega)]
          have hj : j = L t p q := by omega
          subst hj
          exact L_ne (by omega) (by omega) (by omega)
        · rw [show min (L t p q) limit = j by omega] at hR
          exact hR
      | succ d =>
        refine pos ((dg_eq (by omega) (by omega)).mpr (L_eq (by omega))) ?_
        try simp only [wpSs, wpS, wpE, List.getElem?_cons_zero, List.getElem?_cons_succ, List.set_cons_zero, List.set_cons_succ, Option.some.injEq, exists_eq_left', ne_eq, reduceCtorEq, not_false_eq_true, true_and, f_Matcher_alike_b2]
        have e3 : (j : Int) + 1 = ((j + 1 : Nat) : Int) := by omega
        rw [e3, ← hK]
        exact alike_loop hq hl hp hR d (j + 1) (by omega)
    · rw [if_neg (by omega)]
      try simp only [wpSs, wpS, wpE, wpEs, wpI, truthP, cmpP, copI, binP, binI, attrP, lenP, asItems, asList, asFrozen, methP, asgP, setAll, setattrP, putF, retQ, initR, idxP, lastP, bndP, sliceP, revP, dgetP, isDict, range1P, range2P, range3P, appendP, frzP, V.isNone, mkList, List.getElem?_cons_zero, List.getElem?_cons_succ, List.set_cons_zero, List.set_cons_succ, List.set_nil, List.cons_append, List.nil_append, List.replicate_succ, List.replicate_zero, Nat.reduceSub, Nat.reduceAdd, Option.some.injEq, exists_eq_left', ne_eq, reduceCtorEq, not_false_eq_true, true_and, and_true, if_true, if_false, Bool.true_eq_false, Bool.false_eq_true, Option.isSome_some, Nat.reduceBEq, List.lookup_nil, lookup_hit, lookup_miss, bne_self_eq_false, Bool.not_true, Bool.not_false, decide_true, decide_false, ite_true, ite_false, reduceIte, Nat.reduceEqDiff, Nat.reduceLT, Nat.reduceLeDiff, List.length_cons, List.length_nil, decide_eq_true_eq, Bool.not_eq_true', decide_eq_false_iff_not, Int.toNat_natCast, List.length_map, Bool.and_eq_true, Bool.or_eq_true, Bool.not_eq_eq_eq_not, Bool.not_eq_true, Bool.not_eq_false]
      rw [show min (L t p q) limit = j by omega] at hR
      exact hR
theorem alike_c (F : Fns X) (M : Mt σ f C fs t least w ch ah) {p q kn limit : Nat} (hq : q < p) (hl : limit ≤ t.length - p) (hp : p ≤ t.length) (hk : kn ≤ min (L t p q) limit) (hQ : Q (.int (min (L t p q) limit : Nat)) σ) :
    WC X (k + 1) (.ref 152) [.ref f, .int p, .int q, .int kn, .int limit] σ Q := by
  refine wc_of F F.Matcher_alike rfl ?_
  try simp only [wpSs, wpS, wpE, truthP, attrP, asgP, retQ, initR, List.getElem?_cons_zero, List.set_cons_zero, List.set_cons_succ, List.cons_append, List.nil_append, List.replicate_succ, List.replicate_zero, Nat.reduceSub, Option.some.injEq, exists_eq_left', ne_eq, reduceCtorEq, not_false_eq_true, true_and, f_Matcher_alike, f_Matcher_alike_b, M.obj, M.f0]
  refine ⟨_, alike_loop hq hl hp ?_ (min (L t p q) limit - kn) kn (by omega)⟩
  try simp only [List.getElem?_cons_zero, List.getElem?_cons_succ, Option.some.injEq, exists_eq_left', reduceCtorEq, not_false_eq_true, true_and]
  exact hQ
theorem length_c (F : Fns X) (hC : isF C) (M : Mt σ f C fs t least w ch ah) {p q m : Nat} (hq : q < p) (hp : p ≤ t.length) (hQ : Q (.int (min (L t p q) (min m (t.length - p)) : Nat)) σ) :
    WC X (k + 2) (.ref 145) [.ref f, .int p, .int q, .int m] σ Q := by
  refine wc_of F F.Matcher_length rfl ?_
  try simp only [wpSs, wpS, wpE, wpEs, truthP, cmpP, copI, methP, retQ, initR, List.getElem?_cons_zero, List.getElem?_cons_succ, List.cons_append, List.nil_append, List.replicate_zero, Nat.reduceSub, Option.some.injEq, exists_eq_left', ne_eq, reduceCtorEq, not_false_eq_true, true_and, if_true, Bool.not_true, Bool.not_false, decide_eq_true_eq, decide_eq_false_iff_not, Bool.not_eq_eq_eq_not, f_Matcher_length, f_Matcher_length_b, M.obj]
  refine pos (by omega) (neg (by omega) ?_)
  try simp only [Option.some.injEq, exists_eq_left', true_and, M.nom 20 (by decide), M.nom 18 (by decide), hC.m20, hC.m18]
  refine limit_c F M hp ?_
  try simp only [wpSs, wpS, wpE, wpEs, wpI, truthP, cmpP, copI, binP, binI, attrP, lenP, asItems, asList, asFrozen, methP, asgP, setAll, setattrP, putF, retQ, initR, idxP, lastP, bndP, sliceP, revP, dgetP, isDict, range1P, range2P, range3P, appendP, frzP, V.isNone, mkList, List.getElem?_cons_zero, List.getElem?_cons_succ, List.set_cons_zero, List.set_cons_succ, List.set_nil, List.cons_append, List.nil_append, List.replicate_succ, List.replicate_zero, Nat.reduceSub, Nat.reduceAdd, Option.some.injEq, exists_eq_left', ne_eq, reduceCtorEq, not_false_eq_true, true_and, and_true, if_true, if_false, Bool.true_eq_false, Bool.false_eq_true, Option.isSome_some, Nat.reduceBEq, List.lookup_nil, lookup_hit, lookup_miss, bne_self_eq_false, Bool.not_true, Bool.not_false, decide_true, decide_false, ite_true, ite_false, reduceIte, Nat.reduceEqDiff, Nat.reduceLT, Nat.reduceLeDiff, List.length_cons, List.length_nil, decide_eq_true_eq, Bool.not_eq_true', decide_eq_false_iff_not, Int.toNat_natCast, List.length_map, Bool.and_eq_true, Bool.or_eq_true, Bool.not_eq_eq_eq_not, Bool.not_eq_true, Bool.not_eq_false]
  exact alike_c (kn := 0) (limit := min m (t.length - p)) F M hq (by omega) hp (by omega) hQ
def pairN (x : Nat × Nat) : V := .tup [.int (x.1 : Nat), .int (x.2 : Nat)]
def Ext (σ σ' : AHeap) : Prop := ∀ a o, σ a = some o → σ' a = some o
theorem Ext.refl {σ : AHeap} : Ext σ σ := fun _ _ h => h
theorem Ext.trans {σ σ' σ'' : AHeap} (x : Ext σ σ') (y : Ext σ' σ'') : Ext σ σ'' := fun a o h => y a o (x a o h)
theorem Ext.upd {σ : AHeap} {a : Addr} {o : AObj} (h : σ a = none) : Ext σ (upd σ a o) := fun b o' e => by
  by_cases q : b = a
  · subst q; rw [h] at e; cases e
  · rw [upd_ne q]; exact e
def Fram (foot : Addr → Prop) (σ σ' : AHeap) : Prop := ∀ a o, ¬ foot a → σ a = some o → σ' a = some o
theorem Ext.fram {foot : Addr → Prop} {σ σ' : AHeap} (x : Ext σ σ') : Fram foot σ σ' := fun a o _ h => x a o h
theorem Fram.trans {foot : Addr → Prop} {σ σ' σ'' : AHeap} (x : Fram foot σ σ') (y : Fram foot σ' σ'') : Fram foot σ σ'' := fun a o n h => y a o n (x a o n h)
structure Fi (X : Cx) (k : Nat) (t : List Nat) (least w : Nat) (f : Addr) (foot : Addr → Prop) (Inv : Nat → AHeap → Prop) : Prop where
  self : foot f
  mt : ∀ i σ, Inv i σ → ∃ C fs ch, isF C ∧ Mt σ f C fs t least w ch i
  keep : ∀ i (σ σ' : AHeap), Inv i σ → (∀ a o, foot a → σ a = some o → σ' a = some o) → Inv i σ'
  live : ∀ i (σ : AHeap), Inv i σ → ∀ a, foot a → σ a ≠ none
  every : ∀ i (σ : AHeap) (m : Nat), Inv i σ → i < t.length →
    ∃ C fs fn, σ f = some (.inst C fs) ∧ fs.lookup 22 = none ∧ meth C 22 = some fn ∧ WC X k (.ref fn) [.ref f, .int i, .int m] σ (fun v σ' => v = .list ((recs t i (min m (t.length - i)) (least - 1) (cands i w)).map pairN) ∧ Ext σ σ')
  put : ∀ i (σ : AHeap), Inv i σ → i < t.length → WC X k (.ref 117) [.ref f, .int i] σ (fun v σ' => Inv (i + 1) σ' ∧ Fram foot σ σ')
def bestN (l : List (Nat × Nat)) : Nat × Nat := l.getLast?.getD (0, 0)
theorem best_c (F : Fns X) {foot : Addr → Prop} {Inv : Nat → AHeap → Prop} (Z : Fi X k t least w f foot Inv) {i m : Nat} (hI : Inv i σ) (hi : i < t.length)
    (hQ : ∀ σ', Ext σ σ' → Q (pairN (bestN (recs t i (min m (t.length - i)) (least - 1) (cands i w)))) σ') : WC X (k + 1) (.ref 180) [.ref f, .int i, .int m] σ Q := by
  refine wc_of F F.Matcher_best rfl ?_
  obtain ⟨C, fs, fn, h1, h2, h3, h4⟩ := Z.every i σ m hI hi
  try simp only [wpSs, wpS, wpE, wpEs, truthP, cmpP, copI, lenP, asItems, asList, methP, asgP, retQ, initR, lastP, List.getElem?_cons_zero, List.getElem?_cons_succ, List.set_cons_zero, List.set_cons_succ, List.cons_append, List.nil_append, List.replicate_succ, List.replicate_zero, Nat.reduceSub, Nat.reduceAdd, Option.some.injEq, exists_eq_left', ne_eq, reduceCtorEq, not_false_eq_true, true_and, Nat.reduceLeDiff, List.length_cons, List.length_nil, decide_eq_true_eq, f_Matcher_best, f_Matcher_best_b, h1, h2, h3]
  refine h4.mono fun v σ' ⟨ev, e⟩ => ?_
  subst ev
  have hQ' := hQ σ' e
  generalize hl : recs t i (min m (t.length - i)) (least - 1) (cands i w) = l
  rw [hl] at hQ'
  try simp only [reduceCtorEq, not_false_eq_true, true_and, List.length_map]
  cases l with
  | nil => exact neg (by simp) hQ'
  | cons a l =>
    refine pos (by simp) ?_
    have e1 : ((a :: l).map pairN).getLast? = some (pairN (bestN (a :: l))) := by
      rw [List.getLast?_map]
      unfold bestN
      cases q : (a :: l).getLast? with
      | none => simp at q
      | some x => rfl
    exact ⟨_, e1, hQ'⟩
end
end Mine
end

section
namespace Mine
section
variable {t : List Nat}
def chainL (t : List Nat) (s : Nat) (n : Nat) : Nat → List Nat
  | 0 => []
  | i + 1 => if keyN t i s = some n then i :: chainL t s n i else chainL t s n i
def headI : List Nat → Int
  | [] => -1
  | c :: _ => c
theorem chainL_mem {s n c : Nat} : ∀ {i : Nat}, c ∈ chainL t s n i ↔ c < i ∧ keyN t c s = some n
  | 0 => by simp [chainL]
  | i + 1 => by
    unfold chainL
    split
    · rename_i h
      rw [List.mem_cons, chainL_mem]
      constructor
      · rintro (rfl | ⟨h1, h2⟩)
        · exact ⟨by omega, h⟩
        · exact ⟨by omega, h2⟩
      · rintro ⟨h1, h2⟩
        by_cases e : c = i
        · exact .inl e
        · exact .inr ⟨by omega, h2⟩
    · rename_i h
      rw [chainL_mem]
      constructor
      · rintro ⟨h1, h2⟩; exact ⟨by omega, h2⟩
      · rintro ⟨h1, h2⟩
        have : c ≠ i := fun e => h (by rw [← e]; exact h2)
        exact ⟨by omega, h2⟩
theorem chainL_desc {s n : Nat} : ∀ {i : Nat}, (chainL t s n i).Pairwise (· > ·)
  | 0 => by simp [chainL]
  | i + 1 => by
    unfold chainL
    split
    · rw [List.pairwise_cons]
      exact ⟨fun c h => (chainL_mem.mp h).1, chainL_desc⟩
    · exact chainL_desc
theorem chainL_cons {s n c : Nat} {r : List Nat} : ∀ {i : Nat}, chainL t s n i = c :: r → r = chainL t s n c ∧ c < i ∧ keyN t c s = some n
  | 0, h => by simp [chainL] at h
  | i + 1, h => by
    unfold chainL at h
    split at h
    · rename_i hk
      cases h
      exact ⟨rfl, by omega, hk⟩
    · obtain ⟨h1, h2, h3⟩ := chainL_cons h
      exact ⟨h1, by omega, h3⟩
theorem desc_sub : ∀ {l1 l2 : List Nat}, l2.Pairwise (· > ·) → l1.Pairwise (· > ·) → (∀ c ∈ l2, c ∈ l1) → l2.Sublist l1
  | [], [], _, _, _ => .slnil
  | [], a :: l2, _, _, h => by cases h a List.mem_cons_self
  | a :: l1, [], _, _, _ => List.nil_sublist _
  | a :: l1, b :: l2, h2, h1, h => by
    rw [List.pairwise_cons] at h1 h2
    by_cases e : b = a
    · subst e
      refine .cons_cons _ (desc_sub h2.2 h1.2 fun c hc => ?_)
      rcases List.mem_cons.mp (h c (List.mem_cons_of_mem _ hc)) with rfl | h3
      · exact absurd (h2.1 c hc) (Nat.lt_irrefl _)
      · exact h3
    · refine .cons _ (desc_sub (List.pairwise_cons.mpr h2) h1.2 fun c hc => ?_)
      have hb : b ∈ l1 := by
        rcases List.mem_cons.mp (h b List.mem_cons_self) with h3 | h3
        · exact absurd h3 e
        · exact h3
      rcases List.mem_cons.mp (h c hc) with rfl | h3
      · have := h1.1 b hb
        rcases List.mem_cons.mp hc with h4 | h4
        · exact absurd h4.symm e
        · have := h2.1 c h4; omega
      · exact h3
theorem num256_snoc (l : List Nat) (o : Nat) : num256 (l ++ [o]) = num256 l * 256 + o := by unfold num256; rw [List.foldl_append]; rfl
theorem num256_inj : ∀ (m : Nat) (l l' : List Nat), l.length = m → l'.length = m → (∀ o ∈ l, o < 256) → (∀ o ∈ l', o < 256) → num256 l = num256 l' → l = l'
  | 0, l, l', h1, h2, _, _, _ => by rw [List.length_eq_zero_iff] at h1 h2; rw [h1, h2]
  | m + 1, l, l', h1, h2, b1, b2, e => by
    have d1 := List.dropLast_concat_getLast (l := l) (by intro h; rw [h] at h1; cases h1)
    have d2 := List.dropLast_concat_getLast (l := l') (by intro h; rw [h] at h2; cases h2)
    rw [← d1, ← d2] at e
    rw [num256_snoc, num256_snoc] at e
    have l1 := b1 _ (List.getLast_mem (l := l) (by intro h; rw [h] at h1; cases h1))
    have l2 := b2 _ (List.getLast_mem (l := l') (by intro h; rw [h] at h2; cases h2))
    have e1 : num256 l.dropLast = num256 l'.dropLast := by omega
    have e2 := num256_inj m l.dropLast l'.dropLast (by simp [h1]) (by simp [h2]) (fun o h => b1 o (List.dropLast_subset _ h)) (fun o h => b2 o (List.dropLast_subset _ h)) e1
    rw [← d1, ← d2, e2]
    congr 2
    omega
theorem keyN_iff {s p q : Nat} (hb : ∀ o ∈ t, o < 256) (hq : q < p) (hp : p + s ≤ t.length) (hs : 0 < s) : keyN t q s = keyN t p s ↔ s ≤ L t p q := by
  unfold keyN
  rw [if_pos (by omega), if_pos hp]
  have m : ∀ r, (∀ o ∈ (t.drop r).take s, o < 256) := fun r o h => hb o (List.drop_subset _ _ (List.take_subset _ _ h))
  constructor
  · intro e
    have e2 := num256_inj s _ _ (by simp; omega) (by simp; omega) (m _) (m _) (Option.some.inj e)
    refine L_ge (by omega) (by omega) (by omega) fun i hi => dg_of ?_
    have e3 : ((t.drop q).take s)[i]? = ((t.drop p).take s)[i]? := by rw [e2]
    rw [List.getElem?_take_of_lt hi, List.getElem?_take_of_lt hi, List.getElem?_drop, List.getElem?_drop] at e3
    exact e3.symm
  · intro h
    congr 2
    apply List.ext_getElem?
    intro i
    by_cases hi : i < s
    · rw [List.getElem?_take_of_lt hi, List.getElem?_take_of_lt hi, List.getElem?_drop, List.getElem?_drop]
      exact (dg_inj (L_eq (by omega))).symm
    · rw [List.getElem?_eq_none (by simp; omega), List.getElem?_eq_none (by simp; omega)]
theorem keyN_some {s p : Nat} (h : p + s ≤ t.length) : ∃ n, keyN t p s = some n := by unfold keyN; rw [if_pos h]; exact ⟨_, rfl⟩
theorem keyN_none {s p : Nat} (h : t.length < p + s) : keyN t p s = none := by unfold keyN; rw [if_neg (by omega)]
theorem chain_recs {s p w lim n : Nat} (hb : ∀ o ∈ t, o < 256) (hs : 0 < s) (hn : keyN t p s = some n) : recs t p lim (s - 1) ((chainL t s n p).filter fun q => decide (p - q ≤ w)) = recs t p lim (s - 1) (cands p w) := by
  have hp : p + s ≤ t.length := by
    rcases Nat.lt_or_ge t.length (p + s) with h | h
    · rw [keyN_none h] at hn; cases hn
    · exact h
  refine recs_sub (desc_sub (chainL_desc.filter _) cands_desc fun c h => ?_) cands_desc fun c h1 h2 => ?_
  · rw [List.mem_filter, chainL_mem] at h
    exact cands_mem.mpr ⟨h.1.1, by simpa using h.2⟩
  · refine .inl ?_
    rw [cands_mem] at h1
    have : ¬ (s ≤ L t p c) := fun h => h2 (by
      rw [List.mem_filter, chainL_mem]
      exact ⟨⟨h1.1, ((keyN_iff hb h1.1 hp hs).mpr h).trans hn⟩, by simpa using h1.2⟩)
    unfold fv; omega
theorem none_recs {s p w lim : Nat} (hs : 0 < s) (hn : keyN t p s = none) : recs t p lim (s - 1) (cands p w) = [] := by
  refine recs_nil fun c hc => ?_
  have := (L_le (t := t) (p := p) (q := c)).1
  have hp : t.length < p + s := by
    rcases Nat.lt_or_ge t.length (p + s) with h | h
    · exact h
    · obtain ⟨m, e⟩ := keyN_some h; rw [hn] at e; cases e
  unfold fv; omega
end
end Mine
end

section
open PySem PySem.Calls PyProof.Rows PySem.W
set_option maxRecDepth 20000
namespace Mine
theorem upd_upd {σ : AHeap} {a : Addr} {o o' : AObj} : upd (upd σ a o) a o' = upd σ a o' := by
  funext b; unfold upd; split <;> rfl
theorem del_upd {σ : AHeap} {a : Addr} {o : AObj} (h : σ a = none) : del (upd σ a o) a = σ := by
  funext b; unfold upd del; split
  · rename_i e; rw [e, h]
  · rename_i e; exact if_neg e
section
variable {X : Cx} {k : Nat}
variable {σ : AHeap} {f C : Addr} {fs : List (Nat × V)} {t : List Nat} {least w ch ah : Nat} {Q : V → AHeap → Prop}
theorem Mt.mono {σ' : AHeap} (M : Mt σ f C fs t least w ch ah) (h : ∀ o, σ f = some o → σ' f = some o) : Mt σ' f C fs t least w ch ah := ⟨h _ M.obj, M.f0, M.f4, M.f5, M.f6, M.f7, M.nom⟩
structure Row (σ : AHeap) (r : Addr) (t : List Nat) (s : Nat) (la be : Addr) (i : Nat) : Prop where
  obj : σ r = some (.inst 92 (rowF t s la be))
  di : ∃ nd m, σ la = some (.dict nd m) ∧ nd ≤ i ∧ (∀ n v, m n = some v → ∃ z : Int, v = .int z) ∧ ∀ n : Nat, (m n).getD (.int (-1)) = .int (headI (chainL t s n i))
  li : ∃ l, σ be = some (.list l) ∧ l.length = t.length ∧ ∀ q, q < i → ∀ n, keyN t q s = some n → l[q]? = some (.int (headI (chainL t s n q)))
def rowFt (r la be : Addr) : Addr → Prop := fun a => a = r ∨ a = la ∨ a = be
theorem Row.keep {σ' : AHeap} {r la be : Addr} {s i : Nat} (x : Row σ r t s la be i) (h : ∀ a o, rowFt r la be a → σ a = some o → σ' a = some o) : Row σ' r t s la be i := by
  obtain ⟨a, ⟨nd, m, b1, b2⟩, ⟨l, c1, c2⟩⟩ := x
  exact ⟨h _ _ (.inl rfl) a, ⟨nd, m, h _ _ (.inr (.inl rfl)) b1, b2⟩, ⟨l, h _ _ (.inr (.inr rfl)) c1, c2⟩⟩
theorem Row.live {r la be : Addr} {s i : Nat} (x : Row σ r t s la be i) : ∀ a, rowFt r la be a → σ a ≠ none := by
  obtain ⟨h1, ⟨nd, m, h2, _⟩, ⟨l, h3, _⟩⟩ := x
  rintro a (rfl | rfl | rfl) e
  · rw [h1] at e; cases e
  · rw [h2] at e; cases e
  · rw [h3] at e; cases e
def newestI (t : List Nat) (s i : Nat) : Int := match keyN t i s with | some n => headI (chainL t s n i) | none => -1
theorem headI_lt {s n i : Nat} : headI (chainL t s n i) < (i : Int) := by
  cases e : chainL t s n i with
  | nil => simp [headI]; omega
  | cons c r => have := (chainL_cons e).2.1; simp [headI]; omega
theorem newest_r (F : Fns X) {r la be : Addr} {s i : Nat} (x : Row σ r t s la be i) (hi : i ≤ t.length) (hQ : Q (.int (newestI t s i)) σ) : WC X (k + 2) (.ref 89) [.ref r, .int i] σ Q := by
  obtain ⟨a, ⟨nd, m, b1, b2, b3, b4⟩, ⟨l, c1, c2⟩⟩ := x
  have e : lastV m (keyN t i s) = newestI t s i := by
    unfold lastV newestI
    cases hk : keyN t i s with
    | none => rfl
    | some n =>
      have h4 := b4 n
      dsimp only
      cases q : m (n : Int) with
      | none => rw [q] at h4; simpa using h4
      | some v => obtain ⟨z, rfl⟩ := b3 _ _ q; rw [q] at h4; simpa using h4
  refine newest_c F a b1 hi b3 ?_ ?_
  · rw [e]; unfold newestI; split
    · exact headI_lt
    · omega
  · rw [e]; exact hQ
theorem put_r (F : Fns X) {r la be : Addr} {s i : Nat} (x : Row σ r t s la be i) (hi : i < t.length) (hn : t.length ≤ 900) :
    WC X (k + 2) (.ref 82) [.ref r, .int i] σ (fun v σ' => Row σ' r t s la be (i + 1) ∧ Fram (rowFt r la be) σ σ') := by
  obtain ⟨a, ⟨nd, m, b1, b2, b3, b4⟩, ⟨l, c1, c2, c3⟩⟩ := x
  have ne : la ≠ be := fun e => by rw [e, c1] at b1; cases b1
  have n1 : r ≠ la := fun e => by rw [e, b1] at a; cases a
  have n2 : r ≠ be := fun e => by rw [e, c1] at a; cases a
  refine put_c F a b1 c1 hi (by omega) c2 ne ?_
  cases hk : keyN t i s with
  | none =>
    refine ⟨⟨a, ⟨nd, m, b1, by omega, b3, fun n => ?_⟩, ⟨l, c1, c2, fun q hq n hn => ?_⟩⟩, fun b o _ e => e⟩
    · rw [b4, chainL, if_neg (by rw [hk]; simp)]
    · rcases Nat.lt_or_ge q i with h | h
      · exact c3 q h n hn
      · rw [show q = i by omega, hk] at hn; cases hn
  | some n =>
    refine ⟨⟨?_, ⟨nd + 1, _, upd_self, by omega, fun j v hv => ?_, fun n' => ?_⟩, ⟨_, by rw [upd_ne ne.symm]; exact upd_self, by simp [c2], fun q hq n' hn' => ?_⟩⟩, fun b o nb e => ?_⟩
    · rw [upd_ne n1, upd_ne n2]; exact a
    · replace hv : (if j = (n : Int) then some (V.int (i : Int)) else m j) = some v := hv
      split at hv
      · cases hv; exact ⟨_, rfl⟩
      · exact b3 _ _ hv
    · show (if (n' : Int) = (n : Int) then some (V.int (i : Int)) else m n').getD _ = _
      by_cases h : n' = n
      · subst h
        rw [if_pos rfl, chainL, if_pos hk]
        rfl
      · rw [if_neg (by omega), b4, chainL, if_neg (by rw [hk]; simp; omega)]
    · rcases Nat.lt_or_ge q i with h | h
      · rw [List.getElem?_set_ne (by omega)]
        exact c3 q h n' hn'
      · have e : q = i := by omega
        subst e
        rw [hk] at hn'
        cases hn'
        rw [List.getElem?_set_self (by omega), b4]
    · rw [upd_ne (fun e => nb (.inr (.inl e))), upd_ne (fun e => nb (.inr (.inr e)))]
      exact e
theorem mput_c (F : Fns X) {fe : Addr} {i : Nat} (hC : meth C 17 = some fe) (M : Mt σ f C fs t least w ch i) (hl : fs.length < 100) (hi : i < t.length)
    (h : WC X k (.ref fe) [.ref f, .int i] (upd σ f (.inst C (putF 7 (.int (i + 1 : Nat)) fs))) fun _ σ' => Q .none σ') (hnom : (putF 7 (.int (i + 1 : Nat)) fs).lookup 17 = none) : WC X (k + 1) (.ref 117) [.ref f, .int i] σ Q := by
  refine wc_of F F.Matcher_put rfl ?_
  unfold f_Matcher_put f_Matcher_put_b
  try simp only [wpSs, wpS, wpE, wpEs, truthP, cmpP, copI, binP, binI, attrP, lenP, asItems, asList, methP, setattrP, retQ, initR, List.getElem?_cons_zero, List.getElem?_cons_succ, List.cons_append, List.nil_append, List.replicate_zero, Nat.reduceSub, Option.some.injEq, exists_eq_left', ne_eq, reduceCtorEq, not_false_eq_true, true_and, if_true, Nat.reduceLT, decide_eq_true_eq, List.length_map, M.obj, M.f0, M.f7]
  refine neg (by omega) ?_
  try simp only [wpSs, wpS, wpE, wpEs, wpI, truthP, cmpP, copI, binP, binI, attrP, lenP, asItems, asList, asFrozen, methP, asgP, setAll, setattrP, putF, retQ, initR, idxP, lastP, bndP, sliceP, revP, dgetP, isDict, range1P, range2P, range3P, appendP, frzP, V.isNone, mkList, List.getElem?_cons_zero, List.getElem?_cons_succ, List.set_cons_zero, List.set_cons_succ, List.set_nil, List.cons_append, List.nil_append, List.replicate_succ, List.replicate_zero, Nat.reduceSub, Nat.reduceAdd, Option.some.injEq, exists_eq_left', ne_eq, reduceCtorEq, not_false_eq_true, true_and, and_true, if_true, if_false, Bool.true_eq_false, Bool.false_eq_true, Option.isSome_some, Nat.reduceBEq, List.lookup_nil, lookup_hit, lookup_miss, bne_self_eq_false, Bool.not_true, Bool.not_false, decide_true, decide_false, ite_true, ite_false, reduceIte, Nat.reduceEqDiff, Nat.reduceLT, Nat.reduceLeDiff, List.length_cons, List.length_nil, decide_eq_true_eq, Bool.not_eq_true', decide_eq_false_iff_not, Int.toNat_natCast, List.length_map, Bool.and_eq_true, Bool.or_eq_true, Bool.not_eq_eq_eq_not, Bool.not_eq_true, Bool.not_eq_false, M.obj, M.f0, M.f7]
  rw [if_neg (by omega)]
  rw [show ((i : Int) + 1) = ((i + 1 : Nat) : Int) by omega]
  refine ⟨hl, ?_⟩
  try simp only [Option.some.injEq, exists_eq_left', true_and, upd_self, hnom, hC]
  exact h
def finF (t : List Nat) (least w ch ah : Nat) (r : Addr) : List (Nat × V) := [(0, .bytes t), (4, .int least), (5, .int w), (6, .int ch), (7, .int ah), (8, .ref r)]
theorem finF_mt {ah : Nat} {r : Addr} (h : σ f = some (.inst C (finF t least w ch ah r))) : Mt σ f C (finF t least w ch ah r) t least w ch ah :=
  ⟨h, rfl, rfl, rfl, rfl, rfl, fun m hm => by
    unfold finF
    rw [lookup_miss (by simp; omega), lookup_miss (by simp; omega), lookup_miss (by simp; omega), lookup_miss (by simp; omega), lookup_miss (by simp; omega), lookup_miss (by simp; omega)]; rfl⟩
def FinI (t : List Nat) (least w ch : Nat) (f r la be : Addr) (i : Nat) (σ : AHeap) : Prop := σ f = some (.inst 226 (finF t least w ch i r)) ∧ Row σ r t least la be i
def finFt (f r la be : Addr) : Addr → Prop := fun a => a = f ∨ rowFt r la be a
theorem fin_put (F : Fns X) {r la be : Addr} {i : Nat} (I : FinI t least w ch f r la be i σ) (hi : i < t.length) (hn : t.length ≤ 900) :
    WC X (k + 4) (.ref 117) [.ref f, .int i] σ (fun v σ' => FinI t least w ch f r la be (i + 1) σ' ∧ Fram (finFt f r la be) σ σ') := by
  obtain ⟨hf, hr⟩ := I
  have n1 : r ≠ f := fun e => by rw [e] at hr; have := hr.obj; rw [hf] at this; cases this
  have n2 : la ≠ f := fun e => by obtain ⟨nd, m, b1, _⟩ := hr.di; rw [e, hf] at b1; cases b1
  have n3 : be ≠ f := fun e => by obtain ⟨l, b1, _⟩ := hr.li; rw [e, hf] at b1; cases b1
  refine mput_c F (C := 226) (fe := 209) rfl (finF_mt hf) (by simp [finF]) hi ?_ rfl
  show WC X (k + 3) (.ref 209) [.ref f, .int i] (upd σ f (.inst 226 (finF t least w ch (i + 1) r))) _
  have x : Row (upd σ f (.inst 226 (finF t least w ch (i + 1) r))) r t least la be i := hr.keep fun a o ha e => by
    have : a ≠ f := by rcases ha with rfl | rfl | rfl <;> assumption
    rw [upd_ne this]; exact e
  refine wc_of F F.Finder_enter rfl ?_
  have x1 := x.obj
  unfold rowF finF at x1
  try simp only [wpSs, wpS, wpE, wpEs, attrP, methP, retQ, initR, List.getElem?_cons_zero, List.getElem?_cons_succ, List.cons_append, List.nil_append, List.replicate_zero, Nat.reduceSub, Option.some.injEq, exists_eq_left', ne_eq, reduceCtorEq, not_false_eq_true, true_and, Nat.reduceBEq, List.lookup_nil, lookup_hit, lookup_miss, f_Finder_enter, f_Finder_enter_b, upd_self, finF, x1]
  refine ⟨82, rfl, ?_⟩
  refine (put_r F x hi hn).mono fun v σ' ⟨h1, h2⟩ => ?_
  have nf : ¬ rowFt r la be f := fun h => by rcases h with h | h | h <;> simp_all
  refine ⟨⟨h2 _ _ nf upd_self, h1⟩, fun a o ha e => h2 _ _ (fun h => ha (.inr h)) ?_⟩
  rw [upd_ne (fun e => ha (.inl e))]
  exact e
theorem cand_loop (F : Fns X) {a r la be : Addr} {p n : Nat} {R : Fl → List V → AHeap → Prop} (M : Mt σ f C fs t least w ch p) (hC : isF C) (h8 : fs.lookup 8 = some (.ref r)) (Rw : Row σ r t least la be p) (ha : σ a = none)
    (hch : t.length < ch) (hn : t.length ≤ 900) (hp : p < t.length) : ∀ (i : Nat) (acc : List V) (m : Nat), i < m → i ≤ p → acc.length + i ≤ p →
    (∀ z, R .next [.ref f, .int p, .ref a, z] (upd σ a (.list (acc ++ ((chainL t least n i).filter fun q => decide (p - q ≤ w)).map fun (q : Nat) => V.int (q : Int))))) →
    whileP (fun ρ σ Q => wpE X (k + 1) f_Finder_candidates_c1 ρ σ fun u σ₁ => truthP u fun b => Q b σ₁) (fun ρ σ Q => wpSs X (k + 1) f_Finder_candidates_b2 ρ σ Q) R m [.ref f, .int p, .ref a, .int (headI (chainL t least n i))] (upd σ a (.list acc)) := by
  intro i
  induction i using Nat.strongRecOn with
  | ind i ih =>
    intro acc m hm hi hacc hR
    cases m with
    | zero => omega
    | succ m =>
      have E : Ext σ (upd σ a (.list acc)) := .upd ha
      have M' := M.mono (σ' := upd σ a (.list acc)) fun o h => E _ _ h
      have R' := Rw.keep (σ' := upd σ a (.list acc)) fun b o _ h => E _ _ h
      have o1 := R'.obj
      unfold rowF at o1
      obtain ⟨l, l1, l2, l3⟩ := R'.li
      unfold whileP
      generalize hK : whileP _ _ R m = K
      try simp only [wpE, wpEs, truthP, cmpP, copI, attrP, lenP, asItems, asList, methP, List.getElem?_cons_zero, List.getElem?_cons_succ, Option.some.injEq, exists_eq_left', ne_eq, reduceCtorEq, not_false_eq_true, true_and, if_false, Bool.false_eq_true, decide_eq_true_eq, f_Finder_candidates_c1, M'.obj, M'.nom 21 (by decide)]
      refine ⟨159, hC.m21, ?_⟩
      refine near_c F M' ?_
      try simp only [Option.some.injEq, exists_eq_left', ne_eq, reduceCtorEq, not_false_eq_true, true_and, decide_eq_true_eq, M'.obj, M'.f6, upd_self]
      cases hc : chainL t least n i with
      | nil =>
        rw [hc] at hR
        refine neg (by simp [headI]) ?_
        try simp only [wpSs, wpS, wpE, wpEs, wpI, truthP, cmpP, copI, binP, binI, attrP, lenP, asItems, asList, asFrozen, methP, asgP, setAll, setattrP, putF, retQ, initR, idxP, lastP, bndP, sliceP, revP, dgetP, isDict, range1P, range2P, range3P, appendP, frzP, V.isNone, mkList, List.getElem?_cons_zero, List.getElem?_cons_succ, List.set_cons_zero, List.set_cons_succ, List.set_nil, List.cons_append, List.nil_append, List.replicate_succ, List.replicate_zero, Nat.reduceSub, Nat.reduceAdd, Option.some.injEq, exists_eq_left', ne_eq, reduceCtorEq, not_false_eq_true, true_and, and_true, if_true, if_false, Bool.true_eq_false, Bool.false_eq_true, Option.isSome_some, Nat.reduceBEq, List.lookup_nil, lookup_hit, lookup_miss, bne_self_eq_false, Bool.not_true, Bool.not_false, decide_true, decide_false, ite_true, ite_false, reduceIte, Nat.reduceEqDiff, Nat.reduceLT, Nat.reduceLeDiff, List.length_cons, List.length_nil, decide_eq_true_eq, Bool.not_eq_true', decide_eq_false_iff_not, Int.toNat_natCast, List.length_map, Bool.and_eq_true, Bool.or_eq_true, Bool.not_eq_eq_eq_not, Bool.not_eq_true, Bool.not_eq_false]
        simpa using hR _
      | cons c rest =>
        obtain ⟨e1, e2, e3⟩ := chainL_cons hc
        rw [hc] at hR
        by_cases hw : p - c ≤ w
        · refine pos (by simp only [headI]; omega) (pos (by omega) ?_)
          rw [List.filter_cons_of_pos (by simpa using hw), List.map_cons, List.append_cons] at hR
          subst hK
          try simp only [wpSs, wpS, wpE, truthP, attrP, asItems, asList, asgP, idxP, appendP, List.getElem?_cons_zero, List.getElem?_cons_succ, List.set_cons_zero, List.set_cons_succ, Option.some.injEq, exists_eq_left', ne_eq, reduceCtorEq, not_false_eq_true, true_and, Option.isSome_some, f_Finder_candidates_b2, upd_self]
          refine ⟨by omega, ?_⟩
          rw [upd_upd]
          have E2 : Ext σ (upd σ a (.list (acc ++ [.int (headI (c :: rest))]))) := .upd ha
          have M2 := M.mono (σ' := upd σ a (.list (acc ++ [.int (headI (c :: rest))]))) fun o h => E2 _ _ h
          have R2 := Rw.keep (σ' := upd σ a (.list (acc ++ [.int (headI (c :: rest))]))) fun b o _ h => E2 _ _ h
          have o2 := R2.obj
          unfold rowF at o2
          obtain ⟨l, l1, l2, l3⟩ := R2.li
          try simp only [Option.some.injEq, exists_eq_left', reduceCtorEq, not_false_eq_true, true_and, Nat.reduceBEq, lookup_hit, lookup_miss, M2.obj, h8, o2, l1]
          refine ⟨by simp [headI], _, by simp only [headI]; exact l3 c (by omega) n e3, ?_⟩
          try simp only [wpSs, wpS, wpE, wpEs, wpI, truthP, cmpP, copI, binP, binI, attrP, lenP, asItems, asList, asFrozen, methP, asgP, setAll, setattrP, putF, retQ, initR, idxP, lastP, bndP, sliceP, revP, dgetP, isDict, range1P, range2P, range3P, appendP, frzP, V.isNone, mkList, List.getElem?_cons_zero, List.getElem?_cons_succ, List.set_cons_zero, List.set_cons_succ, List.set_nil, List.cons_append, List.nil_append, List.replicate_succ, List.replicate_zero, Nat.reduceSub, Nat.reduceAdd, Option.some.injEq, exists_eq_left', ne_eq, reduceCtorEq, not_false_eq_true, true_and, and_true, if_true, if_false, Bool.true_eq_false, Bool.false_eq_true, Option.isSome_some, Nat.reduceBEq, List.lookup_nil, lookup_hit, lookup_miss, bne_self_eq_false, Bool.not_true, Bool.not_false, decide_true, decide_false, ite_true, ite_false, reduceIte, Nat.reduceEqDiff, Nat.reduceLT, Nat.reduceLeDiff, List.length_cons, List.length_nil, decide_eq_true_eq, Bool.not_eq_true', decide_eq_false_iff_not, Int.toNat_natCast, List.length_map, Bool.and_eq_true, Bool.or_eq_true, Bool.not_eq_eq_eq_not, Bool.not_eq_true, Bool.not_eq_false]
          refine ih c e2 _ m (by omega) (by omega) (by simp; omega) ?_
          rw [← e1]
          exact hR
        · refine neg (by simp only [headI]; omega) ?_
          rw [List.filter_cons_of_neg (by simpa using hw)] at hR
          have e4 : rest.filter (fun q => decide (p - q ≤ w)) = [] := by
            rw [List.filter_eq_nil_iff]
            intro q hq
            rw [e1, chainL_mem] at hq
            simp; omega
          rw [e4] at hR
          try simp only [wpSs, wpS, wpE, wpEs, wpI, truthP, cmpP, copI, binP, binI, attrP, lenP, asItems, asList, asFrozen, methP, asgP, setAll, setattrP, putF, retQ, initR, idxP, lastP, bndP, sliceP, revP, dgetP, isDict, range1P, range2P, range3P, appendP, frzP, V.isNone, mkList, List.getElem?_cons_zero, List.getElem?_cons_succ, List.set_cons_zero, List.set_cons_succ, List.set_nil, List.cons_append, List.nil_append, List.replicate_succ, List.replicate_zero, Nat.reduceSub, Nat.reduceAdd, Option.some.injEq, exists_eq_left', ne_eq, reduceCtorEq, not_false_eq_true, true_and, and_true, if_true, if_false, Bool.true_eq_false, Bool.false_eq_true, Option.isSome_some, Nat.reduceBEq, List.lookup_nil, lookup_hit, lookup_miss, bne_self_eq_false, Bool.not_true, Bool.not_false, decide_true, decide_false, ite_true, ite_false, reduceIte, Nat.reduceEqDiff, Nat.reduceLT, Nat.reduceLeDiff, List.length_cons, List.length_nil, decide_eq_true_eq, Bool.not_eq_true', decide_eq_false_iff_not, Int.toNat_natCast, List.length_map, Bool.and_eq_true, Bool.or_eq_true, Bool.not_eq_eq_eq_not, Bool.not_eq_true, Bool.not_eq_false]
          simpa using hR _
theorem cand_c (F : Fns X) {r la be : Addr} {p : Nat} (M : Mt σ f C fs t least w ch p) (hC : isF C) (h8 : fs.lookup 8 = some (.ref r)) (Rw : Row σ r t least la be p)
    (hch : t.length < ch) (hn : t.length ≤ 900) (hp : p < t.length) : WC X (k + 3) (.ref 216) [.ref f, .int p] σ (fun v σ' => σ' = σ ∧
      v = .list (match keyN t p least with | some n => ((chainL t least n p).filter fun q => decide (p - q ≤ w)).map fun (q : Nat) => V.int (q : Int) | none => [])) := by
  refine wc_of F F.Finder_candidates rfl ?_
  try simp only [wpSs, wpS, wpE, wpEs, truthP, attrP, methP, asgP, retQ, initR, frzP, mkList, List.getElem?_cons_zero, List.getElem?_cons_succ, List.set_cons_zero, List.set_cons_succ, List.cons_append, List.nil_append, List.replicate_succ, List.replicate_zero, Nat.reduceSub, Option.some.injEq, exists_eq_left', ne_eq, reduceCtorEq, not_false_eq_true, true_and, if_true, Nat.reduceLeDiff, List.length_nil, f_Finder_candidates, f_Finder_candidates_b]
  refine fun a ha => ?_
  have E : Ext σ (upd σ a (.list [])) := .upd ha
  have M' := M.mono (σ' := upd σ a (.list [])) fun o h => E _ _ h
  have R' := Rw.keep (σ' := upd σ a (.list [])) fun b o _ h => E _ _ h
  have o1 := R'.obj
  unfold rowF at o1
  try simp only [Option.some.injEq, exists_eq_left', reduceCtorEq, not_false_eq_true, true_and, Nat.reduceBEq, List.lookup_nil, lookup_miss, M'.obj, h8, o1]
  refine ⟨89, rfl, ?_⟩
  refine newest_r F R' (by omega) ?_
  unfold newestI
  cases hk : keyN t p least with
  | none =>
    refine ⟨1, ?_⟩
    unfold whileP
    try simp only [wpE, wpEs, truthP, cmpP, copI, attrP, lenP, asItems, asList, methP, List.getElem?_cons_zero, List.getElem?_cons_succ, Option.some.injEq, exists_eq_left', ne_eq, reduceCtorEq, not_false_eq_true, true_and, if_false, Bool.false_eq_true, decide_eq_true_eq, f_Finder_candidates_c1, M'.obj, M'.nom 21 (by decide)]
    refine ⟨159, hC.m21, ?_⟩
    refine near_c F M' ?_
    refine neg (by simp) ?_
    try simp only [and_true, upd_self]
    exact del_upd ha
  | some n =>
    refine ⟨p + 1, cand_loop F M hC h8 Rw ha hch hn hp p [] (p + 1) (by omega) (by omega) (by simp) fun z => ?_⟩
    try simp only [List.getElem?_cons_zero, List.getElem?_cons_succ, List.nil_append, Option.some.injEq, exists_eq_left', reduceCtorEq, not_false_eq_true, true_and, and_true, upd_self]
    exact del_upd ha
theorem every_loop (F : Fns X) {a : Addr} {p lim : Nat} {R : Fl → List V → AHeap → Prop} {mo : V} (M : Mt σ f C fs t least w ch ah) (hC : isF C) (ha : σ a = none) (hl : lim ≤ t.length - p) (hp : p < t.length) (hn : t.length ≤ 900) : ∀ (cs : List Nat) (acc : List V) (lo : Nat) (z1 z2 : V), (∀ c ∈ cs, c < p) → acc.length + cs.length ≤ p →
    (∀ lo' z1 z2, R .next [.ref f, .int p, mo, .ref a, .int lim, lo', z1, z2] (upd σ a (.list (acc ++ (recs t p lim lo cs).map pairN)))) →
    forP (Tg.v 6) (fun ρ σ Q => wpSs X (k + 1) f_Finder_every_b1 ρ σ Q) R (cs.map fun (q : Nat) => V.int (q : Int)) [.ref f, .int p, mo, .ref a, .int lim, .int lo, z1, z2] (upd σ a (.list acc))
  | [], acc, lo, z1, z2, _, _, hR => by simpa [forP, recs] using hR _ _ _
  | c :: cs, acc, lo, z1, z2, hc, hlen, hR => by
    simp only [List.map_cons, forP]
    have hcp := hc c List.mem_cons_self
    have M' := M.mono (σ' := upd σ a (.list acc)) fun o h => (Ext.upd ha) _ _ h
    have IH : ∀ acc' lo' z1 z2, acc'.length + cs.length ≤ p → acc' ++ (recs t p lim lo' cs).map pairN = acc ++ (recs t p lim lo (c :: cs)).map pairN →
        forP (Tg.v 6) (fun ρ σ Q => wpSs X (k + 1) f_Finder_every_b1 ρ σ Q) R (cs.map fun (q : Nat) => V.int (q : Int)) [.ref f, .int p, mo, .ref a, .int lim, .int lo', z1, z2] (upd σ a (.list acc')) := fun acc' lo' z1 z2 h1 h2 =>
      every_loop F M hC ha hl hp hn cs acc' lo' z1 z2 (fun c h => hc c (List.mem_cons_of_mem _ h)) h1 fun lo'' z1 z2 => by rw [h2]; exact hR _ _ _
    generalize hK : forP _ _ R (cs.map _) = K at IH
    simp only [asgP]
    rw [recs] at hR IH
    try simp only [wpSs, wpS, wpE, wpEs, truthP, cmpP, copI, binP, binI, attrP, asItems, asList, methP, asgP, idxP, appendP, List.getElem?_cons_zero, List.getElem?_cons_succ, List.set_cons_zero, List.set_cons_succ, Nat.reduceAdd, Option.some.injEq, exists_eq_left', ne_eq, reduceCtorEq, not_false_eq_true, true_and, Nat.reduceLeDiff, List.length_cons, List.length_nil, decide_eq_true_eq, f_Finder_every_b1]
    by_cases h1 : lim ≤ lo
    · refine pos (by omega) ?_
      have e : recs t p lim lo cs = [] := recs_nil fun c _ => by unfold fv; omega
      rw [if_neg (by unfold fv; omega), e] at hR
      simpa using hR _ _ _
    · refine neg (by omega) ?_
      try simp only [Option.some.injEq, exists_eq_left', reduceCtorEq, not_false_eq_true, true_and, M'.obj, M'.f0]
      have e1 : ((c : Int) + (lo : Int)).toNat = c + lo := by omega
      have e2 : ((p : Int) + (lo : Int)).toNat = p + lo := by omega
      refine ⟨by omega, _, by rw [e1]; exact get_b (by omega), by omega, _, by rw [e2]; exact get_b (by omega), ?_⟩
      try simp only []
      by_cases h2 : dg t (c + lo) = dg t (p + lo)
      · refine pos ((dg_eq (by omega) (by omega)).mpr h2) ?_
        try simp only [true_and, M'.nom 20 (by decide)]
        refine ⟨152, hC.m20, ?_⟩
        refine alike_c (kn := 0) F M' hcp hl (by omega) (by omega) ?_
        try simp only [reduceCtorEq, not_false_eq_true, true_and, Option.isSome_some, upd_self]
        by_cases h3 : lo < min (L t p c) lim
        · refine pos (by omega) ?_
          refine ⟨by simp only [List.length_cons] at hlen; omega, ?_⟩
          rw [upd_upd]
          rw [if_pos (by unfold fv; exact h3)] at IH
          have e3 : (p : Int) - (c : Int) = ((p - c : Nat) : Int) := by omega
          rw [e3]
          refine IH _ _ _ _ (by simp at hlen ⊢; omega) ?_
          simp [pairN, fv]
        · refine neg (by omega) ?_
          rw [if_neg (by unfold fv; exact h3)] at IH
          exact IH _ _ _ _ (by simp at hlen ⊢; omega) rfl
      · refine neg (fun e => h2 ((dg_eq (by omega) (by omega)).mp e)) ?_
        have h3 : ¬ lo < fv t p lim c := fun h => h2 ((L_eq (by unfold fv at h; omega)).symm)
        rw [if_neg h3] at IH
        exact IH _ _ _ _ (by simp at hlen ⊢; omega) rfl
theorem fin_every (F : Fns X) {r la be : Addr} {i m : Nat} (hb : ∀ o ∈ t, o < 256) (hls : 0 < least) (hch : t.length < ch) (hn : t.length ≤ 900) (I : FinI t least w ch f r la be i σ) (hi : i < t.length) :
    WC X (k + 4) (.ref 223) [.ref f, .int i, .int m] σ (fun v σ' => v = .list ((recs t i (min m (t.length - i)) (least - 1) (cands i w)).map pairN) ∧ Ext σ σ') := by
  obtain ⟨hf, hr⟩ := I
  have M := finF_mt hf
  refine wc_of F F.Finder_every rfl ?_
  try simp only [wpSs, wpS, wpE, wpEs, wpI, binP, binI, attrP, asFrozen, methP, asgP, setAll, retQ, initR, frzP, mkList, List.getElem?_cons_zero, List.getElem?_cons_succ, List.set_cons_zero, List.set_cons_succ, List.cons_append, List.nil_append, List.replicate_succ, List.replicate_zero, Nat.reduceSub, Nat.reduceAdd, Option.some.injEq, exists_eq_left', ne_eq, reduceCtorEq, not_false_eq_true, true_and, if_true, Nat.reduceLeDiff, List.length_cons, List.length_nil, f_Finder_every, f_Finder_every_b]
  refine fun a ha => ?_
  have E : Ext σ (upd σ a (.list [])) := .upd ha
  have M' := M.mono (σ' := upd σ a (.list [])) fun o h => E _ _ h
  try simp only [true_and, M'.obj, M'.nom 18 (by decide)]
  refine ⟨138, rfl, ?_⟩
  refine limit_c F M' (by omega) ?_
  try simp only [Option.some.injEq, exists_eq_left', reduceCtorEq, not_false_eq_true, true_and, M'.obj, M'.f4, M'.nom 24 (by decide)]
  refine ⟨216, rfl, ?_⟩
  refine (cand_c F M' (.inl rfl) rfl (hr.keep fun b o _ h => E _ _ h) hch hn hi).mono fun v σ' ⟨e1, e2⟩ => ?_
  subst e1
  subst e2
  have e3 : ((least : Int) - 1) = ((least - 1 : Nat) : Int) := by omega
  rw [e3]
  have fin : ∀ cs : List Nat, recs t i (min m (t.length - i)) (least - 1) cs = recs t i (min m (t.length - i)) (least - 1) (cands i w) → (∀ c ∈ cs, c < i) → cs.length ≤ i →
      forP (Tg.v 6) (fun ρ σ Q => wpSs X (k + 3) f_Finder_every_b1 ρ σ Q) (fun fl ρ' σ' => match fl with
        | Fl.next => ∃ v, ρ'[3]? = some v ∧ ¬v = V.undef ∧ match v with
          | V.ref a => match σ' a with
            | some (AObj.list l) => V.list l = V.list (List.map pairN (recs t i (min m (t.length - i)) (least - 1) (cands i w))) ∧ Ext σ (del σ' a)
            | x => False
          | x => False
        | Fl.brk => False
        | Fl.ret v => v = V.list (List.map pairN (recs t i (min m (t.length - i)) (least - 1) (cands i w))) ∧ Ext σ σ')
        (cs.map fun (q : Nat) => V.int (q : Int)) [V.ref f, V.int i, V.int m, V.ref a, V.int (min m (t.length - i) : Nat), V.int (least - 1 : Nat), V.undef, V.undef] (upd σ a (.list [])) := fun cs h1 h2 h3 => by
    refine every_loop F M (.inl rfl) ha (by omega) hi hn cs [] (least - 1) _ _ h2 (by simpa using h3) fun lo z1 z2 => ?_
    try simp only [List.getElem?_cons_zero, List.getElem?_cons_succ, List.nil_append, Option.some.injEq, exists_eq_left', reduceCtorEq, not_false_eq_true, true_and, upd_self]
    rw [h1, del_upd ha]
    exact ⟨rfl, .refl⟩
  cases hk : keyN t i least with
  | none => exact fin [] (by rw [none_recs hls hk]; rfl) (fun c h => by cases h) (by simp)
  | some n =>
    refine fin _ (chain_recs hb hls hk) (fun c h => (chainL_mem.mp (List.mem_filter.mp h).1).1) ?_
    refine Nat.le_trans (List.length_filter_le _ _) ?_
    have : (chainL t least n i).Sublist (cands i i) := desc_sub chainL_desc cands_desc fun c h => cands_mem.mpr ⟨(chainL_mem.mp h).1, by omega⟩
    have := this.length_le
    simpa [cands] using this
theorem fin_ok (F : Fns X) {r la be : Addr} (hb : ∀ o ∈ t, o < 256) (hls : 0 < least) (hch : t.length < ch) (hn : t.length ≤ 900) : Fi X (k + 4) t least w f (finFt f r la be) (FinI t least w ch f r la be) where
  self := .inl rfl
  mt := fun i σ I => ⟨226, _, ch, .inl rfl, finF_mt I.1⟩
  keep := fun i σ σ' I h => ⟨h _ _ (.inl rfl) I.1, I.2.keep fun a o ha e => h a o (.inr ha) e⟩
  live := fun i σ I a ha e => by
    rcases ha with rfl | ha
    · rw [I.1] at e; cases e
    · exact I.2.live a ha e
  every := fun i σ m I hi => ⟨226, _, 223, I.1, rfl, rfl, fin_every F hb hls hch hn I hi⟩
  put := fun i σ I hi => fin_put F I hi hn
end
end Mine
end

section
namespace Mine
inductive T where
  | nil
  | node (l : T) (c : Nat) (g : T)
def T.has (x : Nat) : T → Prop
  | .nil => False
  | .node l c g => x = c ∨ l.has x ∨ g.has x
def LtK (t : List Nat) (K x y : Nat) : Prop := ∃ k, k < K ∧ (∀ j, j < k → dg t (x + j) = dg t (y + j)) ∧ dg t (x + k) < dg t (y + k)
def EqK (t : List Nat) (K x y : Nat) : Prop := ∀ j, j < K → dg t (x + j) = dg t (y + j)
theorem LtK.mono {t : List Nat} {K K' x y : Nat} (h : K' ≤ K) : LtK t K' x y → LtK t K x y := fun ⟨k, a, b⟩ => ⟨k, by omega, b⟩
theorem EqK.mono {t : List Nat} {K K' x y : Nat} (h : K' ≤ K) (e : EqK t K x y) : EqK t K' x y := fun j hj => e j (by omega)
def WF (t : List Nat) (K : Nat) : T → Prop
  | .nil => True
  | .node l c g => (∀ x, l.has x → x < c ∧ ¬ LtK t K c x ∧ ¬ g.has x) ∧ (∀ x, g.has x → x < c ∧ ¬ LtK t K x c) ∧ WF t K l ∧ WF t K g
theorem WF.mono {t : List Nat} {K K' : Nat} (h : K' ≤ K) : ∀ {S : T}, WF t K S → WF t K' S
  | .nil, _ => trivial
  | .node l c g, ⟨a, b, cl, cg⟩ => ⟨fun x hx => ⟨(a x hx).1, fun q => (a x hx).2.1 (q.mono h), (a x hx).2.2⟩, fun x hx => ⟨(b x hx).1, fun q => (b x hx).2 (q.mono h)⟩, cl.mono h, cg.mono h⟩
section
variable {t : List Nat} {p w : Nat}
theorem LtK_of {K c : Nat} (h : L t p c < K) (hd : dg t (c + L t p c) < dg t (p + L t p c)) : LtK t K c p := ⟨_, h, fun j hj => (L_eq hj).symm, hd⟩
theorem LtK_of' {K c : Nat} (h : L t p c < K) (hd : dg t (p + L t p c) < dg t (c + L t p c)) : LtK t K p c := ⟨_, h, fun j hj => L_eq hj, hd⟩
theorem LtK_trans {K x y z : Nat} (h1 : LtK t K x y) (h2 : LtK t K y z) : LtK t K x z := by
  obtain ⟨k, a1, a2, a3⟩ := h1
  obtain ⟨m, b1, b2, b3⟩ := h2
  rcases Nat.lt_trichotomy k m with h | h | h
  · exact ⟨k, a1, fun j hj => (a2 j hj).trans (b2 j (by omega)), by rw [← b2 k h]; exact a3⟩
  · subst h; exact ⟨k, a1, fun j hj => (a2 j hj).trans (b2 j hj), by omega⟩
  · exact ⟨m, b1, fun j hj => (a2 j (by omega)).trans (b2 j hj), by rw [a2 m h]; exact b3⟩
theorem LtK_tri (t : List Nat) (K x y : Nat) : LtK t K x y ∨ LtK t K y x ∨ EqK t K x y := by
  induction K with
  | zero => exact .inr (.inr fun j hj => by omega)
  | succ K ih =>
    rcases ih with h | h | h
    · exact .inl (h.mono (by omega))
    · exact .inr (.inl (h.mono (by omega)))
    · rcases Nat.lt_trichotomy (dg t (x + K)) (dg t (y + K)) with q | q | q
      · exact .inl ⟨K, by omega, h, q⟩
      · refine .inr (.inr fun j hj => ?_)
        by_cases e : j = K
        · rw [e]; exact q
        · exact h j (by omega)
      · exact .inr (.inl ⟨K, by omega, fun j hj => (h j hj).symm, q⟩)
theorem LeLt {K x y z : Nat} (h1 : ¬ LtK t K y x) (h2 : LtK t K y z) : LtK t K x z := by
  rcases LtK_tri t K x y with h | h | h
  · exact LtK_trans h h2
  · exact absurd h h1
  · obtain ⟨k, a, b, c⟩ := h2
    exact ⟨k, a, fun j hj => (h j (by omega)).trans (b j hj), by rw [h k a]; exact c⟩
theorem LtLe {K x y z : Nat} (h1 : LtK t K x y) (h2 : ¬ LtK t K z y) : LtK t K x z := by
  rcases LtK_tri t K y z with h | h | h
  · exact LtK_trans h1 h
  · exact absurd h h2
  · obtain ⟨k, a, b, c⟩ := h1
    exact ⟨k, a, fun j hj => (b j hj).trans (h j (by omega)), by rw [← h k a]; exact c⟩
theorem LtK_asymm {K x y : Nat} (h : LtK t K x y) : ¬ LtK t K y x := fun h' => by
  obtain ⟨k, a, b, c⟩ := LtK_trans h h'
  omega
theorem LtK_congr {K x y z : Nat} (e : EqK t K x y) : LtK t K x z ↔ LtK t K y z := by
  constructor
  · rintro ⟨k, a, b, c⟩; exact ⟨k, a, fun j hj => (e j (by omega)).symm.trans (b j hj), by rw [← e k a]; exact c⟩
  · rintro ⟨k, a, b, c⟩; exact ⟨k, a, fun j hj => (e j (by omega)).trans (b j hj), by rw [e k a]; exact c⟩
theorem LtK_congr' {K x y z : Nat} (e : EqK t K x y) : LtK t K z x ↔ LtK t K z y := by
  constructor
  · rintro ⟨k, a, b, c⟩; exact ⟨k, a, fun j hj => (b j hj).trans (e j (by omega)), by rw [← e k a]; exact c⟩
  · rintro ⟨k, a, b, c⟩; exact ⟨k, a, fun j hj => (b j hj).trans (e j (by omega)).symm, by rw [e k a]; exact c⟩
def LoOk (t : List Nat) (p K lc : Nat) (S : T) : Prop := lc = 0 ∨ ∃ lo, lc ≤ L t p lo ∧ lo < p ∧ ∀ x, S.has x → ¬ LtK t K x lo
def HiOk (t : List Nat) (p K hc : Nat) (S : T) : Prop := hc = 0 ∨ ∃ hi, hc ≤ L t p hi ∧ hi < p ∧ ∀ x, S.has x → ¬ LtK t K hi x
theorem known_ok {lc hc x : Nat} {S : T} (hp : p < t.length) (h1 : LoOk t p (t.length - p) lc S) (h2 : HiOk t p (t.length - p) hc S) (hx : S.has x) (hxp : x < p) : min lc hc ≤ L t p x := by
  rcases h1 with h1 | ⟨lo, a1, a2, a3⟩
  · omega
  rcases h2 with h2 | ⟨hi, b1, b2, b3⟩
  · omega
  rcases Nat.lt_or_ge (L t p x) (min lc hc) with h | h
  · exfalso
    have hn := L_ne (t := t) (p := p) (q := x) (by omega) hp (by omega)
    have l1 := (L_le (t := t) (p := p) (q := lo)).1
    have e1 : ∀ j, j < min lc hc → dg t (p + j) = dg t (lo + j) := fun j hj => L_eq (by omega)
    have e2 : ∀ j, j < min lc hc → dg t (p + j) = dg t (hi + j) := fun j hj => L_eq (by omega)
    rcases Nat.lt_or_ge (dg t (x + L t p x)) (dg t (p + L t p x)) with q | q
    · exact a3 x hx ⟨L t p x, by omega, fun j hj => by rw [← L_eq hj]; exact e1 j (by omega), by rw [← e1 _ h]; exact q⟩
    · exact b3 x hx ⟨L t p x, by omega, fun j hj => by rw [← L_eq hj]; exact (e2 j (by omega)).symm, by rw [← e2 _ h]; omega⟩
  · exact h
def path (t : List Nat) (p w lim : Nat) : T → List Nat
  | .nil => []
  | .node l c g => if p - c ≤ w then (if lim ≤ L t p c then [c] else if dg t (c + L t p c) < dg t (p + L t p c) then c :: path t p w lim g else c :: path t p w lim l) else []
theorem path_has {lim c : Nat} : ∀ {S : T}, c ∈ path t p w lim S → S.has c ∧ p - c ≤ w
  | .nil, h => by simp [path] at h
  | .node l c' g, h => by
    unfold path at h
    split at h
    · rename_i hw
      split at h
      · rw [List.mem_singleton] at h; subst h; exact ⟨.inl rfl, hw⟩
      · split at h
        · rcases List.mem_cons.mp h with rfl | h
          · exact ⟨.inl rfl, hw⟩
          · have := path_has h; exact ⟨.inr (.inr this.1), this.2⟩
        · rcases List.mem_cons.mp h with rfl | h
          · exact ⟨.inl rfl, hw⟩
          · have := path_has h; exact ⟨.inr (.inl this.1), this.2⟩
    · cases h
theorem path_desc {lim K : Nat} : ∀ {S : T}, WF t K S → (path t p w lim S).Pairwise (· > ·)
  | .nil, _ => by simp [path]
  | .node l c g, ⟨a, b, cl, cg⟩ => by
    unfold path
    split
    · split
      · simp
      · split
        · rw [List.pairwise_cons]
          exact ⟨fun x hx => (b x (path_has hx).1).1, path_desc cg⟩
        · rw [List.pairwise_cons]
          exact ⟨fun x hx => (a x (path_has hx).1).1, path_desc cl⟩
    · simp
theorem path_dom {lim c : Nat} (hp : p < t.length) (hl : lim ≤ t.length - p) : ∀ {S : T}, WF t (t.length - p) S → (∀ x, S.has x → x < p) → S.has c → p - c ≤ w → ∃ c' ∈ path t p w lim S, c ≤ c' ∧ fv t p lim c ≤ fv t p lim c'
  | .nil, _, _, h, _ => h.elim
  | .node l r g, ⟨a, b, cl, cg⟩, hlt, h, hw => by
    have hrp := hlt r (.inl rfl)
    have hcr : c ≤ r := by
      rcases h with h | h | h
      · omega
      · have := (a c h).1; omega
      · have := (b c h).1; omega
    have hr : p - r ≤ w := by omega
    unfold path
    rw [if_pos hr]
    split
    · rename_i h1
      exact ⟨r, by simp, hcr, by unfold fv; omega⟩
    · rename_i h1
      have hL := (L_le (t := t) (p := p) (q := r)).1
      have hn := L_ne (t := t) (p := p) (q := r) (by omega) hp (by omega)
      split
      · rename_i h2
        rcases h with h | h | h
        · subst h; exact ⟨c, List.mem_cons_self, by omega, by omega⟩
        · refine ⟨r, List.mem_cons_self, hcr, ?_⟩
          have : L t p c ≤ L t p r := by
            rcases Nat.lt_or_ge (L t p r) (L t p c) with q | q
            · refine absurd ?_ (a c h).2.1
              exact ⟨L t p r, by omega, fun j hj => by rw [← L_eq hj]; exact L_eq (by omega), by rw [← L_eq (p := p) (q := c) q]; exact h2⟩
            · exact q
          unfold fv; omega
        · obtain ⟨c', h3, h4, h5⟩ := path_dom hp hl cg (fun x hx => hlt x (.inr (.inr hx))) h hw
          exact ⟨c', List.mem_cons_of_mem _ h3, h4, h5⟩
      · rename_i h2
        rcases h with h | h | h
        · subst h; exact ⟨c, List.mem_cons_self, by omega, by omega⟩
        · obtain ⟨c', h3, h4, h5⟩ := path_dom hp hl cl (fun x hx => hlt x (.inr (.inl hx))) h hw
          exact ⟨c', List.mem_cons_of_mem _ h3, h4, h5⟩
        · refine ⟨r, List.mem_cons_self, hcr, ?_⟩
          have : L t p c ≤ L t p r := by
            rcases Nat.lt_or_ge (L t p r) (L t p c) with q | q
            · refine absurd ?_ (b c h).2
              exact ⟨L t p r, by omega, fun j hj => by rw [← L_eq (p := p) (q := r) hj]; exact (L_eq (by omega)).symm, by rw [← L_eq (p := p) (q := c) q]; omega⟩
            · exact q
          unfold fv; omega
theorem fv_congr {lim x y : Nat} (hp : p < t.length) (hx : x < p) (hy : y < p) (hl : lim ≤ t.length - p) (e : EqK t (t.length - p) x y) : fv t p lim x = fv t p lim y := by
  have key : ∀ {x y}, x < p → y < p → EqK t (t.length - p) x y → fv t p lim x ≤ fv t p lim y := fun {x y} hx hy e => by
    have : min (L t p x) lim ≤ L t p y := L_ge (by omega) hp (by omega) fun i hi => (L_eq (by omega)).trans (e i (by omega))
    unfold fv; omega
  exact Nat.le_antisymm (key hx hy e) (key hy hx fun j hj => (e j hj).symm)
def Full (t : List Nat) (s w n i : Nat) (S : T) : Prop := ∀ q, q < i → keyN t q s = some n → i - q ≤ w → ∃ c, S.has c ∧ q ≤ c ∧ EqK t (t.length - i) q c
def Keyed (t : List Nat) (s n i : Nat) (S : T) : Prop := ∀ x, S.has x → x < i ∧ keyN t x s = some n
theorem tree_recs {s lim n : Nat} {S : T} (hb : ∀ o ∈ t, o < 256) (hs : 0 < s) (hn : keyN t p s = some n) (hp : p < t.length) (hl : lim ≤ t.length - p) (W : WF t (t.length - p) S) (Ky : Keyed t s n p S) (Fu : Full t s w n p S) :
    recs t p lim (s - 1) (path t p w lim S) = recs t p lim (s - 1) (cands p w) := by
  have hps : p + s ≤ t.length := by
    rcases Nat.lt_or_ge t.length (p + s) with h | h
    · rw [keyN_none h] at hn; cases hn
    · exact h
  refine recs_sub (desc_sub (path_desc W) cands_desc fun c h => ?_) cands_desc fun c h1 h2 => ?_
  · exact cands_mem.mpr ⟨(Ky c (path_has h).1).1, (path_has h).2⟩
  · rw [cands_mem] at h1
    by_cases hL : s ≤ L t p c
    · obtain ⟨d, h3, h4, h5⟩ := Fu c h1.1 (((keyN_iff hb h1.1 hps hs).mpr hL).trans hn) h1.2
      obtain ⟨c', h6, h7, h8⟩ := path_dom (w := w) hp hl W (fun x hx => (Ky x hx).1) h3 (by omega)
      rw [← fv_congr hp h1.1 (Ky d h3).1 hl h5] at h8
      refine .inr ⟨c', h6, ?_, h8⟩
      have : c ≠ c' := fun e => h2 (by rw [e]; exact h6)
      omega
    · exact .inl (by unfold fv; omega)
def split (t : List Nat) (p w : Nat) : T → T × T
  | .nil => (.nil, .nil)
  | .node l c g => if p - c ≤ w then (if t.length - p ≤ L t p c then (l, g) else if dg t (c + L t p c) < dg t (p + L t p c) then (.node l c (split t p w g).1, (split t p w g).2) else ((split t p w l).1, .node (split t p w l).2 c g)) else (.nil, .nil)
theorem split_has : ∀ {S : T} {x : Nat}, (split t p w S).1.has x ∨ (split t p w S).2.has x → S.has x
  | .nil, x, h => by unfold split at h; rcases h with h | h <;> exact h
  | .node l c g, x, h => by
    unfold split at h
    split at h
    · split at h
      · rcases h with h | h
        · exact .inr (.inl h)
        · exact .inr (.inr h)
      · split at h
        · rcases h with (h | h | h) | h
          · exact .inl h
          · exact .inr (.inl h)
          · exact .inr (.inr (split_has (.inl h)))
          · exact .inr (.inr (split_has (.inr h)))
        · rcases h with h | (h | h | h)
          · exact .inr (.inl (split_has (.inl h)))
          · exact .inl h
          · exact .inr (.inl (split_has (.inr h)))
          · exact .inr (.inr h)
    · rcases h with h | h <;> exact h.elim
theorem split_wf (hp : p < t.length) : ∀ {S : T}, WF t (t.length - p) S → (∀ x, S.has x → x < p) →
    WF t (t.length - p) (split t p w S).1 ∧ WF t (t.length - p) (split t p w S).2 ∧ (∀ x, (split t p w S).1.has x → ¬ LtK t (t.length - p) p x ∧ ¬ (split t p w S).2.has x) ∧ (∀ x, (split t p w S).2.has x → ¬ LtK t (t.length - p) x p)
  | .nil, _, _ => by unfold split; exact ⟨trivial, trivial, fun x h => h.elim, fun x h => h.elim⟩
  | .node l c g, ⟨a, b, cl, cg⟩, hlt => by
    have hcp := hlt c (.inl rfl)
    have hL := (L_le (t := t) (p := p) (q := c)).1
    have hn := L_ne (t := t) (p := p) (q := c) (by omega) hp (by omega)
    unfold split
    split
    · split
      · rename_i h1
        have e : EqK t (t.length - p) p c := fun j hj => L_eq (by omega)
        refine ⟨cl, cg, fun x hx => ⟨fun h => (a x hx).2.1 ((LtK_congr e).mp h), (a x hx).2.2⟩, fun x hx h => (b x hx).2 ((LtK_congr' e).mp h)⟩
      · split
        · rename_i h1 h2
          obtain ⟨w1, w2, w3, w4⟩ := split_wf hp cg fun x hx => hlt x (.inr (.inr hx))
          have hc : LtK t (t.length - p) c p := LtK_of (by omega) h2
          refine ⟨⟨fun x hx => ⟨(a x hx).1, (a x hx).2.1, fun h => (a x hx).2.2 (split_has (.inl h))⟩, fun x hx => b x (split_has (.inl hx)), cl, w1⟩, w2, fun x hx => ?_, w4⟩
          rcases hx with rfl | hx | hx
          · exact ⟨LtK_asymm hc, fun h => Nat.lt_irrefl _ (b x (split_has (.inr h))).1⟩
          · exact ⟨LtK_asymm (LeLt (a x hx).2.1 hc), fun h => (a x hx).2.2 (split_has (.inr h))⟩
          · exact w3 x hx
        · rename_i h1 h2
          obtain ⟨w1, w2, w3, w4⟩ := split_wf hp cl fun x hx => hlt x (.inr (.inl hx))
          have hc : LtK t (t.length - p) p c := LtK_of' (by omega) (by omega)
          refine ⟨w1, ⟨fun x hx => ⟨(a x (split_has (.inr hx))).1, (a x (split_has (.inr hx))).2.1, (a x (split_has (.inr hx))).2.2⟩, b, w2, cg⟩, fun x hx => ⟨(w3 x hx).1, fun h => ?_⟩, fun x hx => ?_⟩
          · rcases h with rfl | h | h
            · exact Nat.lt_irrefl _ (a x (split_has (.inl hx))).1
            · exact (w3 x hx).2 h
            · exact (a x (split_has (.inl hx))).2.2 h
          · rcases hx with rfl | hx | hx
            · exact LtK_asymm hc
            · exact w4 x hx
            · exact LtK_asymm (LtLe hc (b x hx).2)
    · exact ⟨trivial, trivial, fun x h => h.elim, fun x h => h.elim⟩
theorem split_full (hp : p < t.length) : ∀ {S : T} {c : Nat}, WF t (t.length - p) S → S.has c → p - c ≤ w → (split t p w S).1.has c ∨ (split t p w S).2.has c ∨ t.length - p ≤ L t p c
  | .nil, c, _, h, _ => h.elim
  | .node l r g, c, ⟨a, b, cl, cg⟩, h, hw => by
    have hcr : c ≤ r := by
      rcases h with h | h | h
      · omega
      · have := (a c h).1; omega
      · have := (b c h).1; omega
    unfold split
    rw [if_pos (by omega)]
    split
    · rename_i h1
      rcases h with rfl | h | h
      · exact .inr (.inr h1)
      · exact .inl h
      · exact .inr (.inl h)
    · split
      · rcases h with rfl | h | h
        · exact .inl (.inl rfl)
        · exact .inl (.inr (.inl h))
        · rcases split_full hp cg h hw with h | h | h
          · exact .inl (.inr (.inr h))
          · exact .inr (.inl h)
          · exact .inr (.inr h)
      · rcases h with rfl | h | h
        · exact .inr (.inl (.inl rfl))
        · rcases split_full hp cl h hw with h | h | h
          · exact .inl h
          · exact .inr (.inl (.inr (.inl h)))
          · exact .inr (.inr h)
        · exact .inr (.inl (.inr (.inr h)))
def put1 (t : List Nat) (p w : Nat) (S : T) : T := .node (split t p w S).1 p (split t p w S).2
theorem put1_ok {s n : Nat} {S : T} (hp : p < t.length) (hn : keyN t p s = some n) (W : WF t (t.length - p) S) (Ky : Keyed t s n p S) (Fu : Full t s w n p S) :
    WF t (t.length - (p + 1)) (put1 t p w S) ∧ Keyed t s n (p + 1) (put1 t p w S) ∧ Full t s w n (p + 1) (put1 t p w S) := by
  obtain ⟨w1, w2, w3, w4⟩ := split_wf (w := w) hp W fun x hx => (Ky x hx).1
  refine ⟨⟨fun x hx => ⟨(Ky x (split_has (.inl hx))).1, fun h => (w3 x hx).1 (h.mono (by omega)), (w3 x hx).2⟩, fun x hx => ⟨(Ky x (split_has (.inr hx))).1, fun h => w4 x hx (h.mono (by omega))⟩, w1.mono (by omega), w2.mono (by omega)⟩, fun x hx => ?_, fun q hq hk hw => ?_⟩
  · rcases hx with rfl | hx | hx
    · exact ⟨by omega, hn⟩
    · have := Ky x (split_has (.inl hx)); exact ⟨by omega, this.2⟩
    · have := Ky x (split_has (.inr hx)); exact ⟨by omega, this.2⟩
  · rcases Nat.lt_or_ge q p with h | h
    · obtain ⟨c, h1, h2, h3⟩ := Fu q h hk (by omega)
      rcases split_full (w := w) hp W h1 (by omega) with h4 | h4 | h4
      · exact ⟨c, .inr (.inl h4), h2, h3.mono (by omega)⟩
      · exact ⟨c, .inr (.inr h4), h2, h3.mono (by omega)⟩
      · exact ⟨p, .inl rfl, by omega, fun j hj => (h3 j (by omega)).trans (L_eq (p := p) (q := c) (by omega)).symm⟩
    · exact ⟨p, .inl rfl, by omega, fun j hj => by rw [show q = p by omega]⟩
theorem keep_ok {s n i : Nat} {S : T} (hk : keyN t i s ≠ some n) (W : WF t (t.length - i) S) (Ky : Keyed t s n i S) (Fu : Full t s w n i S) : WF t (t.length - (i + 1)) S ∧ Keyed t s n (i + 1) S ∧ Full t s w n (i + 1) S := by
  refine ⟨W.mono (by omega), fun x hx => ?_, fun q hq hq2 hw => ?_⟩
  · have := Ky x hx; exact ⟨by omega, this.2⟩
  · rcases Nat.lt_or_ge q i with h | h
    · obtain ⟨c, h1, h2, h3⟩ := Fu q h hq2 (by omega)
      exact ⟨c, h1, h2, h3.mono (by omega)⟩
    · rw [show q = i by omega] at hq2
      exact absurd hq2 hk
end
end Mine
end

section
open PySem PySem.Calls PyProof.Rows PySem.W
set_option maxRecDepth 20000
namespace Mine
def Rep (ar : Bool → List V) : Int → T → Prop
  | z, .nil => z = -1
  | z, .node l c g => z = c ∧ ∃ a b : Int, (ar false)[c]? = some (.int a) ∧ (ar true)[c]? = some (.int b) ∧ Rep ar a l ∧ Rep ar b g
theorem Rep.congr {ar ar' : Bool → List V} : ∀ {S : T} {z : Int}, (∀ x fl, S.has x → (ar' fl)[x]? = (ar fl)[x]?) → Rep ar z S → Rep ar' z S
  | .nil, z, _, h => h
  | .node l c g, z, e, ⟨h, a, b, h1, h2, h3, h4⟩ => ⟨h, a, b, (e c false (.inl rfl)).trans h1, (e c true (.inl rfl)).trans h2, h3.congr fun x fl hx => e x fl (.inr (.inl hx)), h4.congr fun x fl hx => e x fl (.inr (.inr hx))⟩
def setA (ar : Bool → List V) (b : Bool) (x : Nat) (v : V) : Bool → List V := fun c => if c = b then (ar b).set x v else ar c
theorem setA_len {ar : Bool → List V} {b c : Bool} {x : Nat} {v : V} : (setA ar b x v c).length = (ar c).length := by
  unfold setA; split
  · rename_i h; subst h; simp
  · rfl
theorem setA_self {ar : Bool → List V} {b : Bool} {x : Nat} {v : V} (h : x < (ar b).length) : (setA ar b x v b)[x]? = some v := by
  unfold setA; rw [if_pos rfl, List.getElem?_set_self h]
theorem setA_ne {ar : Bool → List V} {b c : Bool} {x y : Nat} {v : V} (h : (c, y) ≠ (b, x)) : (setA ar b x v c)[y]? = (ar c)[y]? := by
  unfold setA; split
  · rename_i e; subst e
    rw [List.getElem?_set_ne (fun e => h (by rw [e]))]
  · rfl
theorem setA_nx {ar : Bool → List V} {b c : Bool} {x y : Nat} {v : V} (h : y ≠ x) : (setA ar b x v c)[y]? = (ar c)[y]? := setA_ne fun e => h (Prod.mk.inj e).2
def ad (sa ga : Addr) (b : Bool) : Addr := if b = true then ga else sa
def sA (σ : AHeap) (sa ga : Addr) (ar : Bool → List V) : AHeap := upd (upd σ sa (.list (ar false))) ga (.list (ar true))
theorem sA_ne {σ : AHeap} {sa ga a : Addr} {ar : Bool → List V} (h1 : a ≠ sa) (h2 : a ≠ ga) : sA σ sa ga ar a = σ a := by unfold sA; rw [upd_ne h2, upd_ne h1]
theorem sA_s {σ : AHeap} {sa ga : Addr} {ar : Bool → List V} (h : sa ≠ ga) : sA σ sa ga ar sa = some (.list (ar false)) := by unfold sA; rw [upd_ne h, upd_self]
theorem sA_g {σ : AHeap} {sa ga : Addr} {ar : Bool → List V} : sA σ sa ga ar ga = some (.list (ar true)) := by unfold sA; rw [upd_self]
theorem sA_set {σ : AHeap} {sa ga : Addr} {ar : Bool → List V} {b : Bool} {x : Nat} {v : V} (h : sa ≠ ga) : upd (sA σ sa ga ar) (ad sa ga b) (.list ((ar b).set x v)) = sA σ sa ga (setA ar b x v) := by
  funext a
  cases b <;> simp [sA, ad, setA, upd]
  · by_cases h1 : a = sa
    · subst h1; simp [h]
    · simp [h1]
  · by_cases h1 : a = ga
    · simp [h1]
    · simp [h1]
theorem sA_here {σ : AHeap} {sa ga : Addr} {ar : Bool → List V} (h1 : σ sa = some (.list (ar false))) (h2 : σ ga = some (.list (ar true))) : sA σ sa ga ar = σ := by
  funext a
  unfold sA upd
  split
  · rename_i e; rw [e, h2]
  · split
    · rename_i e; rw [e, h1]
    · rfl
section
variable {X : Cx} {k : Nat}
variable {σ : AHeap} {f C : Addr} {fs : List (Nat × V)} {t : List Nat} {least w ch ah p : Nat} {Q : V → AHeap → Prop} {sa ga : Addr} {ar : Bool → List V}
structure Tn (σ : AHeap) (f : Addr) (fs : List (Nat × V)) (t : List Nat) (least w ch ah : Nat) (sa ga : Addr) : Prop where
  mt : Mt σ f 274 fs t least w ch ah
  f10 : fs.lookup 10 = some (.ref sa)
  f11 : fs.lookup 11 = some (.ref ga)
  ne : sa ≠ ga
  nf : f ≠ sa ∧ f ≠ ga
theorem Tn.at_ (N : Tn σ f fs t least w ch ah sa ga) (ar : Bool → List V) : Mt (sA σ sa ga ar) f 274 fs t least w ch ah := N.mt.mono fun o h => by rw [sA_ne N.nf.1 N.nf.2]; exact h
theorem hang_c (F : Fns X) (N : Tn σ f fs t least w ch ah sa ga) {x : Nat} {b : Bool} {v : V} (hv : v ≠ .undef) (hl : ∀ b, (ar b).length = t.length) (hx : x < t.length) (hQ : Q .none (sA σ sa ga (setA ar b x v))) :
    WC X (k + 1) (.ref 250) [.ref f, .int x, .bool b, v] (sA σ sa ga ar) Q := by
  refine wc_of F F.TreeFinder_hang rfl ?_
  rw [← sA_set N.ne] at hQ
  have h1 := hl true
  have h2 := hl false
  cases b
  · try simp only [wpSs, wpS, wpE, truthP, attrP, retQ, initR, List.getElem?_cons_zero, List.getElem?_cons_succ, List.cons_append, List.nil_append, List.replicate_zero, Nat.reduceSub, Option.some.injEq, exists_eq_left', ne_eq, reduceCtorEq, not_false_eq_true, true_and, if_false, Bool.false_eq_true, Int.toNat_natCast, f_TreeFinder_hang, f_TreeFinder_hang_b, (N.at_ ar).obj, N.f10, hv, sA_s N.ne, setidxP]
    exact ⟨by omega, by omega, hQ⟩
  · try simp only [wpSs, wpS, wpE, truthP, attrP, retQ, initR, List.getElem?_cons_zero, List.getElem?_cons_succ, List.cons_append, List.nil_append, List.replicate_zero, Nat.reduceSub, Option.some.injEq, exists_eq_left', ne_eq, reduceCtorEq, not_false_eq_true, true_and, if_true, Int.toNat_natCast, f_TreeFinder_hang, f_TreeFinder_hang_b, (N.at_ ar).obj, N.f11, hv, sA_g, setidxP]
    exact ⟨by omega, by omega, hQ⟩
structure PartEnd (t : List Nat) (p w : Nat) (ar ar' : Bool → List V) (S : T) (lo : Nat) (lf : Bool) (hi : Nat) (hf : Bool) : Prop where
  ends : ∃ a b : Int, (ar' lf)[lo]? = some (.int a) ∧ (ar' hf)[hi]? = some (.int b) ∧ Rep ar' a (split t p w S).1 ∧ Rep ar' b (split t p w S).2
  frame : ∀ fl x, ¬ S.has x → (fl, x) ≠ (lf, lo) → (fl, x) ≠ (hf, hi) → (ar' fl)[x]? = (ar fl)[x]?
  len : ∀ fl, (ar' fl).length = (ar fl).length
theorem part_loop (F : Fns X) (N : Tn σ f fs t least w ch ah sa ga) (hp : p < t.length) (hch : t.length < ch) {R : Fl → List V → AHeap → Prop}
    (hnext : ∀ ar z st lo lf lc hi hf hc ct, (∀ b, (ar b).length = t.length) → lo < t.length → hi < t.length → Q .none (sA σ sa ga (setA (setA ar lf lo (.int (-1))) hf hi (.int (-1)))) →
      R .next [.ref f, .int p, .int z, .int (t.length - p : Nat), .int st, .int (lo : Nat), .bool lf, .int lc, .int (hi : Nat), .bool hf, .int hc, ct] (sA σ sa ga ar))
    (hret : ∀ ρ σ', Q .none σ' → R (.ret .none) ρ σ') :
    ∀ (S : T) (m steps bound : Nat) (ar : Bool → List V) (z : Int) (lo lc hi hc : Nat) (lf hf : Bool) (ct : V), Rep ar z S → (∀ x, S.has x → x < bound) → WF t (t.length - p) S → steps + bound ≤ p → bound < m → (∀ b, (ar b).length = t.length) →
      lo < t.length → hi < t.length → ¬ S.has lo → ¬ S.has hi → (lf, lo) ≠ (hf, hi) → LoOk t p (t.length - p) lc S → HiOk t p (t.length - p) hc S → lc ≤ t.length - p →
      (∀ ar', PartEnd t p w ar ar' S lo lf hi hf → Q .none (sA σ sa ga ar')) →
      whileP (fun ρ σ Q => wpE X (k + 1) f_TreeFinder_part_c1 ρ σ fun u σ₁ => truthP u fun b => Q b σ₁) (fun ρ σ Q => wpSs X (k + 1) f_TreeFinder_part_b2 ρ σ Q) R m
        [.ref f, .int p, .int z, .int (t.length - p : Nat), .int steps, .int lo, .bool lf, .int lc, .int hi, .bool hf, .int hc, ct] (sA σ sa ga ar) := by
  intro S
  induction S with
  | nil =>
    intro m steps bound ar z lo lc hi hc lf hf ct hR hB hW hst hm hlen hlo hhi nlo nhi nsl hLo hHi hlc hQ
    obtain ⟨m, rfl⟩ : ∃ m', m = m' + 1 := ⟨m - 1, by omega⟩
    unfold whileP
    have M := N.at_ ar
    generalize hK : whileP _ _ R m = K
    try simp only [wpE, wpEs, truthP, cmpP, copI, attrP, methP, List.getElem?_cons_zero, List.getElem?_cons_succ, Option.some.injEq, exists_eq_left', ne_eq, reduceCtorEq, not_false_eq_true, true_and, if_false, Bool.false_eq_true, decide_eq_true_eq, f_TreeFinder_part_c1, M.obj, M.nom 21 (by decide)]
    refine ⟨159, rfl, ?_⟩
    refine near_c F M ?_
    have hz : z = -1 := hR
    subst hz
    refine neg (by simp) ?_
    refine hnext _ _ _ _ _ _ _ _ _ _ hlen hlo hhi (hQ _ ⟨⟨-1, -1, ?_, ?_, rfl, rfl⟩, fun fl x _ h1 h2 => ?_, fun fl => by rw [setA_len, setA_len]⟩)
    · rw [setA_ne nsl]; exact setA_self (by rw [hlen]; exact hlo)
    · exact setA_self (by rw [setA_len, hlen]; exact hhi)
    · rw [setA_ne h2, setA_ne h1]
  | node l c g ihl ihg =>
    intro m steps bound ar z lo lc hi hc lf hf ct hR hB hW hst hm hlen hlo hhi nlo nhi nsl hLo hHi hlc hQ
    obtain ⟨m, rfl⟩ : ∃ m', m = m' + 1 := ⟨m - 1, by omega⟩
    obtain ⟨rfl, za, zb, hA, hB', hRl, hRg⟩ := hR
    obtain ⟨w1, w2, w3, w4⟩ := hW
    have hcb := hB c (.inl rfl)
    have ncl : c ≠ lo := fun e => nlo (.inl e.symm)
    have nch : c ≠ hi := fun e => nhi (.inl e.symm)
    unfold whileP
    have M := N.at_ ar
    generalize hK : whileP _ _ R m = K
    try simp only [wpE, wpEs, truthP, cmpP, copI, attrP, methP, List.getElem?_cons_zero, List.getElem?_cons_succ, Option.some.injEq, exists_eq_left', ne_eq, reduceCtorEq, not_false_eq_true, true_and, if_false, Bool.false_eq_true, decide_eq_true_eq, f_TreeFinder_part_c1, M.obj, M.nom 21 (by decide)]
    refine ⟨159, rfl, ?_⟩
    refine near_c F M ?_
    by_cases hw : p - c ≤ w
    · refine pos (by simp; omega) ?_
      try simp only [Option.some.injEq, exists_eq_left', reduceCtorEq, not_false_eq_true, true_and, M.obj, M.f6]
      refine pos (by omega) ?_
      try simp only [wpSs, wpS, wpE, wpEs, truthP, cmpP, copI, binP, binI, attrP, asItems, asList, methP, asgP, setAll, idxP, List.getElem?_cons_zero, List.getElem?_cons_succ, List.set_cons_zero, List.set_cons_succ, Nat.reduceAdd, Option.some.injEq, exists_eq_left', ne_eq, reduceCtorEq, not_false_eq_true, true_and, Nat.reduceLeDiff, List.length_cons, List.length_nil, decide_eq_true_eq, f_TreeFinder_part_b2, M.obj, M.nom 20 (by decide)]
      refine ⟨152, rfl, ?_⟩
      have hmin : min (lc : Int) (hc : Int) = ((min lc hc : Nat) : Int) := by omega
      rw [hmin]
      have hkn := known_ok hp hLo hHi (.inl rfl) (show c < p by omega)
      refine alike_c F M (by omega) (Nat.le_refl _) (by omega) (by omega) ?_
      have hL := (L_le (t := t) (p := p) (q := c)).1
      have hL2 : min (L t p c) (t.length - p) = L t p c := by omega
      rw [hL2]
      try simp only [Option.some.injEq, exists_eq_left', reduceCtorEq, not_false_eq_true, true_and, Int.toNat_natCast, M.obj, M.nom 25 (by decide), N.f10, sA_s N.ne]
      by_cases h1 : t.length - p ≤ L t p c
      · refine pos (by omega) ?_
        refine ⟨250, rfl, by omega, _, hA, ?_⟩
        refine hang_c F N (by simp) hlen hlo ?_
        have M1 := N.at_ (setA ar lf lo (.int za))
        try simp only [Option.some.injEq, exists_eq_left', reduceCtorEq, not_false_eq_true, true_and, Int.toNat_natCast, M1.obj, M1.nom 25 (by decide), N.f11, sA_g]
        refine ⟨250, rfl, by omega, _, (setA_nx ncl).trans hB', ?_⟩
        refine hang_c F N (by simp) (fun b => by rw [setA_len]; exact hlen b) hhi ?_
        try simp only [wpSs, wpS, wpE, wpEs, wpI, truthP, cmpP, copI, binP, binI, attrP, lenP, asItems, asList, asFrozen, methP, asgP, setAll, setattrP, putF, retQ, initR, idxP, lastP, bndP, sliceP, revP, dgetP, isDict, range1P, range2P, range3P, appendP, frzP, V.isNone, mkList, List.getElem?_cons_zero, List.getElem?_cons_succ, List.set_cons_zero, List.set_cons_succ, List.set_nil, List.cons_append, List.nil_append, List.replicate_succ, List.replicate_zero, Nat.reduceSub, Nat.reduceAdd, Option.some.injEq, exists_eq_left', ne_eq, reduceCtorEq, not_false_eq_true, true_and, and_true, if_true, if_false, Bool.true_eq_false, Bool.false_eq_true, Option.isSome_some, Nat.reduceBEq, List.lookup_nil, lookup_hit, lookup_miss, bne_self_eq_false, Bool.not_true, Bool.not_false, decide_true, decide_false, ite_true, ite_false, reduceIte, Nat.reduceEqDiff, Nat.reduceLT, Nat.reduceLeDiff, List.length_cons, List.length_nil, decide_eq_true_eq, Bool.not_eq_true', decide_eq_false_iff_not, Int.toNat_natCast, List.length_map, Bool.and_eq_true, Bool.or_eq_true, Bool.not_eq_eq_eq_not, Bool.not_eq_true, Bool.not_eq_false]
        refine hret _ _ (hQ _ ⟨⟨za, zb, ?_, ?_, ?_, ?_⟩, fun fl x _ h1 h2 => ?_, fun fl => by rw [setA_len, setA_len]⟩)
        · rw [setA_ne nsl]; exact setA_self (by rw [hlen]; exact hlo)
        · exact setA_self (by rw [setA_len, hlen]; exact hhi)
        · rw [split, if_pos hw, if_pos h1]
          exact hRl.congr fun x fl hx => by rw [setA_nx (show x ≠ hi from fun e => nhi (.inr (.inl (e ▸ hx)))), setA_nx (show x ≠ lo from fun e => nlo (.inr (.inl (e ▸ hx))))]
        · rw [split, if_pos hw, if_pos h1]
          exact hRg.congr fun x fl hx => by rw [setA_nx (show x ≠ hi from fun e => nhi (.inr (.inr (e ▸ hx)))), setA_nx (show x ≠ lo from fun e => nlo (.inr (.inr (e ▸ hx))))]
        · rw [setA_ne h2, setA_ne h1]
      · refine neg (by omega) ?_
        try simp only [Option.some.injEq, exists_eq_left', reduceCtorEq, not_false_eq_true, true_and, M.f0]
        have e1 : ((c : Int) + (L t p c : Int)).toNat = c + L t p c := by omega
        have e2 : ((p : Int) + (L t p c : Int)).toNat = p + L t p c := by omega
        refine ⟨by omega, _, by rw [e1]; exact get_b (by omega), by omega, _, by rw [e2]; exact get_b (by omega), ?_⟩
        try simp only []
        have e3 : (steps : Int) + 1 = ((steps + 1 : Nat) : Int) := by omega
        rw [e3]
        by_cases h2 : dg t (c + L t p c) < dg t (p + L t p c)
        · refine pos ((dg_lt (by omega) (by omega)).mpr h2) ?_
          try simp only [wpSs, wpS, wpE, wpEs, wpI, truthP, cmpP, copI, binP, binI, attrP, lenP, asItems, asList, asFrozen, methP, asgP, setAll, setattrP, putF, retQ, initR, idxP, lastP, bndP, sliceP, revP, dgetP, isDict, range1P, range2P, range3P, appendP, frzP, V.isNone, mkList, List.getElem?_cons_zero, List.getElem?_cons_succ, List.set_cons_zero, List.set_cons_succ, List.set_nil, List.cons_append, List.nil_append, List.replicate_succ, List.replicate_zero, Nat.reduceSub, Nat.reduceAdd, Option.some.injEq, exists_eq_left', ne_eq, reduceCtorEq, not_false_eq_true, true_and, and_true, if_true, if_false, Bool.true_eq_false, Bool.false_eq_true, Option.isSome_some, Nat.reduceBEq, List.lookup_nil, lookup_hit, lookup_miss, bne_self_eq_false, Bool.not_true, Bool.not_false, decide_true, decide_false, ite_true, ite_false, reduceIte, Nat.reduceEqDiff, Nat.reduceLT, Nat.reduceLeDiff, List.length_cons, List.length_nil, decide_eq_true_eq, Bool.not_eq_true', decide_eq_false_iff_not, Int.toNat_natCast, List.length_map, Bool.and_eq_true, Bool.or_eq_true, Bool.not_eq_eq_eq_not, Bool.not_eq_true, Bool.not_eq_false, M.obj, M.nom 25 (by decide)]
          refine ⟨250, rfl, ?_⟩
          refine hang_c F N (by simp) hlen hlo ?_
          have M1 := N.at_ (setA ar lf lo (.int c))
          try simp only [Option.some.injEq, exists_eq_left', reduceCtorEq, not_false_eq_true, true_and, Int.toNat_natCast, M1.obj, N.f11, sA_g]
          refine ⟨by omega, _, (setA_nx ncl).trans hB', ?_⟩
          try simp only [wpSs, wpS, wpE, wpEs, wpI, truthP, cmpP, copI, binP, binI, attrP, lenP, asItems, asList, asFrozen, methP, asgP, setAll, setattrP, putF, retQ, initR, idxP, lastP, bndP, sliceP, revP, dgetP, isDict, range1P, range2P, range3P, appendP, frzP, V.isNone, mkList, List.getElem?_cons_zero, List.getElem?_cons_succ, List.set_cons_zero, List.set_cons_succ, List.set_nil, List.cons_append, List.nil_append, List.replicate_succ, List.replicate_zero, Nat.reduceSub, Nat.reduceAdd, Option.some.injEq, exists_eq_left', ne_eq, reduceCtorEq, not_false_eq_true, true_and, and_true, if_true, if_false, Bool.true_eq_false, Bool.false_eq_true, Option.isSome_some, Nat.reduceBEq, List.lookup_nil, lookup_hit, lookup_miss, bne_self_eq_false, Bool.not_true, Bool.not_false, decide_true, decide_false, ite_true, ite_false, reduceIte, Nat.reduceEqDiff, Nat.reduceLT, Nat.reduceLeDiff, List.length_cons, List.length_nil, decide_eq_true_eq, Bool.not_eq_true', decide_eq_false_iff_not, Int.toNat_natCast, List.length_map, Bool.and_eq_true, Bool.or_eq_true, Bool.not_eq_eq_eq_not, Bool.not_eq_true, Bool.not_eq_false]
          subst hK
          refine ihg m (steps + 1) c (setA ar lf lo (.int c)) zb c (L t p c) hi hc true hf _ (hRg.congr fun x fl hx => setA_nx (fun e => nlo (.inr (.inr (e ▸ hx))))) (fun x hx => (w2 x hx).1) w4 (by omega) (by omega) (fun b => by rw [setA_len]; exact hlen b)
            (by omega) hhi (fun h => Nat.lt_irrefl _ (w2 c h).1) (fun h => nhi (.inr (.inr h))) (fun e => nch (Prod.mk.inj e).2) (.inr ⟨c, by omega, by omega, fun x hx => (w2 x hx).2⟩) ?_ (by omega) fun ar' E => hQ ar' ?_
          · rcases hHi with h | ⟨y, y1, y2, y3⟩
            · exact .inl h
            · exact .inr ⟨y, y1, y2, fun x hx => y3 x (.inr (.inr hx))⟩
          · obtain ⟨⟨a1, b1, q1, q2, q3, q4⟩, q5, q6⟩ := E
            have gl : ¬ g.has c := fun h => Nat.lt_irrefl _ (w2 c h).1
            refine ⟨⟨c, b1, ?_, q2, ?_, ?_⟩, fun fl x hx n1 n2 => ?_, fun fl => by rw [q6, setA_len]⟩
            · rw [q5 lf lo (fun h => nlo (.inr (.inr h))) (fun e => ncl (Prod.mk.inj e).2.symm) nsl]
              exact setA_self (by rw [hlen]; exact hlo)
            · rw [split, if_pos hw, if_neg h1, if_pos h2]
              refine ⟨rfl, za, a1, ?_, q1, ?_, q3⟩
              · rw [q5 false c gl (by simp) (fun e => nch (Prod.mk.inj e).2), setA_nx ncl]
                exact hA
              · refine hRl.congr fun x fl hx => ?_
                have nx : x ≠ c := fun e => by subst e; exact Nat.lt_irrefl _ (w1 x hx).1
                rw [q5 fl x (w1 x hx).2.2 (fun e => nx (Prod.mk.inj e).2) (fun e => nhi (.inr (.inl ((Prod.mk.inj e).2 ▸ hx)))), setA_nx (show x ≠ lo from fun e => nlo (.inr (.inl (e ▸ hx))))]
            · rw [split, if_pos hw, if_neg h1, if_pos h2]
              exact q4
            · rw [q5 fl x (fun h => hx (.inr (.inr h))) (fun e => hx (.inl (Prod.mk.inj e).2)) n2, setA_ne n1]
        · refine neg (fun e => h2 ((dg_lt (by omega) (by omega)).mp e)) ?_
          try simp only [wpSs, wpS, wpE, wpEs, wpI, truthP, cmpP, copI, binP, binI, attrP, lenP, asItems, asList, asFrozen, methP, asgP, setAll, setattrP, putF, retQ, initR, idxP, lastP, bndP, sliceP, revP, dgetP, isDict, range1P, range2P, range3P, appendP, frzP, V.isNone, mkList, List.getElem?_cons_zero, List.getElem?_cons_succ, List.set_cons_zero, List.set_cons_succ, List.set_nil, List.cons_append, List.nil_append, List.replicate_succ, List.replicate_zero, Nat.reduceSub, Nat.reduceAdd, Option.some.injEq, exists_eq_left', ne_eq, reduceCtorEq, not_false_eq_true, true_and, and_true, if_true, if_false, Bool.true_eq_false, Bool.false_eq_true, Option.isSome_some, Nat.reduceBEq, List.lookup_nil, lookup_hit, lookup_miss, bne_self_eq_false, Bool.not_true, Bool.not_false, decide_true, decide_false, ite_true, ite_false, reduceIte, Nat.reduceEqDiff, Nat.reduceLT, Nat.reduceLeDiff, List.length_cons, List.length_nil, decide_eq_true_eq, Bool.not_eq_true', decide_eq_false_iff_not, Int.toNat_natCast, List.length_map, Bool.and_eq_true, Bool.or_eq_true, Bool.not_eq_eq_eq_not, Bool.not_eq_true, Bool.not_eq_false, M.obj, M.nom 25 (by decide)]
          refine ⟨250, rfl, ?_⟩
          refine hang_c F N (by simp) hlen hhi ?_
          have M1 := N.at_ (setA ar hf hi (.int c))
          try simp only [Option.some.injEq, exists_eq_left', reduceCtorEq, not_false_eq_true, true_and, Int.toNat_natCast, M1.obj, N.f10, sA_s N.ne]
          refine ⟨by omega, _, (setA_nx nch).trans hA, ?_⟩
          try simp only [wpSs, wpS, wpE, wpEs, wpI, truthP, cmpP, copI, binP, binI, attrP, lenP, asItems, asList, asFrozen, methP, asgP, setAll, setattrP, putF, retQ, initR, idxP, lastP, bndP, sliceP, revP, dgetP, isDict, range1P, range2P, range3P, appendP, frzP, V.isNone, mkList, List.getElem?_cons_zero, List.getElem?_cons_succ, List.set_cons_zero, List.set_cons_succ, List.set_nil, List.cons_append, List.nil_append, List.replicate_succ, List.replicate_zero, Nat.reduceSub, Nat.reduceAdd, Option.some.injEq, exists_eq_left', ne_eq, reduceCtorEq, not_false_eq_true, true_and, and_true, if_true, if_false, Bool.true_eq_false, Bool.false_eq_true, Option.isSome_some, Nat.reduceBEq, List.lookup_nil, lookup_hit, lookup_miss, bne_self_eq_false, Bool.not_true, Bool.not_false, decide_true, decide_false, ite_true, ite_false, reduceIte, Nat.reduceEqDiff, Nat.reduceLT, Nat.reduceLeDiff, List.length_cons, List.length_nil, decide_eq_true_eq, Bool.not_eq_true', decide_eq_false_iff_not, Int.toNat_natCast, List.length_map, Bool.and_eq_true, Bool.or_eq_true, Bool.not_eq_eq_eq_not, Bool.not_eq_true, Bool.not_eq_false]
          subst hK
          have hne := L_ne (t := t) (p := p) (q := c) (by omega) hp (by omega)
          refine ihl m (steps + 1) c (setA ar hf hi (.int c)) za lo lc c (L t p c) lf false _ (hRl.congr fun x fl hx => setA_nx (fun e => nhi (.inr (.inl (e ▸ hx))))) (fun x hx => (w1 x hx).1) w3 (by omega) (by omega) (fun b => by rw [setA_len]; exact hlen b)
            hlo (by omega) (fun h => nlo (.inr (.inl h))) (fun h => Nat.lt_irrefl _ (w1 c h).1) (fun e => ncl (Prod.mk.inj e).2.symm) ?_ (.inr ⟨c, by omega, by omega, fun x hx => (w1 x hx).2.1⟩) (by omega) fun ar' E => hQ ar' ?_
          · rcases hLo with h | ⟨y, y1, y2, y3⟩
            · exact .inl h
            · exact .inr ⟨y, y1, y2, fun x hx => y3 x (.inr (.inl hx))⟩
          · obtain ⟨⟨a1, b1, q1, q2, q3, q4⟩, q5, q6⟩ := E
            have ll : ¬ l.has c := fun h => Nat.lt_irrefl _ (w1 c h).1
            refine ⟨⟨a1, c, q1, ?_, ?_, ?_⟩, fun fl x hx n1 n2 => ?_, fun fl => by rw [q6, setA_len]⟩
            · rw [q5 hf hi (fun h => nhi (.inr (.inl h))) (fun e => nsl e.symm) (fun e => nch (Prod.mk.inj e).2.symm)]
              exact setA_self (by rw [hlen]; exact hhi)
            · rw [split, if_pos hw, if_neg h1, if_neg h2]
              exact q3
            · rw [split, if_pos hw, if_neg h1, if_neg h2]
              refine ⟨rfl, b1, zb, q2, ?_, q4, ?_⟩
              · rw [q5 true c ll (fun e => ncl (Prod.mk.inj e).2) (by simp), setA_nx nch]
                exact hB'
              · refine hRg.congr fun x fl hx => ?_
                have nx : x ≠ c := fun e => by subst e; exact Nat.lt_irrefl _ (w2 x hx).1
                rw [q5 fl x (fun h => (w1 x h).2.2 hx) (fun e => nlo (.inr (.inr ((Prod.mk.inj e).2 ▸ hx)))) (fun e => nx (Prod.mk.inj e).2), setA_nx (show x ≠ hi from fun e => nhi (.inr (.inr (e ▸ hx))))]
            · rw [q5 fl x (fun h => hx (.inr (.inl h))) n1 (fun e => hx (.inl (Prod.mk.inj e).2)), setA_ne n2]
    · refine neg (by simp; omega) ?_
      refine hnext _ _ _ _ _ _ _ _ _ _ hlen hlo hhi (hQ _ ⟨⟨-1, -1, ?_, ?_, ?_, ?_⟩, fun fl x _ h1 h2 => ?_, fun fl => by rw [setA_len, setA_len]⟩)
      · rw [setA_ne nsl]; exact setA_self (by rw [hlen]; exact hlo)
      · exact setA_self (by rw [setA_len, hlen]; exact hhi)
      · rw [split, if_neg hw]; rfl
      · rw [split, if_neg hw]; rfl
      · rw [setA_ne h2, setA_ne h1]
end
end Mine
end

section
open PySem PySem.Calls PyProof.Rows PySem.W
set_option maxRecDepth 20000
namespace Mine
section
variable {X : Cx} {k : Nat}
variable {σ : AHeap} {f C : Addr} {fs : List (Nat × V)} {t : List Nat} {least w ch ah p : Nat} {Q : V → AHeap → Prop} {sa ga : Addr} {ar : Bool → List V}
theorem part_c (F : Fns X) (N : Tn σ f fs t least w ch ah sa ga) (hp : p < t.length) (hch : t.length < ch) {z : Int} {S : T} (hR : Rep ar z S) (hB : ∀ x, S.has x → x < p) (hW : WF t (t.length - p) S) (hlen : ∀ b, (ar b).length = t.length)
    (hQ : ∀ ar', PartEnd t p w ar ar' S p false p true → Q .none (sA σ sa ga ar')) : WC X (k + 2) (.ref 264) [.ref f, .int p, .int z] (sA σ sa ga ar) Q := by
  refine wc_of F F.TreeFinder_part rfl ?_
  have M := N.at_ ar
  try simp only [wpSs, wpS, wpE, wpEs, truthP, binP, binI, attrP, lenP, asItems, asList, methP, asgP, setAll, retQ, initR, List.getElem?_cons_zero, List.getElem?_cons_succ, List.set_cons_zero, List.set_cons_succ, List.cons_append, List.nil_append, List.replicate_succ, List.replicate_zero, Nat.reduceSub, Nat.reduceAdd, Option.some.injEq, exists_eq_left', ne_eq, reduceCtorEq, not_false_eq_true, true_and, Nat.reduceLeDiff, List.length_cons, List.length_nil, List.length_map, f_TreeFinder_part, f_TreeFinder_part_b, M.obj, M.f0]
  have e1 : (t.length : Int) - (p : Int) = ((t.length - p : Nat) : Int) := by omega
  rw [e1]
  have np : ¬ S.has p := fun h => Nat.lt_irrefl _ (hB p h)
  refine ⟨p + 1, part_loop (Q := Q) F N hp hch ?_ ?_ S (p + 1) 0 p ar z p 0 p 0 false true _ hR hB hW (by omega) (by omega) hlen hp hp np np (by simp) (.inl rfl) (.inl rfl) (by omega) hQ⟩
  · intro ar z st lo lf lc hi hf hc ct hl h1 h2 hq
    have M := N.at_ ar
    try simp only [List.getElem?_cons_zero, List.getElem?_cons_succ, Option.some.injEq, exists_eq_left', reduceCtorEq, not_false_eq_true, true_and, M.obj, M.nom 25 (by decide)]
    refine ⟨250, rfl, ?_⟩
    refine hang_c F N (by simp) hl h1 ?_
    have M1 := N.at_ (setA ar lf lo (.int (-1)))
    try simp only [true_and, M1.obj, M1.nom 25 (by decide)]
    refine ⟨250, rfl, ?_⟩
    refine hang_c F N (by simp) (fun b => by rw [setA_len]; exact hl b) h2 ?_
    try simp only [wpSs, wpS, wpE, wpEs, wpI, truthP, cmpP, copI, binP, binI, attrP, lenP, asItems, asList, asFrozen, methP, asgP, setAll, setattrP, putF, retQ, initR, idxP, lastP, bndP, sliceP, revP, dgetP, isDict, range1P, range2P, range3P, appendP, frzP, V.isNone, mkList, List.getElem?_cons_zero, List.getElem?_cons_succ, List.set_cons_zero, List.set_cons_succ, List.set_nil, List.cons_append, List.nil_append, List.replicate_succ, List.replicate_zero, Nat.reduceSub, Nat.reduceAdd, Option.some.injEq, exists_eq_left', ne_eq, reduceCtorEq, not_false_eq_true, true_and, and_true, if_true, if_false, Bool.true_eq_false, Bool.false_eq_true, Option.isSome_some, Nat.reduceBEq, List.lookup_nil, lookup_hit, lookup_miss, bne_self_eq_false, Bool.not_true, Bool.not_false, decide_true, decide_false, ite_true, ite_false, reduceIte, Nat.reduceEqDiff, Nat.reduceLT, Nat.reduceLeDiff, List.length_cons, List.length_nil, decide_eq_true_eq, Bool.not_eq_true', decide_eq_false_iff_not, Int.toNat_natCast, List.length_map, Bool.and_eq_true, Bool.or_eq_true, Bool.not_eq_eq_eq_not, Bool.not_eq_true, Bool.not_eq_false]
    exact hq
  · intro ρ σ' h
    exact h
def treF (t : List Nat) (least w ch ah : Nat) (r ro sa ga : Addr) : List (Nat × V) := [(0, .bytes t), (4, .int least), (5, .int w), (6, .int ch), (7, .int ah), (8, .ref r), (9, .ref ro), (10, .ref sa), (11, .ref ga)]
theorem treF_mt {ah : Nat} {r ro : Addr} (h : σ f = some (.inst C (treF t least w ch ah r ro sa ga))) : Mt σ f C (treF t least w ch ah r ro sa ga) t least w ch ah :=
  ⟨h, rfl, rfl, rfl, rfl, rfl, fun m hm => by
    unfold treF
    rw [lookup_miss (by simp; omega), lookup_miss (by simp; omega), lookup_miss (by simp; omega), lookup_miss (by simp; omega), lookup_miss (by simp; omega), lookup_miss (by simp; omega), lookup_miss (by simp; omega), lookup_miss (by simp; omega), lookup_miss (by simp; omega)]; rfl⟩
def TreH (t : List Nat) (least w : Nat) (ro sa ga : Addr) (i : Nat) (σ : AHeap) : Prop := ∃ (nd : Nat) (m : Int → Option V) (ar : Bool → List V) (z : Nat → Int) (S : Nat → T), σ ro = some (.dict nd m) ∧ nd ≤ i ∧ σ sa = some (.list (ar false)) ∧ σ ga = some (.list (ar true)) ∧ (∀ b, (ar b).length = t.length) ∧
    (∀ n : Nat, (m n).getD (.int (-1)) = .int (z n)) ∧ ∀ n : Nat, Rep ar (z n) (S n) ∧ WF t (t.length - i) (S n) ∧ Keyed t least n i (S n) ∧ Full t least w n i (S n)
structure TreI (t : List Nat) (least w ch : Nat) (f r ro sa ga : Addr) (i : Nat) (σ : AHeap) : Prop where
  obj : σ f = some (.inst 274 (treF t least w ch i r ro sa ga))
  row : ∃ la be, σ r = some (.inst 92 (rowF t least la be))
  ne : sa ≠ ga
  all : TreH t least w ro sa ga i σ
def treFt (f r ro sa ga : Addr) : Addr → Prop := fun a => a = f ∨ a = r ∨ a = ro ∨ a = sa ∨ a = ga
theorem TreI.keep {σ' : AHeap} {r ro : Addr} {i : Nat} (x : TreI t least w ch f r ro sa ga i σ) (h : ∀ a o, treFt f r ro sa ga a → σ a = some o → σ' a = some o) : TreI t least w ch f r ro sa ga i σ' := by
  obtain ⟨a, ⟨la, be, b⟩, c, ⟨nd, m, ar, z, S, d1, d2, d3, d4, d5⟩⟩ := x
  exact ⟨h _ _ (.inl rfl) a, ⟨la, be, h _ _ (.inr (.inl rfl)) b⟩, c, ⟨nd, m, ar, z, S, h _ _ (.inr (.inr (.inl rfl))) d1, d2, h _ _ (.inr (.inr (.inr (.inl rfl)))) d3, h _ _ (.inr (.inr (.inr (.inr rfl)))) d4, d5⟩⟩
theorem tre_enter (F : Fns X) {r ro : Addr} {i : Nat} (hch : t.length < ch) (hn : t.length ≤ 900) (hi : i < t.length) (h1 : σ f = some (.inst 274 (treF t least w ch ah r ro sa ga))) (h2 : ∃ la be, σ r = some (.inst 92 (rowF t least la be))) (ne : sa ≠ ga)
    (h3 : TreH t least w ro sa ga i σ) :
    WC X (k + 3) (.ref 257) [.ref f, .int i] σ (fun v σ' => (σ' f = some (.inst 274 (treF t least w ch ah r ro sa ga)) ∧ (∃ la be, σ' r = some (.inst 92 (rowF t least la be))) ∧
      TreH t least w ro sa ga (i + 1) σ') ∧ Fram (treFt f r ro sa ga) σ σ') := by
  obtain ⟨la, be, h2'⟩ := h2
  have h2 := h2'
  obtain ⟨nd, m, ar, z, S, d1, d2, d3, d4, d5, d6, d7⟩ := h3
  have n1 : f ≠ sa := fun e => by rw [e, d3] at h1; cases h1
  have n2 : f ≠ ga := fun e => by rw [e, d4] at h1; cases h1
  have n3 : f ≠ ro := fun e => by rw [e, d1] at h1; cases h1
  have n4 : r ≠ ro := fun e => by rw [e, d1] at h2; cases h2
  have n5 : r ≠ sa := fun e => by rw [e, d3] at h2; cases h2
  have n6 : r ≠ ga := fun e => by rw [e, d4] at h2; cases h2
  have n7 : sa ≠ ro := fun e => by rw [e, d1] at d3; cases d3
  have n8 : ga ≠ ro := fun e => by rw [e, d1] at d4; cases d4
  refine wc_of F F.TreeFinder_enter rfl ?_
  have h1' := h1
  unfold treF at h1'
  unfold rowF at h2'
  try simp only [wpSs, wpS, wpE, wpEs, truthP, attrP, methP, asgP, retQ, initR, dgetP, isDict, V.isNone, List.getElem?_cons_zero, List.getElem?_cons_succ, List.set_cons_zero, List.set_cons_succ, List.cons_append, List.nil_append, List.replicate_succ, List.replicate_zero, Nat.reduceSub, Option.some.injEq, exists_eq_left', ne_eq, reduceCtorEq, not_false_eq_true, true_and, Nat.reduceBEq, List.lookup_nil, lookup_hit, lookup_miss, f_TreeFinder_enter, f_TreeFinder_enter_b, h1', h2']
  refine ⟨75, rfl, ?_⟩
  refine key_c F h2 (by omega) ?_
  unfold keyV
  cases hk : keyN t i least with
  | none =>
    try simp only [reduceCtorEq, not_false_eq_true, true_and]
    refine ⟨⟨h1, ⟨la, be, h2⟩, nd, m, ar, z, S, d1, by omega, d3, d4, d5, d6, fun n => ?_⟩, fun b o _ e => e⟩
    obtain ⟨a1, a2, a3, a4⟩ := d7 n
    exact ⟨a1, keep_ok (by rw [hk]; simp) a2 a3 a4⟩
  | some n =>
    obtain ⟨a1, a2, a3, a4⟩ := d7 n
    try simp only [Option.some.injEq, exists_eq_left', reduceCtorEq, not_false_eq_true, true_and, if_false, Bool.false_eq_true, Nat.reduceBEq, lookup_hit, lookup_miss, bne_self_eq_false, h1', h2', d1, d6 n, setidxP]
    refine ⟨by omega, ?_⟩
    generalize hσ : upd σ ro _ = σ1
    have g1 : σ1 f = some (.inst 274 (treF t least w ch ah r ro sa ga)) := by rw [← hσ, upd_ne n3]; exact h1
    have g2 : σ1 sa = some (.list (ar false)) := by rw [← hσ, upd_ne n7]; exact d3
    have g3 : σ1 ga = some (.list (ar true)) := by rw [← hσ, upd_ne n8]; exact d4
    have M := treF_mt g1
    try simp only [true_and, M.obj, M.nom 26 (by decide)]
    refine ⟨264, rfl, ?_⟩
    rw [← sA_here g2 g3]
    have N : Tn σ1 f (treF t least w ch ah r ro sa ga) t least w ch ah sa ga := ⟨M, rfl, rfl, ne, n1, n2⟩
    refine part_c F N hi hch a1 (fun x hx => (a3 x hx).1) a2 d5 fun ar' E => ?_
    try simp only [wpSs, wpS, wpE, wpEs, wpI, truthP, cmpP, copI, binP, binI, attrP, lenP, asItems, asList, asFrozen, methP, asgP, setAll, setattrP, putF, retQ, initR, idxP, lastP, bndP, sliceP, revP, dgetP, isDict, range1P, range2P, range3P, appendP, frzP, V.isNone, mkList, List.getElem?_cons_zero, List.getElem?_cons_succ, List.set_cons_zero, List.set_cons_succ, List.set_nil, List.cons_append, List.nil_append, List.replicate_succ, List.replicate_zero, Nat.reduceSub, Nat.reduceAdd, Option.some.injEq, exists_eq_left', ne_eq, reduceCtorEq, not_false_eq_true, true_and, and_true, if_true, if_false, Bool.true_eq_false, Bool.false_eq_true, Option.isSome_some, Nat.reduceBEq, List.lookup_nil, lookup_hit, lookup_miss, bne_self_eq_false, Bool.not_true, Bool.not_false, decide_true, decide_false, ite_true, ite_false, reduceIte, Nat.reduceEqDiff, Nat.reduceLT, Nat.reduceLeDiff, List.length_cons, List.length_nil, decide_eq_true_eq, Bool.not_eq_true', decide_eq_false_iff_not, Int.toNat_natCast, List.length_map, Bool.and_eq_true, Bool.or_eq_true, Bool.not_eq_eq_eq_not, Bool.not_eq_true, Bool.not_eq_false]
    obtain ⟨⟨a, b, q1, q2, q3, q4⟩, q5, q6⟩ := E
    refine ⟨⟨by rw [sA_ne n1 n2]; exact g1, ⟨la, be, by rw [sA_ne n5 n6, ← hσ, upd_ne n4]; exact h2⟩, nd + 1, _, ar', (fun j => if j = n then (i : Int) else z j), (fun j => if j = n then put1 t i w (S n) else S j),
      by rw [sA_ne n7.symm n8.symm, ← hσ, upd_self], by omega, sA_s ne, sA_g, fun b => by rw [q6]; exact d5 b, fun j => ?_, fun j => ?_⟩, fun c o hc e => ?_⟩
    · show (if (j : Int) = (n : Int) then some (V.int (i : Int)) else m j).getD _ = _
      by_cases h : j = n
      · rw [if_pos (by omega)]; simp [h]
      · rw [if_neg (by omega), d6 j]; simp [h]
    · by_cases h : j = n
      · subst h
        simp only [if_true]
        have hx : ¬ (S j).has i := fun h => Nat.lt_irrefl _ (a3 i h).1
        obtain ⟨b1, b2, b3⟩ := put1_ok hi hk a2 a3 a4
        exact ⟨⟨rfl, a, b, q1, q2, q3, q4⟩, b1, b2, b3⟩
      · simp only [if_neg h]
        obtain ⟨c1, c2, c3, c4⟩ := d7 j
        obtain ⟨b1, b2, b3⟩ := keep_ok (by rw [hk]; intro e; exact h (Option.some.inj e).symm) c2 c3 c4
        refine ⟨c1.congr fun x fl hx => ?_, b1, b2, b3⟩
        have hx1 := c3 x hx
        have nx : x ≠ i := by omega
        refine q5 fl x (fun hx2 => ?_) (fun e => nx (Prod.mk.inj e).2) (fun e => nx (Prod.mk.inj e).2)
        have := (a3 x hx2).2
        rw [hx1.2] at this
        exact h (Option.some.inj this)
    · have := fun e => hc (.inr (.inr (.inr (.inl e))))
      rw [sA_ne (fun e => hc (.inr (.inr (.inr (.inl e))))) (fun e => hc (.inr (.inr (.inr (.inr e))))), ← hσ, upd_ne (fun e => hc (.inr (.inr (.inl e))))]
      exact e
theorem tre_put (F : Fns X) {r ro : Addr} {i : Nat} (hch : t.length < ch) (hn : t.length ≤ 900) (I : TreI t least w ch f r ro sa ga i σ) (hi : i < t.length) :
    WC X (k + 4) (.ref 117) [.ref f, .int i] σ (fun v σ' => TreI t least w ch f r ro sa ga (i + 1) σ' ∧ Fram (treFt f r ro sa ga) σ σ') := by
  obtain ⟨hf, ⟨la, be, hr⟩, ne, ⟨nd, m, ar, z, S, d1, d2, d3, d4, d5⟩⟩ := I
  have n1 : sa ≠ f := fun e => by rw [← e, d3] at hf; cases hf
  have n2 : ga ≠ f := fun e => by rw [← e, d4] at hf; cases hf
  have n3 : ro ≠ f := fun e => by rw [← e, d1] at hf; cases hf
  have n4 : r ≠ f := fun e => by rw [← e, hr] at hf; cases hf
  refine mput_c F (C := 274) (fe := 257) rfl (treF_mt hf) (by simp [treF]) hi ?_ rfl
  show WC X (k + 3) (.ref 257) [.ref f, .int i] (upd σ f (.inst 274 (treF t least w ch (i + 1) r ro sa ga))) _
  refine (tre_enter F hch hn hi upd_self ⟨la, be, by rw [upd_ne n4]; exact hr⟩ ne ⟨nd, m, ar, z, S, by rw [upd_ne n3]; exact d1, d2, by rw [upd_ne n1]; exact d3, by rw [upd_ne n2]; exact d4, d5⟩).mono fun v σ' ⟨⟨h1, h2, h3⟩, h4⟩ => ?_
  refine ⟨⟨h1, h2, ne, h3⟩, fun a o ha e => h4 a o ha ?_⟩
  rw [upd_ne (fun e => ha (.inl e))]
  exact e
end
end Mine
end

section
open PySem PySem.Calls PyProof.Rows PySem.W
set_option maxRecDepth 20000
namespace Mine
section
variable {X : Cx} {k : Nat}
variable {σ : AHeap} {f C : Addr} {fs : List (Nat × V)} {t : List Nat} {least w ch ah p : Nat} {Q : V → AHeap → Prop} {sa ga : Addr} {ar : Bool → List V}
def tev_tail : Ss := (.cons (.ife (.cmp (.v 11) .lt (.v 5)) (.cons (.ife (.cmp (.idx (.attr (.v 0) 0) (.bin .add (.v 10) (.v 11))) .lt (.idx (.attr (.v 0) 0) (.bin .add (.v 1) (.v 11)))) (.cons (.asg (.tup [8, 10]) (.tup (.cons (.v 11) (.cons (.idx (.attr (.v 0) 11) (.v 10)) .nil)))) .nil) (.cons (.asg (.tup [9, 10]) (.tup (.cons (.v 11) (.cons (.idx (.attr (.v 0) 10) (.v 10)) .nil)))) .nil)) .nil) .nil) .nil)
theorem tev_b2 : f_TreeFinder_every_b2 = (.cons (.aug 7 .add (.int 1)) (.cons (.asg (.v 11) (.meth (.v 0) 20 (.cons (.v 1) (.cons (.v 10) (.cons (.min2 (.v 8) (.v 9)) (.cons (.v 5) .nil)))))) (.cons (.ife (.cmp (.v 11) .gt (.v 6)) (.cons (.expr (.lappend (.v 4) (.tup (.cons (.v 11) (.cons (.bin .sub (.v 1) (.v 10)) .nil))))) (.cons (.asg (.v 6) (.v 11)) .nil)) .nil) tev_tail))) := rfl
theorem tev_loop (F : Fns X) {a : Addr} {lim : Nat} {R : Fl → List V → AHeap → Prop} {mo nu : V} (M0 : Mt σ f 274 fs t least w ch ah) (h10 : fs.lookup 10 = some (.ref sa)) (h11 : fs.lookup 11 = some (.ref ga)) (hs : σ sa = some (.list (ar false))) (hg : σ ga = some (.list (ar true)))
    (ha : σ a = none) (hl : lim ≤ t.length - p) (hp : p < t.length) (hch : t.length < ch) (hn : t.length ≤ 900) :
    ∀ (S : T) (m steps bound : Nat) (acc : List V) (z : Int) (lc hc lo : Nat) (ct : V), Rep ar z S → (∀ x, S.has x → x < bound) → WF t (t.length - p) S → steps + bound ≤ p → bound < m → acc.length ≤ steps →
      LoOk t p (t.length - p) lc S → HiOk t p (t.length - p) hc S → min lc hc ≤ lim →
      (∀ lo' st lc hc z ct, R .next [.ref f, .int p, mo, nu, .ref a, .int lim, lo', st, lc, hc, z, ct] (upd σ a (.list (acc ++ (recs t p lim lo (path t p w lim S)).map pairN)))) →
      whileP (fun ρ σ Q => wpE X (k + 1) f_TreeFinder_every_c1 ρ σ fun u σ₁ => truthP u fun b => Q b σ₁) (fun ρ σ Q => wpSs X (k + 1) f_TreeFinder_every_b2 ρ σ Q) R m
        [.ref f, .int p, mo, nu, .ref a, .int lim, .int lo, .int steps, .int lc, .int hc, .int z, ct] (upd σ a (.list acc)) := by
  have nsa : sa ≠ a := fun e => by rw [e, ha] at hs; cases hs
  have nga : ga ≠ a := fun e => by rw [e, ha] at hg; cases hg
  intro S
  induction S with
  | nil =>
    intro m steps bound acc z lc hc lo ct hR hB hW hst hm hac hLo hHi hkn hQ
    obtain ⟨m, rfl⟩ : ∃ m', m = m' + 1 := ⟨m - 1, by omega⟩
    unfold whileP
    have M := M0.mono (σ' := upd σ a (.list acc)) fun o h => (Ext.upd ha) _ _ h
    generalize hK : whileP _ _ R m = K
    try simp only [wpE, wpEs, truthP, cmpP, copI, attrP, methP, List.getElem?_cons_zero, List.getElem?_cons_succ, Option.some.injEq, exists_eq_left', ne_eq, reduceCtorEq, not_false_eq_true, true_and, if_false, Bool.false_eq_true, decide_eq_true_eq, f_TreeFinder_every_c1, M.obj, M.nom 21 (by decide)]
    refine ⟨159, rfl, ?_⟩
    refine near_c F M ?_
    have hz : z = -1 := hR
    subst hz
    refine neg (by simp) ?_
    try simp only [wpSs, wpS, wpE, wpEs, wpI, truthP, cmpP, copI, binP, binI, attrP, lenP, asItems, asList, asFrozen, methP, asgP, setAll, setattrP, putF, retQ, initR, idxP, lastP, bndP, sliceP, revP, dgetP, isDict, range1P, range2P, range3P, appendP, frzP, V.isNone, mkList, List.getElem?_cons_zero, List.getElem?_cons_succ, List.set_cons_zero, List.set_cons_succ, List.set_nil, List.cons_append, List.nil_append, List.replicate_succ, List.replicate_zero, Nat.reduceSub, Nat.reduceAdd, Option.some.injEq, exists_eq_left', ne_eq, reduceCtorEq, not_false_eq_true, true_and, and_true, if_true, if_false, Bool.true_eq_false, Bool.false_eq_true, Option.isSome_some, Nat.reduceBEq, List.lookup_nil, lookup_hit, lookup_miss, bne_self_eq_false, Bool.not_true, Bool.not_false, decide_true, decide_false, ite_true, ite_false, reduceIte, Nat.reduceEqDiff, Nat.reduceLT, Nat.reduceLeDiff, List.length_cons, List.length_nil, decide_eq_true_eq, Bool.not_eq_true', decide_eq_false_iff_not, Int.toNat_natCast, List.length_map, Bool.and_eq_true, Bool.or_eq_true, Bool.not_eq_eq_eq_not, Bool.not_eq_true, Bool.not_eq_false]
    simpa [path, recs] using hQ _ _ _ _ _ _
  | node l c g ihl ihg =>
    intro m steps bound acc z lc hc lo ct hR hB hW hst hm hac hLo hHi hkn hQ
    obtain ⟨m, rfl⟩ : ∃ m', m = m' + 1 := ⟨m - 1, by omega⟩
    obtain ⟨rfl, za, zb, hA, hB', hRl, hRg⟩ := hR
    obtain ⟨w1, w2, w3, w4⟩ := hW
    have hcb := hB c (.inl rfl)
    have M := M0.mono (σ' := upd σ a (.list acc)) fun o h => (Ext.upd ha) _ _ h
    unfold whileP
    generalize hK : whileP _ _ R m = K
    try simp only [wpE, wpEs, truthP, cmpP, copI, attrP, methP, List.getElem?_cons_zero, List.getElem?_cons_succ, Option.some.injEq, exists_eq_left', ne_eq, reduceCtorEq, not_false_eq_true, true_and, if_false, Bool.false_eq_true, decide_eq_true_eq, f_TreeFinder_every_c1, M.obj, M.nom 21 (by decide)]
    refine ⟨159, rfl, ?_⟩
    refine near_c F M ?_
    by_cases hw : p - c ≤ w
    · refine pos (by simp; omega) ?_
      try simp only [Option.some.injEq, exists_eq_left', reduceCtorEq, not_false_eq_true, true_and, M.obj, M.f6]
      refine pos (by omega) ?_
      by_cases hlo : lo < lim
      · refine pos (by omega) ?_
        rw [path, if_pos hw] at hQ
        have fin : ∀ (acc' : List V) (lo' : Nat), acc'.length ≤ steps + 1 → (∀ cs, acc ++ (recs t p lim lo (c :: cs)).map pairN = acc' ++ (recs t p lim lo' cs).map pairN) → (lim ≤ fv t p lim c → lim ≤ lo') →
            wpSs X (k + 1) tev_tail [.ref f, .int p, mo, nu, .ref a, .int lim, .int lo', .int (steps + 1 : Nat), .int lc, .int hc, .int c, .int (min (L t p c) lim : Nat)] (upd σ a (.list acc')) (fun fl ρ' σ' => match fl with | .next => K ρ' σ' | .brk => R .next ρ' σ' | .ret v => R (.ret v) ρ' σ') := by
          intro acc' lo' hac' hrec hfull
          have M' := M0.mono (σ' := upd σ a (.list acc')) fun o h => (Ext.upd ha) _ _ h
          try simp only [wpSs, wpS, wpE, wpEs, truthP, cmpP, copI, binP, binI, attrP, asItems, asList, asgP, setAll, idxP, List.getElem?_cons_zero, List.getElem?_cons_succ, List.set_cons_zero, List.set_cons_succ, Nat.reduceAdd, Option.some.injEq, exists_eq_left', ne_eq, reduceCtorEq, not_false_eq_true, true_and, Nat.reduceLeDiff, List.length_cons, List.length_nil, decide_eq_true_eq, tev_tail]
          have hL := (L_le (t := t) (p := p) (q := c)).1
          by_cases h1 : lim ≤ L t p c
          · refine neg (by omega) ?_
            rw [if_pos h1, hrec] at hQ
            subst hK
            obtain ⟨m, rfl⟩ : ∃ m', m = m' + 1 := ⟨m - 1, by omega⟩
            have hf := hfull (by unfold fv; omega)
            unfold whileP
            generalize hK : whileP _ _ R m = K
            try simp only [wpE, wpEs, truthP, cmpP, copI, attrP, methP, List.getElem?_cons_zero, List.getElem?_cons_succ, Option.some.injEq, exists_eq_left', ne_eq, reduceCtorEq, not_false_eq_true, true_and, if_false, Bool.false_eq_true, decide_eq_true_eq, f_TreeFinder_every_c1, M'.obj, M'.nom 21 (by decide)]
            refine ⟨159, rfl, ?_⟩
            refine near_c F M' ?_
            refine pos (by simp; omega) ?_
            try simp only [Option.some.injEq, exists_eq_left', reduceCtorEq, not_false_eq_true, true_and, M'.obj, M'.f6]
            refine pos (by omega) (neg (by omega) ?_)
            try simp only [wpSs, wpS, wpE, wpEs, wpI, truthP, cmpP, copI, binP, binI, attrP, lenP, asItems, asList, asFrozen, methP, asgP, setAll, setattrP, putF, retQ, initR, idxP, lastP, bndP, sliceP, revP, dgetP, isDict, range1P, range2P, range3P, appendP, frzP, V.isNone, mkList, List.getElem?_cons_zero, List.getElem?_cons_succ, List.set_cons_zero, List.set_cons_succ, List.set_nil, List.cons_append, List.nil_append, List.replicate_succ, List.replicate_zero, Nat.reduceSub, Nat.reduceAdd, Option.some.injEq, exists_eq_left', ne_eq, reduceCtorEq, not_false_eq_true, true_and, and_true, if_true, if_false, Bool.true_eq_false, Bool.false_eq_true, Option.isSome_some, Nat.reduceBEq, List.lookup_nil, lookup_hit, lookup_miss, bne_self_eq_false, Bool.not_true, Bool.not_false, decide_true, decide_false, ite_true, ite_false, reduceIte, Nat.reduceEqDiff, Nat.reduceLT, Nat.reduceLeDiff, List.length_cons, List.length_nil, decide_eq_true_eq, Bool.not_eq_true', decide_eq_false_iff_not, Int.toNat_natCast, List.length_map, Bool.and_eq_true, Bool.or_eq_true, Bool.not_eq_eq_eq_not, Bool.not_eq_true, Bool.not_eq_false]
            simpa [recs] using hQ _ _ _ _ _ _
          · rw [if_neg h1] at hQ
            refine pos (by omega) ?_
            try simp only [Option.some.injEq, exists_eq_left', reduceCtorEq, not_false_eq_true, true_and, M'.obj, M'.f0]
            have e0 : min (L t p c) lim = L t p c := by omega
            rw [e0]
            have e1 : ((c : Int) + (L t p c : Int)).toNat = c + L t p c := by omega
            have e2 : ((p : Int) + (L t p c : Int)).toNat = p + L t p c := by omega
            refine ⟨by omega, _, by rw [e1]; exact get_b (by omega), by omega, _, by rw [e2]; exact get_b (by omega), ?_⟩
            try simp only []
            by_cases h2 : dg t (c + L t p c) < dg t (p + L t p c)
            · refine pos ((dg_lt (by omega) (by omega)).mpr h2) ?_
              try simp only [Option.some.injEq, exists_eq_left', reduceCtorEq, not_false_eq_true, true_and, Int.toNat_natCast, h11, upd_ne nga, hg]
              refine ⟨by omega, _, hB', ?_⟩
              try simp only [wpSs, wpS, wpE, wpEs, wpI, truthP, cmpP, copI, binP, binI, attrP, lenP, asItems, asList, asFrozen, methP, asgP, setAll, setattrP, putF, retQ, initR, idxP, lastP, bndP, sliceP, revP, dgetP, isDict, range1P, range2P, range3P, appendP, frzP, V.isNone, mkList, List.getElem?_cons_zero, List.getElem?_cons_succ, List.set_cons_zero, List.set_cons_succ, List.set_nil, List.cons_append, List.nil_append, List.replicate_succ, List.replicate_zero, Nat.reduceSub, Nat.reduceAdd, Option.some.injEq, exists_eq_left', ne_eq, reduceCtorEq, not_false_eq_true, true_and, and_true, if_true, if_false, Bool.true_eq_false, Bool.false_eq_true, Option.isSome_some, Nat.reduceBEq, List.lookup_nil, lookup_hit, lookup_miss, bne_self_eq_false, Bool.not_true, Bool.not_false, decide_true, decide_false, ite_true, ite_false, reduceIte, Nat.reduceEqDiff, Nat.reduceLT, Nat.reduceLeDiff, List.length_cons, List.length_nil, decide_eq_true_eq, Bool.not_eq_true', decide_eq_false_iff_not, Int.toNat_natCast, List.length_map, Bool.and_eq_true, Bool.or_eq_true, Bool.not_eq_eq_eq_not, Bool.not_eq_true, Bool.not_eq_false]
              subst hK
              rw [if_pos h2, hrec] at hQ
              refine ihg m (steps + 1) c acc' zb (L t p c) hc lo' _ hRg (fun x hx => (w2 x hx).1) w4 (by omega) (by omega) hac' (.inr ⟨c, by omega, by omega, fun x hx => (w2 x hx).2⟩) ?_ (by omega) hQ
              rcases hHi with h | ⟨y, y1, y2, y3⟩
              · exact .inl h
              · exact .inr ⟨y, y1, y2, fun x hx => y3 x (.inr (.inr hx))⟩
            · refine neg (fun e => h2 ((dg_lt (by omega) (by omega)).mp e)) ?_
              try simp only [Option.some.injEq, exists_eq_left', reduceCtorEq, not_false_eq_true, true_and, Int.toNat_natCast, h10, upd_ne nsa, hs]
              refine ⟨by omega, _, hA, ?_⟩
              try simp only [wpSs, wpS, wpE, wpEs, wpI, truthP, cmpP, copI, binP, binI, attrP, lenP, asItems, asList, asFrozen, methP, asgP, setAll, setattrP, putF, retQ, initR, idxP, lastP, bndP, sliceP, revP, dgetP, isDict, range1P, range2P, range3P, appendP, frzP, V.isNone, mkList, List.getElem?_cons_zero, List.getElem?_cons_succ, List.set_cons_zero, List.set_cons_succ, List.set_nil, List.cons_append, List.nil_append, List.replicate_succ, List.replicate_zero, Nat.reduceSub, Nat.reduceAdd, Option.some.injEq, exists_eq_left', ne_eq, reduceCtorEq, not_false_eq_true, true_and, and_true, if_true, if_false, Bool.true_eq_false, Bool.false_eq_true, Option.isSome_some, Nat.reduceBEq, List.lookup_nil, lookup_hit, lookup_miss, bne_self_eq_false, Bool.not_true, Bool.not_false, decide_true, decide_false, ite_true, ite_false, reduceIte, Nat.reduceEqDiff, Nat.reduceLT, Nat.reduceLeDiff, List.length_cons, List.length_nil, decide_eq_true_eq, Bool.not_eq_true', decide_eq_false_iff_not, Int.toNat_natCast, List.length_map, Bool.and_eq_true, Bool.or_eq_true, Bool.not_eq_eq_eq_not, Bool.not_eq_true, Bool.not_eq_false]
              subst hK
              rw [if_neg h2, hrec] at hQ
              refine ihl m (steps + 1) c acc' za lc (L t p c) lo' _ hRl (fun x hx => (w1 x hx).1) w3 (by omega) (by omega) hac' ?_ (.inr ⟨c, by omega, by omega, fun x hx => (w1 x hx).2.1⟩) (by omega) hQ
              rcases hLo with h | ⟨y, y1, y2, y3⟩
              · exact .inl h
              · exact .inr ⟨y, y1, y2, fun x hx => y3 x (.inr (.inl hx))⟩
        try simp only [wpSs, wpS, wpE, wpEs, truthP, cmpP, copI, binP, binI, asList, methP, asgP, appendP, List.getElem?_cons_zero, List.getElem?_cons_succ, List.set_cons_zero, List.set_cons_succ, Nat.reduceAdd, Option.some.injEq, exists_eq_left', ne_eq, reduceCtorEq, not_false_eq_true, true_and, Nat.reduceLeDiff, List.length_cons, List.length_nil, decide_eq_true_eq, tev_b2, M.obj, M.nom 20 (by decide)]
        refine ⟨152, rfl, ?_⟩
        have hmin : min (lc : Int) (hc : Int) = ((min lc hc : Nat) : Int) := by omega
        rw [hmin]
        have hk2 := known_ok hp hLo hHi (.inl rfl) (show c < p by omega)
        refine alike_c F M (by omega) hl (by omega) (by omega) ?_
        have e5 : (steps : Int) + 1 = ((steps + 1 : Nat) : Int) := by omega
        rw [e5]
        try simp only [reduceCtorEq, not_false_eq_true, true_and, Option.isSome_some, upd_self]
        by_cases h3 : lo < min (L t p c) lim
        · refine pos (by omega) ?_
          refine ⟨by omega, ?_⟩
          rw [upd_upd]
          have e6 : (p : Int) - (c : Int) = ((p - c : Nat) : Int) := by omega
          rw [e6]
          exact fin _ _ (by simp; omega) (fun cs => by rw [recs, if_pos (by unfold fv; exact h3)]; simp [pairN, fv]) (fun h => by unfold fv at h; omega)
        · refine neg (by omega) ?_
          exact fin _ _ (by omega) (fun cs => by rw [recs, if_neg (by unfold fv; exact h3)]) (fun h => by unfold fv at h; omega)
      · refine neg (by omega) ?_
        try simp only [wpSs, wpS, wpE, wpEs, wpI, truthP, cmpP, copI, binP, binI, attrP, lenP, asItems, asList, asFrozen, methP, asgP, setAll, setattrP, putF, retQ, initR, idxP, lastP, bndP, sliceP, revP, dgetP, isDict, range1P, range2P, range3P, appendP, frzP, V.isNone, mkList, List.getElem?_cons_zero, List.getElem?_cons_succ, List.set_cons_zero, List.set_cons_succ, List.set_nil, List.cons_append, List.nil_append, List.replicate_succ, List.replicate_zero, Nat.reduceSub, Nat.reduceAdd, Option.some.injEq, exists_eq_left', ne_eq, reduceCtorEq, not_false_eq_true, true_and, and_true, if_true, if_false, Bool.true_eq_false, Bool.false_eq_true, Option.isSome_some, Nat.reduceBEq, List.lookup_nil, lookup_hit, lookup_miss, bne_self_eq_false, Bool.not_true, Bool.not_false, decide_true, decide_false, ite_true, ite_false, reduceIte, Nat.reduceEqDiff, Nat.reduceLT, Nat.reduceLeDiff, List.length_cons, List.length_nil, decide_eq_true_eq, Bool.not_eq_true', decide_eq_false_iff_not, Int.toNat_natCast, List.length_map, Bool.and_eq_true, Bool.or_eq_true, Bool.not_eq_eq_eq_not, Bool.not_eq_true, Bool.not_eq_false]
        have e : recs t p lim lo (path t p w lim (.node l c g)) = [] := recs_nil fun x _ => by unfold fv; omega
        rw [e] at hQ
        simpa using hQ _ _ _ _ _ _
    · refine neg (by simp; omega) ?_
      try simp only [wpSs, wpS, wpE, wpEs, wpI, truthP, cmpP, copI, binP, binI, attrP, lenP, asItems, asList, asFrozen, methP, asgP, setAll, setattrP, putF, retQ, initR, idxP, lastP, bndP, sliceP, revP, dgetP, isDict, range1P, range2P, range3P, appendP, frzP, V.isNone, mkList, List.getElem?_cons_zero, List.getElem?_cons_succ, List.set_cons_zero, List.set_cons_succ, List.set_nil, List.cons_append, List.nil_append, List.replicate_succ, List.replicate_zero, Nat.reduceSub, Nat.reduceAdd, Option.some.injEq, exists_eq_left', ne_eq, reduceCtorEq, not_false_eq_true, true_and, and_true, if_true, if_false, Bool.true_eq_false, Bool.false_eq_true, Option.isSome_some, Nat.reduceBEq, List.lookup_nil, lookup_hit, lookup_miss, bne_self_eq_false, Bool.not_true, Bool.not_false, decide_true, decide_false, ite_true, ite_false, reduceIte, Nat.reduceEqDiff, Nat.reduceLT, Nat.reduceLeDiff, List.length_cons, List.length_nil, decide_eq_true_eq, Bool.not_eq_true', decide_eq_false_iff_not, Int.toNat_natCast, List.length_map, Bool.and_eq_true, Bool.or_eq_true, Bool.not_eq_eq_eq_not, Bool.not_eq_true, Bool.not_eq_false]
      rw [path, if_neg hw] at hQ
      simpa [recs] using hQ _ _ _ _ _ _
theorem tre_every (F : Fns X) {r ro : Addr} {i m : Nat} (hb : ∀ o ∈ t, o < 256) (hls : 0 < least) (hch : t.length < ch) (hn : t.length ≤ 900) (I : TreI t least w ch f r ro sa ga i σ) (hi : i < t.length) :
    WC X (k + 3) (.ref 271) [.ref f, .int i, .int m] σ (fun v σ' => v = .list ((recs t i (min m (t.length - i)) (least - 1) (cands i w)).map pairN) ∧ Ext σ σ') := by
  obtain ⟨hf, ⟨la, be, hr⟩, ne, ⟨nd, mm, ar, z, S, d1, d2, d3, d4, d5, d6, d7⟩⟩ := I
  have M := treF_mt hf
  refine wc_of F F.TreeFinder_every rfl ?_
  have hf' := hf
  have hr' := hr
  unfold treF at hf'
  unfold rowF at hr'
  try simp only [wpSs, wpS, wpE, wpEs, truthP, cmpP, copI, binP, binI, attrP, methP, asgP, setAll, retQ, initR, dgetP, isDict, frzP, V.isNone, mkList, List.getElem?_cons_zero, List.getElem?_cons_succ, List.set_cons_zero, List.set_cons_succ, List.cons_append, List.nil_append, List.replicate_succ, List.replicate_zero, Nat.reduceSub, Nat.reduceAdd, Option.some.injEq, exists_eq_left', ne_eq, reduceCtorEq, not_false_eq_true, true_and, if_true, if_false, Bool.false_eq_true, Nat.reduceBEq, List.lookup_nil, lookup_hit, lookup_miss, Nat.reduceLeDiff, List.length_cons, List.length_nil, decide_eq_true_eq, f_TreeFinder_every, f_TreeFinder_every_b, hf', hr']
  refine neg (by omega) ?_
  try simp only [wpSs, wpS, wpE, wpEs, wpI, truthP, cmpP, copI, binP, binI, attrP, lenP, asItems, asList, asFrozen, methP, asgP, setAll, setattrP, putF, retQ, initR, idxP, lastP, bndP, sliceP, revP, dgetP, isDict, range1P, range2P, range3P, appendP, frzP, V.isNone, mkList, List.getElem?_cons_zero, List.getElem?_cons_succ, List.set_cons_zero, List.set_cons_succ, List.set_nil, List.cons_append, List.nil_append, List.replicate_succ, List.replicate_zero, Nat.reduceSub, Nat.reduceAdd, Option.some.injEq, exists_eq_left', ne_eq, reduceCtorEq, not_false_eq_true, true_and, and_true, if_true, if_false, Bool.true_eq_false, Bool.false_eq_true, Option.isSome_some, Nat.reduceBEq, List.lookup_nil, lookup_hit, lookup_miss, bne_self_eq_false, Bool.not_true, Bool.not_false, decide_true, decide_false, ite_true, ite_false, reduceIte, Nat.reduceEqDiff, Nat.reduceLT, Nat.reduceLeDiff, List.length_cons, List.length_nil, decide_eq_true_eq, Bool.not_eq_true', decide_eq_false_iff_not, Int.toNat_natCast, List.length_map, Bool.and_eq_true, Bool.or_eq_true, Bool.not_eq_eq_eq_not, Bool.not_eq_true, Bool.not_eq_false, hf', hr']
  refine ⟨75, rfl, ?_⟩
  refine key_c F hr (by omega) ?_
  unfold keyV
  cases hk : keyN t i least with
  | none =>
    try simp only [reduceCtorEq, not_false_eq_true, true_and]
    rw [none_recs hls hk]
    exact ⟨rfl, .refl⟩
  | some n =>
    obtain ⟨a1, a2, a3, a4⟩ := d7 n
    try simp only [reduceCtorEq, not_false_eq_true, true_and, if_false, Bool.false_eq_true, bne_self_eq_false]
    refine fun a ha => ?_
    have E : Ext σ (upd σ a (.list [])) := .upd ha
    have M' := M.mono (σ' := upd σ a (.list [])) fun o h => E _ _ h
    try simp only [true_and, M'.obj, M'.nom 18 (by decide)]
    refine ⟨138, rfl, ?_⟩
    refine limit_c F M' (by omega) ?_
    have g9 : (treF t least w ch i r ro sa ga).lookup 9 = some (.ref ro) := rfl
    try simp only [Option.some.injEq, exists_eq_left', reduceCtorEq, not_false_eq_true, true_and, M'.obj, M'.f4, g9, E _ _ d1, d6 n]
    have e3 : ((least : Int) - 1) = ((least - 1 : Nat) : Int) := by omega
    rw [e3]
    refine ⟨i + 1, tev_loop F M rfl rfl d3 d4 ha (by omega) hi hch hn (S n) (i + 1) 0 i [] (z n) 0 0 (least - 1) _ a1 (fun x hx => (a3 x hx).1) a2 (by omega) (by omega) (by simp) (.inl rfl) (.inl rfl) (by omega) fun lo st lc hc z ct => ?_⟩
    try simp only [List.getElem?_cons_zero, List.getElem?_cons_succ, List.nil_append, Option.some.injEq, exists_eq_left', reduceCtorEq, not_false_eq_true, true_and, upd_self]
    rw [tree_recs hb hls hk hi (by omega) a2 a3 a4, del_upd ha]
    exact ⟨rfl, .refl⟩
theorem tre_ok (F : Fns X) {r ro : Addr} (hb : ∀ o ∈ t, o < 256) (hls : 0 < least) (hch : t.length < ch) (hn : t.length ≤ 900) : Fi X (k + 4) t least w f (treFt f r ro sa ga) (TreI t least w ch f r ro sa ga) where
  self := .inl rfl
  mt := fun i σ I => ⟨274, _, ch, .inr (.inl rfl), treF_mt I.obj⟩
  keep := fun i σ σ' I h => I.keep h
  live := fun i σ I a ha e => by
    obtain ⟨h1, ⟨la, be, h2⟩, _, ⟨nd, m, ar, z, S, d1, d2, d3, d4, d5⟩⟩ := I
    rcases ha with rfl | rfl | rfl | rfl | rfl
    · rw [h1] at e; cases e
    · rw [h2] at e; cases e
    · rw [d1] at e; cases e
    · rw [d3] at e; cases e
    · rw [d4] at e; cases e
  every := fun i σ m I hi => ⟨274, _, 271, I.obj, rfl, rfl, (tre_every (k := k) F hb hls hch hn I hi).le (by omega)⟩
  put := fun i σ I hi => tre_put F hch hn I hi
end
end Mine
end

section
open PySem PySem.Calls PyProof.Rows PySem.W
set_option maxRecDepth 20000
namespace Mine
section
variable {t : List Nat} {p w lim : Nat}
theorem newest_spec {s : Nat} (hb : ∀ o ∈ t, o < 256) (hs : 0 < s) (hp : p < t.length) : (newestI t s p = -1 ∧ ∀ c, c < p → L t p c < s) ∨ ∃ o : Nat, newestI t s p = o ∧ o < p ∧ s ≤ L t p o ∧ ∀ c, c < p → o < c → L t p c < s := by
  unfold newestI
  cases hk : keyN t p s with
  | none =>
    refine .inl ⟨rfl, fun c hc => ?_⟩
    have := (L_le (t := t) (p := p) (q := c)).1
    rcases Nat.lt_or_ge t.length (p + s) with h | h
    · omega
    · obtain ⟨m, e⟩ := keyN_some h; rw [hk] at e; cases e
  | some n =>
    have hps : p + s ≤ t.length := by
      rcases Nat.lt_or_ge t.length (p + s) with h | h
      · rw [keyN_none h] at hk; cases hk
      · exact h
    dsimp only
    have key : ∀ c, c < p → s ≤ L t p c → c ∈ chainL t s n p := fun c hc h => chainL_mem.mpr ⟨hc, ((keyN_iff hb hc hps hs).mpr h).trans hk⟩
    cases hc : chainL t s n p with
    | nil =>
      refine .inl ⟨rfl, fun c hcp => ?_⟩
      rcases Nat.lt_or_ge (L t p c) s with h | h
      · exact h
      · have := key c hcp h; rw [hc] at this; cases this
    | cons o r =>
      have ho : o ∈ chainL t s n p := by rw [hc]; exact List.mem_cons_self
      rw [chainL_mem] at ho
      refine .inr ⟨o, rfl, ho.1, (keyN_iff hb ho.1 hps hs).mp (ho.2.trans hk.symm), fun c hcp hoc => ?_⟩
      rcases Nat.lt_or_ge (L t p c) s with h | h
      · exact h
      · have h1 := key c hcp h
        have h2 := chainL_desc (t := t) (s := s) (n := n) (i := p)
        rw [hc] at h1 h2
        rw [List.pairwise_cons] at h2
        rcases List.mem_cons.mp h1 with rfl | h1
        · omega
        · have := h2.1 c h1; omega
def LayJ (t : List Nat) (p w lim s m : Nat) : Prop := s ≤ m ∨ ∀ c ∈ cands p w, fv t p lim c ≤ m
theorem lay_step {s m : Nat} (hb : ∀ o ∈ t, o < 256) (hs : 0 < s) (hp : p < t.length) (J : LayJ t p w lim (s - 1) m) :
    (∀ o : Nat, newestI t s p = o → o < p → p - o ≤ w → m < fv t p lim o → recs t p lim m (cands p w) = (fv t p lim o, p - o) :: recs t p lim (fv t p lim o) (cands p w) ∧ LayJ t p w lim s (fv t p lim o)) ∧
    ((∀ o : Nat, newestI t s p = o → o < p → p - o ≤ w → fv t p lim o ≤ m) → LayJ t p w lim s m) := by
  constructor
  · intro o ho hop hw hm
    rcases newest_spec hb hs hp with ⟨h, _⟩ | ⟨o', h1, h2, h3, h4⟩
    · omega
    · have e : o' = o := by omega
      subst e
      constructor
      · refine recs_first cands_desc (cands_mem.mpr ⟨hop, hw⟩) hm fun c hc hoc => ?_
        rcases J with J | J
        · have := h4 c (cands_mem.mp hc).1 hoc
          unfold fv; omega
        · exact J c hc
      · rcases Nat.lt_or_ge lim s with h | h
        · refine .inr fun c _ => ?_
          unfold fv; omega
        · refine .inl ?_
          unfold fv; omega
  · intro hno
    rcases newest_spec hb hs hp with ⟨h, h1⟩ | ⟨o, h1, h2, h3, h4⟩
    · rcases J with J | J
      · rcases Nat.lt_or_ge m s with q | q
        · refine .inr fun c hc => ?_
          have := h1 c (cands_mem.mp hc).1
          unfold fv; omega
        · exact .inl q
      · exact .inr J
    · by_cases hw : p - o ≤ w
      · have h5 := hno o h1 h2 hw
        unfold fv at h5
        rcases Nat.lt_or_ge lim s with h | h
        · refine .inr fun c _ => ?_
          unfold fv; omega
        · exact .inl (by omega)
      · rcases J with J | J
        · rcases Nat.lt_or_ge m s with q | q
          · refine .inr fun c hc => ?_
            rw [cands_mem] at hc
            have := h4 c hc.1 (by omega)
            unfold fv; omega
          · exact .inl q
        · exact .inr J
def upl : Nat → List (Nat × Nat) → List (Nat × Nat)
  | _, [] => []
  | m, x :: r => if m < x.1 then x :: upl x.1 r else upl m r
theorem upl_recs : ∀ {l : List Nat} {v m : Nat}, v ≤ m → upl m (recs t p lim v l) = recs t p lim m l
  | [], v, m, h => by simp [recs, upl]
  | c :: l, v, m, h => by
    rw [recs, recs]
    by_cases h1 : v < fv t p lim c
    · rw [if_pos h1, upl]
      by_cases h2 : m < fv t p lim c
      · rw [if_pos h2, if_pos h2, upl_recs (Nat.le_refl _)]
      · rw [if_neg h2, if_neg h2, upl_recs (by omega)]
    · rw [if_neg h1, if_neg (by omega), upl_recs h]
theorem lay_end {m : Nat} (J : LayJ t p w lim 3 m) : upl m (recs t p lim 3 (cands p w)) = recs t p lim m (cands p w) := by
  rcases J with J | J
  · exact upl_recs J
  · by_cases h : 3 ≤ m
    · exact upl_recs h
    · rw [recs_nil (m := 3) fun c hc => by have := J c hc; omega, recs_nil (m := m) J]; rfl
end
section
variable {X : Cx} {k : Nat}
variable {σ : AHeap} {f C : Addr} {fs : List (Nat × V)} {t : List Nat} {least w ch ah p : Nat} {Q : V → AHeap → Prop}
theorem Fi.le {k' : Nat} {foot : Addr → Prop} {Inv : Nat → AHeap → Prop} (h : k ≤ k') (x : Fi X k t least w f foot Inv) : Fi X k' t least w f foot Inv where
  self := x.self
  mt := x.mt
  keep := x.keep
  live := x.live
  every := fun i σ m I hi => let ⟨C, fs, fn, a, b, c, d⟩ := x.every i σ m I hi; ⟨C, fs, fn, a, b, c, d.le h⟩
  put := fun i σ I hi => (x.put i σ I hi).le h
def layF (t : List Nat) (w ch ah : Nat) (r2 r3 tf : Addr) : List (Nat × V) := [(0, .bytes t), (4, .int (2 : Nat)), (5, .int w), (6, .int ch), (7, .int ah), (12, .list [.ref r2, .ref r3]), (13, .ref tf)]
theorem layF_mt {r2 r3 tf : Addr} (h : σ f = some (.inst C (layF t w ch ah r2 r3 tf))) : Mt σ f C (layF t w ch ah r2 r3 tf) t 2 w ch ah :=
  ⟨h, rfl, rfl, rfl, rfl, rfl, fun m hm => by
    unfold layF
    rw [lookup_miss (by simp; omega), lookup_miss (by simp; omega), lookup_miss (by simp; omega), lookup_miss (by simp; omega), lookup_miss (by simp; omega), lookup_miss (by simp; omega), lookup_miss (by simp; omega)]; rfl⟩
def Disj (A B : Addr → Prop) : Prop := ∀ a, A a → ¬ B a
structure LayI (t : List Nat) (w ch : Nat) (f r2 la2 be2 r3 la3 be3 tf : Addr) (tfoot : Addr → Prop) (TI : Nat → AHeap → Prop) (i : Nat) (σ : AHeap) : Prop where
  obj : σ f = some (.inst 307 (layF t w ch i r2 r3 tf))
  row2 : Row σ r2 t 2 la2 be2 i
  row3 : Row σ r3 t 3 la3 be3 i
  tree : TI i σ
  d23 : Disj (rowFt r2 la2 be2) (rowFt r3 la3 be3)
  d2t : Disj (rowFt r2 la2 be2) tfoot
  d3t : Disj (rowFt r3 la3 be3) tfoot
  df : ¬ rowFt r2 la2 be2 f ∧ ¬ rowFt r3 la3 be3 f ∧ ¬ tfoot f
def layFt (f r2 la2 be2 r3 la3 be3 : Addr) (tfoot : Addr → Prop) : Addr → Prop := fun a => a = f ∨ rowFt r2 la2 be2 a ∨ rowFt r3 la3 be3 a ∨ tfoot a
theorem Fram.keep {A B : Addr → Prop} {σ σ' : AHeap} (h : Fram A σ σ') (d : ∀ a, B a → ¬ A a) : ∀ a o, B a → σ a = some o → σ' a = some o := fun a o hb e => h a o (d a hb) e
theorem lay_put (F : Fns X) {r2 la2 be2 r3 la3 be3 tf : Addr} {tfoot : Addr → Prop} {TI : Nat → AHeap → Prop} {i : Nat} (Z : Fi X (k + 4) t 4 w tf tfoot TI) (hn : t.length ≤ 900)
    (I : LayI t w ch f r2 la2 be2 r3 la3 be3 tf tfoot TI i σ) (hi : i < t.length) :
    WC X (k + 6) (.ref 117) [.ref f, .int i] σ (fun v σ' => LayI t w ch f r2 la2 be2 r3 la3 be3 tf tfoot TI (i + 1) σ' ∧ Fram (layFt f r2 la2 be2 r3 la3 be3 tfoot) σ σ') := by
  refine mput_c F (C := 307) (fe := 297) rfl (layF_mt I.obj) (by simp [layF]) hi ?_ rfl
  show WC X (k + 5) (.ref 297) [.ref f, .int i] (upd σ f (.inst 307 (layF t w ch (i + 1) r2 r3 tf))) _
  have U : ∀ a o, a ≠ f → σ a = some o → (upd σ f (.inst 307 (layF t w ch (i + 1) r2 r3 tf))) a = some o := fun a o h e => by rw [upd_ne h]; exact e
  have R2 := I.row2.keep fun a o ha e => U a o (fun q => I.df.1 (q ▸ ha)) e
  have R3 := I.row3.keep fun a o ha e => U a o (fun q => I.df.2.1 (q ▸ ha)) e
  have TT := Z.keep _ _ _ I.tree fun a o ha e => U a o (fun q => I.df.2.2 (q ▸ ha)) e
  have hσf : (upd σ f (.inst 307 (layF t w ch (i + 1) r2 r3 tf))) f = some (.inst 307 (layF t w ch (i + 1) r2 r3 tf)) := upd_self
  have UF : Fram (fun a => a = f) σ (upd σ f (.inst 307 (layF t w ch (i + 1) r2 r3 tf))) := fun a o h e => U a o h e
  generalize upd σ f (.inst 307 (layF t w ch (i + 1) r2 r3 tf)) = σ1 at *
  refine wc_of F F.LayeredFinder_enter rfl ?_
  have h1 := R2.obj
  have hf' := hσf
  unfold layF at hf'
  unfold rowF at h1
  try simp only [wpSs, wpS, wpE, wpEs, wpI, attrP, asFrozen, methP, asgP, retQ, initR, List.getElem?_cons_zero, List.getElem?_cons_succ, List.set_cons_zero, List.set_cons_succ, List.cons_append, List.nil_append, List.replicate_succ, List.replicate_zero, Nat.reduceSub, Option.some.injEq, exists_eq_left', ne_eq, reduceCtorEq, not_false_eq_true, true_and, Nat.reduceBEq, List.lookup_nil, lookup_hit, lookup_miss, f_LayeredFinder_enter, f_LayeredFinder_enter_b, hf', forP, f_LayeredFinder_enter_b1, h1]
  refine ⟨82, rfl, ?_⟩
  refine ((put_r (k := k + 2) F R2 hi hn).mono fun v σ2 ⟨g1, g2⟩ => ?_)
  have R3' := R3.keep (g2.keep fun a h h' => I.d23 a h' h)
  have TT' := Z.keep _ _ _ TT (g2.keep fun a h h' => I.d2t a h' h)
  have hf2 := g2 _ _ I.df.1 hσf
  have h3 := R3'.obj
  unfold rowF at h3
  try simp only [true_and, Nat.reduceBEq, List.lookup_nil, lookup_miss, h3]
  refine ⟨82, rfl, ?_⟩
  refine ((put_r (k := k + 2) F R3' hi hn).mono fun v σ3 ⟨g3, g4⟩ => ?_)
  have R2' := g1.keep (g4.keep fun a h h' => I.d23 a h h')
  have TT'' := Z.keep _ _ _ TT' (g4.keep fun a h h' => I.d3t a h' h)
  have hf3 := g4 _ _ I.df.2.1 hf2
  obtain ⟨CT, fsT, chT, isT, MT⟩ := Z.mt _ _ TT''
  have hf3' := hf3
  unfold layF at hf3'
  try simp only [Option.some.injEq, exists_eq_left', reduceCtorEq, not_false_eq_true, true_and, Nat.reduceBEq, lookup_hit, lookup_miss, hf3', MT.obj, MT.nom 15 (by decide)]
  refine ⟨117, isT.m15, ?_⟩
  refine (Z.put _ _ TT'' hi).mono fun v σ4 ⟨g5, g6⟩ => ?_
  refine ⟨⟨g6 _ _ I.df.2.2 hf3, R2'.keep (g6.keep fun a h h' => I.d2t a h h'), g3.keep (g6.keep fun a h h' => I.d3t a h h'), g5, I.d23, I.d2t, I.d3t, I.df⟩, fun a o ha e => ?_⟩
  exact g6 a o (fun h => ha (.inr (.inr (.inr h)))) (g4 a o (fun h => ha (.inr (.inr (.inl h)))) (g2 a o (fun h => ha (.inr (.inl h))) (UF a o (fun h => ha (.inl h)) e)))
theorem lay_row (F : Fns X) {r la be : Addr} {s m lim : Nat} {a : Addr} {acc : List V} {mo z1 z2 z3 : V} {R : Fl → List V → AHeap → Prop} (hb : ∀ o ∈ t, o < 256) (hs : 0 < s) (hn : t.length ≤ 900) (hp : p < t.length) (hl : lim ≤ t.length - p) (hC : isF C) (M0 : Mt σ f C fs t least w ch p) (Rw : Row σ r t s la be p) (ha : σ a = none) (hacc : acc.length ≤ 10)
    (J : LayJ t p w lim (s - 1) m)
    (hR : ∀ acc' m' z1 z2, acc' ++ (recs t p lim m' (cands p w)).map pairN = acc ++ (recs t p lim m (cands p w)).map pairN → LayJ t p w lim s m' → acc'.length ≤ acc.length + 1 → R .next [.ref f, .int p, mo, .int lim, .ref a, .int (m' : Nat), .ref r, z1, z2, z3] (upd σ a (.list acc'))) :
    wpSs X (k + 2) f_LayeredFinder_every_b1 [.ref f, .int p, mo, .int lim, .ref a, .int m, .ref r, z1, z2, z3] (upd σ a (.list acc)) R := by
  have E : Ext σ (upd σ a (.list acc)) := .upd ha
  have M := M0.mono (σ' := upd σ a (.list acc)) fun o h => E _ _ h
  have Rw' := Rw.keep (σ' := upd σ a (.list acc)) fun b o _ h => E _ _ h
  have o1 := Rw'.obj
  unfold rowF at o1
  try simp only [wpSs, wpS, wpE, wpEs, truthP, cmpP, copI, binP, binI, asList, methP, asgP, appendP, List.getElem?_cons_zero, List.getElem?_cons_succ, List.set_cons_zero, List.set_cons_succ, Nat.reduceAdd, Option.some.injEq, exists_eq_left', ne_eq, reduceCtorEq, not_false_eq_true, true_and, Nat.reduceBEq, List.lookup_nil, lookup_miss, Nat.reduceLeDiff, List.length_cons, List.length_nil, decide_eq_true_eq, f_LayeredFinder_every_b1, o1]
  refine ⟨89, rfl, ?_⟩
  refine newest_r F Rw' (by omega) ?_
  try simp only [reduceCtorEq, not_false_eq_true, true_and, M.obj, M.nom 21 (by decide)]
  refine ⟨159, hC.m21, ?_⟩
  refine near_c F M ?_
  obtain ⟨st1, st2⟩ := lay_step (w := w) (lim := lim) hb hs hp J
  rcases newest_spec hb hs hp with ⟨h1, h2⟩ | ⟨o, h1, h2, h3, h4⟩
  · rw [h1]
    refine neg (by simp) ?_
    exact hR _ _ _ _ rfl (st2 fun o ho => by rw [h1] at ho; omega) (by omega)
  · rw [h1]
    by_cases hw : p - o ≤ w
    · refine pos (by simp; omega) ?_
      try simp only [true_and, M.obj, M.nom 20 (by decide)]
      refine ⟨152, hC.m20, ?_⟩
      refine alike_c (kn := 0) F M h2 hl (by omega) (by omega) ?_
      try simp only [reduceCtorEq, not_false_eq_true, true_and, Option.isSome_some, upd_self]
      by_cases h5 : m < min (L t p o) lim
      · refine pos (by omega) ?_
        refine ⟨by omega, ?_⟩
        rw [upd_upd]
        have e6 : (p : Int) - (o : Int) = ((p - o : Nat) : Int) := by omega
        rw [e6]
        obtain ⟨g1, g2⟩ := st1 o h1 h2 hw (by unfold fv; exact h5)
        refine hR _ _ _ _ ?_ g2 (by simp)
        rw [g1]
        simp [pairN, fv]
      · refine neg (by omega) ?_
        exact hR _ _ _ _ rfl (st2 fun o' ho' _ _ => by rw [h1] at ho'; have : o = o' := by omega
                                                       subst this; unfold fv; omega) (by omega)
    · refine neg (by simp; omega) ?_
      exact hR _ _ _ _ rfl (st2 fun o' ho' _ hw' => by rw [h1] at ho'; have : o = o' := by omega
                                                       subst this; omega) (by omega)
theorem lay_loop {a : Addr} {p lim : V} {R : Fl → List V → AHeap → Prop} {s mo z1 z2 : V} : ∀ (ys : List (Nat × Nat)) (acc : List V) (m : Nat) (z3 z4 : V), acc.length + ys.length ≤ 950 →
    (∀ z3 z4 m', R .next [s, p, mo, lim, .ref a, m', z1, z2, z3, z4] (upd σ a (.list (acc ++ (upl m ys).map pairN)))) →
    forP (Tg.tup [8, 9]) (fun ρ σ Q => wpSs X k f_LayeredFinder_every_b2 ρ σ Q) R (ys.map pairN) [s, p, mo, lim, .ref a, .int m, z1, z2, z3, z4] (upd σ a (.list acc))
  | [], acc, m, z3, z4, _, h => by simpa [forP, upl] using h _ _ _
  | y :: ys, acc, m, z3, z4, hlen, h => by
    simp only [List.map_cons, forP]
    have IH := fun (acc : List V) (m : Nat) z3 z4 => lay_loop (R := R) (a := a) (p := p) (lim := lim) (s := s) (mo := mo) (z1 := z1) (z2 := z2) ys acc m z3 z4
    generalize hK : forP _ _ R (ys.map _) = K at IH
    unfold pairN
    try simp only [wpSs, wpS, wpE, wpEs, truthP, cmpP, copI, asList, asgP, setAll, appendP, List.getElem?_cons_zero, List.getElem?_cons_succ, List.set_cons_zero, List.set_cons_succ, Nat.reduceAdd, Option.some.injEq, exists_eq_left', ne_eq, reduceCtorEq, not_false_eq_true, true_and, Option.isSome_some, Nat.reduceLeDiff, List.length_cons, List.length_nil, decide_eq_true_eq, f_LayeredFinder_every_b2, upd_self]
    simp only [List.length_cons] at hlen
    rw [upl] at h
    by_cases h1 : m < y.1
    · refine pos (by omega) ?_
      refine ⟨by omega, ?_⟩
      rw [upd_upd]
      rw [if_pos h1] at h
      refine IH _ _ _ _ (by simp; omega) fun z3 z4 m' => ?_
      have := h z3 z4 m'
      simpa [pairN] using this
    · refine neg (by omega) ?_
      rw [if_neg h1] at h
      exact IH _ _ _ _ (by omega) h
theorem lay_every (F : Fns X) {r2 la2 be2 r3 la3 be3 tf : Addr} {tfoot : Addr → Prop} {TI : Nat → AHeap → Prop} {i m : Nat} (Z : Fi X (k + 4) t 4 w tf tfoot TI) (hb : ∀ o ∈ t, o < 256) (hn : t.length ≤ 900)
    (I : LayI t w ch f r2 la2 be2 r3 la3 be3 tf tfoot TI i σ) (hi : i < t.length) :
    WC X (k + 5) (.ref 304) [.ref f, .int i, .int m] σ (fun v σ' => v = .list ((recs t i (min m (t.length - i)) 1 (cands i w)).map pairN) ∧ Ext σ σ') := by
  have M := layF_mt I.obj
  refine wc_of F F.LayeredFinder_every rfl ?_
  have hf' := I.obj
  unfold layF at hf'
  try simp only [wpSs, wpS, wpE, wpEs, wpI, binP, binI, attrP, asFrozen, methP, asgP, setAll, retQ, initR, frzP, mkList, List.getElem?_cons_zero, List.getElem?_cons_succ, List.set_cons_zero, List.set_cons_succ, List.cons_append, List.nil_append, List.replicate_succ, List.replicate_zero, Nat.reduceSub, Nat.reduceAdd, Option.some.injEq, exists_eq_left', ne_eq, reduceCtorEq, not_false_eq_true, true_and, if_true, Nat.reduceLeDiff, List.length_cons, List.length_nil, f_LayeredFinder_every, f_LayeredFinder_every_b, M.obj, M.nom 18 (by decide)]
  refine ⟨138, rfl, ?_⟩
  refine limit_c F M (by omega) ?_
  try simp only [wpSs, wpS, wpE, wpEs, wpI, truthP, cmpP, copI, binP, binI, attrP, lenP, asItems, asList, asFrozen, methP, asgP, setAll, setattrP, putF, retQ, initR, idxP, lastP, bndP, sliceP, revP, dgetP, isDict, range1P, range2P, range3P, appendP, frzP, V.isNone, mkList, List.getElem?_cons_zero, List.getElem?_cons_succ, List.set_cons_zero, List.set_cons_succ, List.set_nil, List.cons_append, List.nil_append, List.replicate_succ, List.replicate_zero, Nat.reduceSub, Nat.reduceAdd, Option.some.injEq, exists_eq_left', ne_eq, reduceCtorEq, not_false_eq_true, true_and, and_true, if_true, if_false, Bool.true_eq_false, Bool.false_eq_true, Option.isSome_some, Nat.reduceBEq, List.lookup_nil, lookup_hit, lookup_miss, bne_self_eq_false, Bool.not_true, Bool.not_false, decide_true, decide_false, ite_true, ite_false, reduceIte, Nat.reduceEqDiff, Nat.reduceLT, Nat.reduceLeDiff, List.length_cons, List.length_nil, decide_eq_true_eq, Bool.not_eq_true', decide_eq_false_iff_not, Int.toNat_natCast, List.length_map, Bool.and_eq_true, Bool.or_eq_true, Bool.not_eq_eq_eq_not, Bool.not_eq_true, Bool.not_eq_false]
  refine fun a ha => ?_
  have E : ∀ acc, Ext σ (upd σ a (.list acc)) := fun _ => .upd ha
  have g12 : (layF t w ch i r2 r3 tf).lookup 12 = some (.list [.ref r2, .ref r3]) := rfl
  have g13 : (layF t w ch i r2 r3 tf).lookup 13 = some (.ref tf) := rfl
  try simp only [asgP, List.set_cons_zero, List.set_cons_succ, Option.some.injEq, exists_eq_left', reduceCtorEq, not_false_eq_true, true_and, E _ _ _ I.obj, M.f4, g12, forP]
  rw [show ((2 : Nat) : Int) - 1 = ((1 : Nat) : Int) by omega]
  refine lay_row (k := k + 2) (s := 2) F hb (by omega) hn hi (by omega) (.inr (.inr rfl)) M I.row2 ha (by simp) (.inl (by omega)) fun acc2 m2 z1 z2 e2 J2 l2 => ?_
  try simp only [List.set_cons_zero, List.set_cons_succ]
  refine lay_row (k := k + 2) (s := 3) F hb (by omega) hn hi (by omega) (.inr (.inr rfl)) M I.row3 ha (by simp at l2; omega) J2 fun acc3 m3 z1 z2 e3 J3 l3 => ?_
  have TT : TI i (upd σ a (.list acc3)) := Z.keep _ _ _ I.tree fun b o _ h => E _ _ _ h
  obtain ⟨CT, fsT, fn, t1, t2, t3, t4⟩ := Z.every i _ m TT hi
  try simp only [List.getElem?_cons_zero, List.getElem?_cons_succ, Option.some.injEq, exists_eq_left', reduceCtorEq, not_false_eq_true, true_and, E _ _ _ I.obj, g13, t1, t2]
  refine ⟨fn, t3, ?_⟩
  refine t4.mono fun v σ' ⟨ev, ex⟩ => ?_
  subst ev
  have ha' : σ' a = some (.list acc3) := ex _ _ upd_self
  have es : σ' = upd (del σ' a) a (.list acc3) := by
    funext b; unfold upd del; split
    · rename_i e; rw [e, ha']
    · rfl
  have hd : (del σ' a) a = none := del_self
  rw [es]
  try simp only [Nat.reduceSub]
  have hlen : (recs t i (min m (t.length - i)) 3 (cands i w)).length ≤ 900 := by
    have : ∀ (l : List Nat) (v : Nat), (recs t i (min m (t.length - i)) v l).length ≤ l.length := by
      intro l
      induction l with
      | nil => intro v; simp [recs]
      | cons c l ih => intro v; rw [recs]; split <;> simp <;> have := ih v <;> have := ih (fv t i (min m (t.length - i)) c) <;> omega
    have := this (cands i w) 3
    unfold cands at this ⊢
    simp at this ⊢
    omega
  simp at l2
  refine lay_loop (recs t i (min m (t.length - i)) 3 (cands i w)) acc3 m3 _ _ (by omega) fun z3 z4 m' => ?_
  try simp only [List.getElem?_cons_zero, List.getElem?_cons_succ, Option.some.injEq, exists_eq_left', reduceCtorEq, not_false_eq_true, true_and, upd_self]
  rw [lay_end J3, e3, e2, del_upd hd]
  refine ⟨rfl, fun b o hbo => ?_⟩
  have hne : b ≠ a := fun e => by rw [e, ha] at hbo; cases hbo
  rw [del_ne hne]
  exact ex _ _ (E _ _ _ hbo)
theorem lay_ok (F : Fns X) {r2 la2 be2 r3 la3 be3 tf : Addr} {tfoot : Addr → Prop} {TI : Nat → AHeap → Prop} (Z : Fi X (k + 4) t 4 w tf tfoot TI) (hb : ∀ o ∈ t, o < 256) (hn : t.length ≤ 900) :
    Fi X (k + 6) t 2 w f (layFt f r2 la2 be2 r3 la3 be3 tfoot) (LayI t w ch f r2 la2 be2 r3 la3 be3 tf tfoot TI) where
  self := .inl rfl
  mt := fun i σ I => ⟨307, _, ch, .inr (.inr rfl), layF_mt I.obj⟩
  keep := fun i σ σ' I h => ⟨h _ _ (.inl rfl) I.obj, I.row2.keep fun a o ha e => h a o (.inr (.inl ha)) e, I.row3.keep fun a o ha e => h a o (.inr (.inr (.inl ha))) e, Z.keep _ _ _ I.tree fun a o ha e => h a o (.inr (.inr (.inr ha))) e, I.d23, I.d2t, I.d3t, I.df⟩
  live := fun i σ I a ha e => by
    rcases ha with rfl | ha | ha | ha
    · rw [I.obj] at e; cases e
    · exact I.row2.live a ha e
    · exact I.row3.live a ha e
    · exact Z.live _ _ I.tree a ha e
  every := fun i σ m I hi => ⟨307, _, 304, I.obj, rfl, rfl, (lay_every (k := k) F Z hb hn I hi).le (by omega)⟩
  put := fun i σ I hi => lay_put F Z hn I hi
end
end Mine
end

section
open PySem PySem.Calls PyProof.Rows PySem.W
set_option maxRecDepth 20000
namespace Mine
section
variable {X : Cx} {k : Nat}
variable {σ : AHeap} {f C : Addr} {fs : List (Nat × V)} {t : List Nat} {least w ch ah p : Nat} {Q : V → AHeap → Prop}
theorem upd_none {σ : AHeap} {a b : Addr} {o : AObj} (h : upd σ a o b = none) : b ≠ a ∧ σ b = none := by
  by_cases e : b = a
  · subst e; rw [upd_self] at h; cases h
  · rw [upd_ne e] at h; exact ⟨e, h⟩
theorem row_new (F : Fns X) {s : Nat} (hs : 0 < s) (hn : t.length ≤ 900) :
    WC X (k + 2) (.ref 92) [.bytes t, .int s] σ (fun v σ' => ∃ r la be, v = .ref r ∧ Row σ' r t s la be 0 ∧ Ext σ σ' ∧ ∀ a, rowFt r la be a → σ a = none) := by
  refine cls_entry F.base (C := 92) (fI := 68) (by decide) rfl fun x dx hx hd hne => ?_
  refine wcc_of F F.PlaceRow_init rfl ?_
  try simp only [wpSs, wpS, wpE, truthP, cmpP, copI, lenP, asItems, asList, setattrP, retQ, initR, mkList, List.getElem?_cons_zero, List.getElem?_cons_succ, List.cons_append, List.nil_append, List.replicate_zero, Nat.reduceSub, Option.some.injEq, exists_eq_left', ne_eq, reduceCtorEq, not_false_eq_true, true_and, if_true, Nat.reduceLT, decide_eq_true_eq, Int.toNat_natCast, List.length_map, f_PlaceRow_init, f_PlaceRow_init_b]
  refine neg (by omega) ?_
  try simp only [putF, Nat.reduceAdd, reduceCtorEq, true_and, if_false, Nat.reduceLT, List.length_cons, List.length_nil, upd_self, upd_upd]
  intro la hla
  obtain ⟨l1, hla⟩ := upd_none hla
  obtain ⟨l2, hla⟩ := upd_none hla
  try simp only [putF, Nat.reduceAdd, reduceCtorEq, true_and, if_false, Nat.reduceEqDiff, Nat.reduceLT, List.length_cons, List.length_nil, upd_ne l1.symm, upd_self]
  refine ⟨by omega, by simp; omega, fun be hbe => ?_⟩
  obtain ⟨b1, hbe⟩ := upd_none hbe
  obtain ⟨b2, hbe⟩ := upd_none hbe
  obtain ⟨b3, hbe⟩ := upd_none hbe
  obtain ⟨b4, hbe⟩ := upd_none hbe
  try simp only [putF, Nat.reduceAdd, reduceCtorEq, true_and, if_false, Nat.reduceEqDiff, Nat.reduceLT, List.length_cons, List.length_nil, upd_ne b1.symm, upd_self]
  refine ⟨x, la, be, rfl, ⟨upd_self, ⟨0, fun _ => none, ?_, by omega, fun n v h => by simp at h, fun n => by simp [chainL, headI]⟩, ⟨List.replicate t.length (.int (-1)), ?_, by simp, fun q h => by omega⟩⟩, fun a o h => ?_, fun a ha => ?_⟩
  · rw [upd_ne l1, upd_ne b2.symm, upd_ne l1, upd_self]
  · rw [upd_ne b1, upd_self]
  · have n1 : a ≠ x := fun e => by rw [e, hx] at h; cases h
    have n2 : a ≠ dx := fun e => by rw [e, hd] at h; cases h
    have n3 : a ≠ la := fun e => by rw [e, hla] at h; cases h
    have n4 : a ≠ be := fun e => by rw [e, hbe] at h; cases h
    simp only [upd_ne n1, upd_ne n2, upd_ne n3, upd_ne n4]
    exact h
  · rcases ha with rfl | rfl | rfl <;> assumption
theorem minit_c (F : Fns X) (hl : 0 < least) (hw : 0 < w) (hc : 0 < ch) (hf : σ f = some (.inst C [])) (hQ : Q .none (upd σ f (.inst C [(0, .bytes t), (4, .int least), (5, .int w), (6, .int ch), (7, .int (0 : Nat))]))) :
    WC X (k + 1) (.ref 110) [.ref f, .bytes t, .int least, .int w, .int ch] σ Q := by
  refine wc_of F F.Matcher_init rfl ?_
  try simp only [wpSs, wpS, wpE, truthP, cmpP, copI, setattrP, retQ, initR, List.getElem?_cons_zero, List.getElem?_cons_succ, List.cons_append, List.nil_append, List.replicate_zero, Nat.reduceSub, Option.some.injEq, exists_eq_left', ne_eq, reduceCtorEq, not_false_eq_true, true_and, Nat.reduceLT, decide_eq_true_eq, f_Matcher_init, f_Matcher_init_b]
  refine neg (by omega) ?_
  try simp only [wpSs, wpS, wpE, wpEs, wpI, truthP, cmpP, copI, binP, binI, attrP, lenP, asItems, asList, asFrozen, methP, asgP, setAll, setattrP, putF, retQ, initR, idxP, lastP, bndP, sliceP, revP, dgetP, isDict, range1P, range2P, range3P, appendP, frzP, V.isNone, mkList, List.getElem?_cons_zero, List.getElem?_cons_succ, List.set_cons_zero, List.set_cons_succ, List.set_nil, List.cons_append, List.nil_append, List.replicate_succ, List.replicate_zero, Nat.reduceSub, Nat.reduceAdd, Option.some.injEq, exists_eq_left', ne_eq, reduceCtorEq, not_false_eq_true, true_and, and_true, if_true, if_false, Bool.true_eq_false, Bool.false_eq_true, Option.isSome_some, Nat.reduceBEq, List.lookup_nil, lookup_hit, lookup_miss, bne_self_eq_false, Bool.not_true, Bool.not_false, decide_true, decide_false, ite_true, ite_false, reduceIte, Nat.reduceEqDiff, Nat.reduceLT, Nat.reduceLeDiff, List.length_cons, List.length_nil, decide_eq_true_eq, Bool.not_eq_true', decide_eq_false_iff_not, Int.toNat_natCast, List.length_map, Bool.and_eq_true, Bool.or_eq_true, Bool.not_eq_eq_eq_not, Bool.not_eq_true, Bool.not_eq_false]
  refine neg (by omega) ?_
  try simp only [wpSs, wpS, wpE, wpEs, wpI, truthP, cmpP, copI, binP, binI, attrP, lenP, asItems, asList, asFrozen, methP, asgP, setAll, setattrP, putF, retQ, initR, idxP, lastP, bndP, sliceP, revP, dgetP, isDict, range1P, range2P, range3P, appendP, frzP, V.isNone, mkList, List.getElem?_cons_zero, List.getElem?_cons_succ, List.set_cons_zero, List.set_cons_succ, List.set_nil, List.cons_append, List.nil_append, List.replicate_succ, List.replicate_zero, Nat.reduceSub, Nat.reduceAdd, Option.some.injEq, exists_eq_left', ne_eq, reduceCtorEq, not_false_eq_true, true_and, and_true, if_true, if_false, Bool.true_eq_false, Bool.false_eq_true, Option.isSome_some, Nat.reduceBEq, List.lookup_nil, lookup_hit, lookup_miss, bne_self_eq_false, Bool.not_true, Bool.not_false, decide_true, decide_false, ite_true, ite_false, reduceIte, Nat.reduceEqDiff, Nat.reduceLT, Nat.reduceLeDiff, List.length_cons, List.length_nil, decide_eq_true_eq, Bool.not_eq_true', decide_eq_false_iff_not, Int.toNat_natCast, List.length_map, Bool.and_eq_true, Bool.or_eq_true, Bool.not_eq_eq_eq_not, Bool.not_eq_true, Bool.not_eq_false]
  refine neg (by omega) ?_
  try simp only [putF, Nat.reduceAdd, reduceCtorEq, true_and, if_false, Nat.reduceEqDiff, Nat.reduceLT, List.length_cons, List.length_nil, bytesP, hf, upd_self, upd_upd]
  exact hQ
theorem fin_new (F : Fns X) (hl : 0 < least) (hw : 0 < w) (hc : 0 < ch) (hn : t.length ≤ 900) :
    WC X (k + 4) (.ref 226) [.bytes t, .int least, .int w, .int ch] σ (fun v σ' => ∃ f r la be, v = .ref f ∧ FinI t least w ch f r la be 0 σ' ∧ Ext σ σ' ∧ ∀ a, finFt f r la be a → σ a = none) := by
  refine cls_entry F.base (C := 226) (fI := 202) (by decide) rfl fun x dx hx hd hne => ?_
  refine wcc_of F F.Finder_init rfl ?_
  try simp only [wpSs, wpS, wpE, wpEs, attrP, setattrP, retQ, initR, List.getElem?_cons_zero, List.getElem?_cons_succ, List.cons_append, List.nil_append, List.replicate_zero, Nat.reduceSub, Option.some.injEq, exists_eq_left', ne_eq, reduceCtorEq, not_false_eq_true, true_and, Nat.reduceLT, f_Finder_init, f_Finder_init_b]
  refine ⟨110, rfl, ?_⟩
  refine minit_c F hl hw hc upd_self ?_
  rw [upd_upd]
  try simp only [Option.some.injEq, exists_eq_left', reduceCtorEq, not_false_eq_true, true_and, lookup_hit, upd_self]
  refine (row_new (k := k) F hl hn).mono fun v σ' ⟨r, la, be, ev, hR, hE, hfr⟩ => ?_
  subst ev
  have hx' := hE _ _ upd_self
  try simp only [putF, Nat.reduceAdd, reduceCtorEq, true_and, if_false, Nat.reduceEqDiff, Nat.reduceLT, List.length_cons, List.length_nil, hx']
  have nfr : ∀ a, rowFt r la be a → a ≠ x ∧ σ a = none := fun a ha => by
    obtain ⟨h1, h2⟩ := upd_none (hfr a ha)
    exact ⟨h1, (upd_none h2).2⟩
  refine ⟨x, r, la, be, rfl, ⟨upd_self, hR.keep fun a o ha e => by rw [upd_ne (nfr a ha).1]; exact e⟩, fun a o h => ?_, fun a ha => ?_⟩
  · have n1 : a ≠ x := fun e => by rw [e, hx] at h; cases h
    have n2 : a ≠ dx := fun e => by rw [e, hd] at h; cases h
    rw [upd_ne n1]
    exact hE _ _ (by rw [upd_ne n1, upd_ne n2]; exact h)
  · rcases ha with rfl | ha
    · exact hx
    · exact (nfr a ha).2
theorem tre_new (F : Fns X) (hl : 0 < least) (hw : 0 < w) (hc : 0 < ch) (hn : t.length ≤ 900) :
    WC X (k + 4) (.ref 274) [.bytes t, .int least, .int w, .int ch] σ (fun v σ' => ∃ f r ro sa ga, v = .ref f ∧ TreI t least w ch f r ro sa ga 0 σ' ∧ Ext σ σ' ∧ ∀ a, treFt f r ro sa ga a → σ a = none) := by
  refine cls_entry F.base (C := 274) (fI := 243) (by decide) rfl fun x dx hx hd hne => ?_
  refine wcc_of F F.TreeFinder_init rfl ?_
  try simp only [wpSs, wpS, wpE, wpEs, attrP, lenP, asItems, asList, setattrP, retQ, initR, mkList, List.getElem?_cons_zero, List.getElem?_cons_succ, List.cons_append, List.nil_append, List.replicate_zero, Nat.reduceSub, Option.some.injEq, exists_eq_left', ne_eq, reduceCtorEq, not_false_eq_true, true_and, if_true, Nat.reduceLT, Int.toNat_natCast, f_TreeFinder_init, f_TreeFinder_init_b]
  refine ⟨110, rfl, ?_⟩
  refine minit_c F hl hw hc upd_self ?_
  rw [upd_upd]
  try simp only [Option.some.injEq, exists_eq_left', reduceCtorEq, not_false_eq_true, true_and, lookup_hit, upd_self]
  refine (row_new (k := k) F hl hn).mono fun v σ' ⟨r, la, be, ev, hR, hE, hfr⟩ => ?_
  subst ev
  have hx' := hE _ _ upd_self
  have hro := hR.obj
  have nr := upd_none (hfr r (.inl rfl))
  have nr2 := (upd_none nr.2).2
  have hE2 : ∀ a o, a ≠ x → a ≠ dx → σ a = some o → σ' a = some o := fun a o n1 n2 h => hE _ _ (by rw [upd_ne n1, upd_ne n2]; exact h)
  have hdx : σ' dx = some (.sub x) := hE _ _ (by rw [upd_ne hne.symm, upd_self])
  have fresh : ∀ a, σ' a = none → a ≠ x ∧ a ≠ dx ∧ a ≠ r ∧ σ a = none := fun a h => by
    have n1 : a ≠ x := fun e => by rw [e, hx'] at h; cases h
    have n2 : a ≠ dx := fun e => by rw [e, hdx] at h; cases h
    refine ⟨n1, n2, (fun e => by rw [e, hro] at h; cases h), ?_⟩
    cases q : σ a with
    | none => rfl
    | some o => rw [hE2 a o n1 n2 q] at h; cases h
  clear hE hfr
  try simp only [putF, Nat.reduceAdd, reduceCtorEq, true_and, if_false, Nat.reduceEqDiff, Nat.reduceLT, List.length_cons, List.length_nil, hx']
  intro ro hr1
  obtain ⟨c1, hr1⟩ := upd_none hr1
  try simp only [putF, Nat.reduceAdd, Option.some.injEq, exists_eq_left', reduceCtorEq, not_false_eq_true, true_and, if_false, lookup_hit, Nat.reduceEqDiff, Nat.reduceLT, List.length_cons, List.length_nil, List.length_map, upd_ne c1.symm, upd_self]
  refine ⟨by omega, by simp; omega, fun sa hs1 => ?_⟩
  obtain ⟨s1, hs1⟩ := upd_none hs1
  obtain ⟨s2, hs1⟩ := upd_none hs1
  obtain ⟨s3, hs1⟩ := upd_none hs1
  try simp only [putF, Nat.reduceAdd, Option.some.injEq, exists_eq_left', reduceCtorEq, not_false_eq_true, true_and, if_false, lookup_hit, Nat.reduceEqDiff, Nat.reduceLT, List.length_cons, List.length_nil, List.length_map, upd_ne s1.symm, upd_self]
  refine ⟨by omega, by simp; omega, fun ga hg1 => ?_⟩
  obtain ⟨g1, hg1⟩ := upd_none hg1
  obtain ⟨g2, hg1⟩ := upd_none hg1
  obtain ⟨g3, hg1⟩ := upd_none hg1
  obtain ⟨g4, hg1⟩ := upd_none hg1
  obtain ⟨g5, hg1⟩ := upd_none hg1
  try simp only [putF, Nat.reduceAdd, reduceCtorEq, true_and, if_false, Nat.reduceEqDiff, Nat.reduceLT, List.length_cons, List.length_nil, upd_ne g1.symm, upd_self]
  obtain ⟨p1, p2, p3, p4⟩ := fresh ro hr1
  obtain ⟨q1, q2, q3, q4⟩ := fresh sa hs1
  obtain ⟨m1, m2, m3, m4⟩ := fresh ga hg1
  refine ⟨x, r, ro, sa, ga, rfl, ⟨upd_self, ⟨la, be, ?_⟩, g2.symm, ⟨0, fun _ => none, fun _ => List.replicate t.length (.int (-1)), fun _ => -1, fun _ => .nil, ?_, by omega, ?_, ?_, by simp, fun n => rfl, fun n => ⟨rfl, trivial, fun x h => h.elim, fun q h => by omega⟩⟩⟩, fun a o h => ?_, fun a ha => ?_⟩
  · simp only [upd_ne nr.1, upd_ne m3.symm, upd_ne q3.symm, upd_ne p3.symm]
    exact hro
  · simp only [upd_ne c1, upd_ne g4.symm, upd_ne s2.symm, upd_self]
  · simp only [upd_ne s1, upd_ne g2.symm, upd_self]
  · simp only [upd_ne g1, upd_self]
  · have n1 : a ≠ x := fun e => by rw [e, hx] at h; cases h
    have n2 : a ≠ dx := fun e => by rw [e, hd] at h; cases h
    have n3 : a ≠ ro := fun e => by rw [e, p4] at h; cases h
    have n4 : a ≠ sa := fun e => by rw [e, q4] at h; cases h
    have n5 : a ≠ ga := fun e => by rw [e, m4] at h; cases h
    simp only [upd_ne n1, upd_ne n3, upd_ne n4, upd_ne n5]
    exact hE2 a o n1 n2 h
  · rcases ha with rfl | rfl | rfl | rfl | rfl <;> assumption
theorem lay_new (F : Fns X) (hb : ∀ o ∈ t, o < 256) (hw : 0 < w) (hc : t.length < ch) (hn : t.length ≤ 900) :
    WC X (k + 6) (.ref 307) [.bytes t, .int w, .int ch] σ (fun v σ' => ∃ f foot Inv, v = .ref f ∧ Fi X (k + 6) t 2 w f foot Inv ∧ Inv 0 σ' ∧ Ext σ σ' ∧ ∀ a, foot a → σ a = none) := by
  refine cls_entry F.base (C := 307) (fI := 290) (by decide) rfl fun x dx hx hd hne => ?_
  refine wcc_of F F.LayeredFinder_init rfl ?_
  try simp only [wpSs, wpS, wpE, wpEs, wpI, truthP, attrP, asItems, asFrozen, asgP, setattrP, retQ, initR, idxP, mkList, List.getElem?_cons_zero, List.getElem?_cons_succ, List.cons_append, List.nil_append, List.replicate_succ, List.replicate_zero, Nat.reduceSub, Option.some.injEq, exists_eq_left', ne_eq, reduceCtorEq, not_false_eq_true, true_and, if_true, if_false, Bool.false_eq_true, List.lookup_nil, Nat.reduceLT, f_LayeredFinder_init, f_LayeredFinder_init_b, wpG, cattrP, upd_self]
  refine ⟨110, rfl, by omega, ?_⟩
  refine ⟨_, rfl, ?_⟩
  refine minit_c (least := 2) F (by omega) hw (by omega) upd_self ?_
  rw [upd_upd]
  try simp only [List.getElem?_cons_zero, List.getElem?_cons_succ, List.set_cons_zero, List.set_cons_succ, List.cons_append, List.nil_append, Nat.reduceAdd, Option.some.injEq, exists_eq_left', reduceCtorEq, not_false_eq_true, true_and, Nat.reduceBEq, List.lookup_nil, lookup_hit, lookup_miss, Nat.reduceLT, Nat.reduceLeDiff, List.length_cons, List.length_nil, upd_self, Option.getD_some, clr, Gs.slots, Tg.slots, List.append_nil, List.foldl_cons, List.foldl_nil, List.foldr_cons, List.foldr_nil]
  have hst : Ext σ (upd (upd σ dx (AObj.sub x)) x (.inst 307 [(0, .bytes t), (4, .int (2 : Nat)), (5, .int w), (6, .int ch), (7, .int (0 : Nat))])) := (Ext.upd hd).trans (Ext.upd (by rw [upd_ne hne]; exact hx))
  have hf0 : (upd (upd σ dx (AObj.sub x)) x (.inst 307 [(0, .bytes t), (4, .int (2 : Nat)), (5, .int w), (6, .int ch), (7, .int (0 : Nat))])) x = some (.inst 307 [(0, .bytes t), (4, .int (2 : Nat)), (5, .int w), (6, .int ch), (7, .int (0 : Nat))]) := upd_self
  generalize upd (upd σ dx (AObj.sub x)) x (.inst 307 [(0, .bytes t), (4, .int (2 : Nat)), (5, .int w), (6, .int ch), (7, .int (0 : Nat))]) = σ0 at *
  refine (row_new (k := k + 2) (s := 2) F (by omega) hn).mono fun v σ1 ⟨r2, la2, be2, ev, R2, E1, fr1⟩ => ?_
  subst ev
  try simp only [Option.some.injEq, exists_eq_left', reduceCtorEq, not_false_eq_true, true_and, lookup_hit, E1 _ _ hf0]
  refine (row_new (k := k + 2) (s := 3) F (by omega) hn).mono fun v σ2 ⟨r3, la3, be3, ev, R3, E2, fr2⟩ => ?_
  subst ev
  have hf2 := E2 _ _ (E1 _ _ hf0)
  try simp only [putF, Nat.reduceAdd, Option.some.injEq, exists_eq_left', reduceCtorEq, not_false_eq_true, true_and, if_false, Nat.reduceBEq, List.lookup_nil, lookup_hit, lookup_miss, Nat.reduceEqDiff, Nat.reduceLT, List.length_cons, List.length_nil, hf2]
  refine (tre_new (k := k) (least := 4) F (by omega) hw (by omega) hn).mono fun v σ3 ⟨tf, tr, ro, sa, gg, ev, T3, E3, fr3⟩ => ?_
  subst ev
  have hf3 := E3 _ _ upd_self
  try simp only [putF, Nat.reduceAdd, reduceCtorEq, true_and, if_false, Nat.reduceEqDiff, Nat.reduceLT, List.length_cons, List.length_nil, hf3]
  have nx : ∀ a, σ0 a = none → a ≠ x := fun a h e => by rw [e, hf0] at h; cases h
  have ex : ∀ {σ σ' : AHeap} {a}, Ext σ σ' → σ' a = none → σ a = none := fun {σ σ' a} E h => by
    cases q : σ a with
    | none => rfl
    | some o => rw [E _ _ q] at h; cases h
  have fr2' : ∀ a, rowFt r3 la3 be3 a → σ0 a = none := fun a ha => ex E1 (fr2 a ha)
  have fr3a : ∀ a, treFt tf tr ro sa gg a → a ≠ x ∧ σ2 a = none := fun a ha => upd_none (fr3 a ha)
  have fr3' : ∀ a, treFt tf tr ro sa gg a → σ0 a = none := fun a ha => ex E1 (ex E2 (fr3a a ha).2)
  have live : ∀ {σ : AHeap} {r la be s a}, Row σ r t s la be 0 → rowFt r la be a → σ a ≠ none := fun {σ r la be s a} R ha h => by
    rcases ha with rfl | rfl | rfl
    · rw [R.obj] at h; cases h
    · obtain ⟨nd, m, b, _⟩ := R.di; rw [b] at h; cases h
    · obtain ⟨l, b, _⟩ := R.li; rw [b] at h; cases h
  have U : ∀ a o, σ0 a = none → σ3 a = some o → upd σ3 x (.inst 307 (layF t w ch 0 r2 r3 tf)) a = some o := fun a o h e => by rw [upd_ne (nx a h)]; exact e
  have U2 : ∀ a o, σ0 a = none → σ2 a = some o → σ3 a = some o := fun a o h e => E3 _ _ (by rw [upd_ne (nx a h)]; exact e)
  have I : LayI t w ch x r2 la2 be2 r3 la3 be3 tf (treFt tf tr ro sa gg) (TreI t 4 w ch tf tr ro sa gg) 0 (upd σ3 x (.inst 307 (layF t w ch 0 r2 r3 tf))) := by
    refine ⟨upd_self, R2.keep fun a o ha e => U a o (fr1 a ha) (U2 a o (fr1 a ha) (E2 _ _ e)), R3.keep fun a o ha e => U a o (fr2' a ha) (U2 a o (fr2' a ha) e), T3.keep fun a o ha e => U a o (fr3' a ha) e,
      fun a h1 h2 => live R2 h1 (fr2 a h2), fun a h1 h2 => ?_, fun a h1 h2 => live R3 h1 (fr3a a h2).2, fun h => nx _ (fr1 _ h) rfl, fun h => nx _ (fr2' _ h) rfl, fun h => nx _ (fr3' _ h) rfl⟩
    exact live R2 h1 (ex E2 (fr3a a h2).2)
  refine ⟨x, layFt x r2 la2 be2 r3 la3 be3 (treFt tf tr ro sa gg), _, rfl, lay_ok (k := k) F (tre_ok (k := k) F hb (by omega) hc hn) hb hn, I, fun a o h => ?_, fun a ha => ?_⟩
  · have n1 : a ≠ x := fun e => by rw [e, hx] at h; cases h
    rw [upd_ne n1]
    exact E3 _ _ (by rw [upd_ne n1]; exact E2 _ _ (E1 _ _ (hst _ _ h)))
  · rcases ha with rfl | ha | ha | ha
    · exact hx
    · exact ex hst (fr1 a ha)
    · exact ex hst (fr2' a ha)
    · exact ex hst (fr3' a ha)
def NewFi (X : Cx) (k : Nat) (t : List Nat) (least w : Nat) (σ : AHeap) : V → AHeap → Prop := fun v σ' => ∃ f foot Inv, v = .ref f ∧ Fi X k t least w f foot Inv ∧ Inv 0 σ' ∧ Ext σ σ' ∧ ∀ a, foot a → σ a = none
theorem for_chain (F : Fns X) (hb : ∀ o ∈ t, o < 256) (hl : 0 < least) (hw : 0 < w) (hc : t.length < ch) (hn : t.length ≤ 900) :
    WC X (k + 7) (.ref 317) [.str (PySem.Str.ofString "chain"), .bytes t, .int least, .int w, .int ch] σ (NewFi X (k + 6) t least w σ) := by
  refine wc_of F F.finder_for rfl ?_
  try simp only [wpSs, wpS, wpE, wpEs, truthP, cmpP, copI, retQ, initR, List.getElem?_cons_zero, List.getElem?_cons_succ, List.cons_append, List.nil_append, List.replicate_zero, Nat.reduceSub, Option.some.injEq, exists_eq_left', ne_eq, reduceCtorEq, not_false_eq_true, true_and, decide_eq_true_eq, f_finder_for, f_finder_for_b]
  refine pos (by decide +kernel) ?_
  refine (fin_new (k := k + 2) F hl hw (by omega) hn).mono fun v σ' ⟨f, r, la, be, e, I, E, fr⟩ => ?_
  exact ⟨f, _, _, e, (fin_ok (k := k) F hb hl hc hn).le (by omega), I, E, fr⟩
theorem for_tree (F : Fns X) (hb : ∀ o ∈ t, o < 256) (hl : 0 < least) (hw : 0 < w) (hc : t.length < ch) (hn : t.length ≤ 900) :
    WC X (k + 7) (.ref 317) [.str (PySem.Str.ofString "tree"), .bytes t, .int least, .int w, .int ch] σ (NewFi X (k + 6) t least w σ) := by
  refine wc_of F F.finder_for rfl ?_
  try simp only [wpSs, wpS, wpE, wpEs, truthP, cmpP, copI, retQ, initR, List.getElem?_cons_zero, List.getElem?_cons_succ, List.cons_append, List.nil_append, List.replicate_zero, Nat.reduceSub, Option.some.injEq, exists_eq_left', ne_eq, reduceCtorEq, not_false_eq_true, true_and, decide_eq_true_eq, f_finder_for, f_finder_for_b]
  refine neg (by decide +kernel) ?_
  try simp only [wpSs, wpS, wpE, wpEs, wpI, truthP, cmpP, copI, binP, binI, attrP, lenP, asItems, asList, asFrozen, methP, asgP, setAll, setattrP, putF, retQ, initR, idxP, lastP, bndP, sliceP, revP, dgetP, isDict, range1P, range2P, range3P, appendP, frzP, V.isNone, mkList, List.getElem?_cons_zero, List.getElem?_cons_succ, List.set_cons_zero, List.set_cons_succ, List.set_nil, List.cons_append, List.nil_append, List.replicate_succ, List.replicate_zero, Nat.reduceSub, Nat.reduceAdd, Option.some.injEq, exists_eq_left', ne_eq, reduceCtorEq, not_false_eq_true, true_and, and_true, if_true, if_false, Bool.true_eq_false, Bool.false_eq_true, Option.isSome_some, Nat.reduceBEq, List.lookup_nil, lookup_hit, lookup_miss, bne_self_eq_false, Bool.not_true, Bool.not_false, decide_true, decide_false, ite_true, ite_false, reduceIte, Nat.reduceEqDiff, Nat.reduceLT, Nat.reduceLeDiff, List.length_cons, List.length_nil, decide_eq_true_eq, Bool.not_eq_true', decide_eq_false_iff_not, Int.toNat_natCast, List.length_map, Bool.and_eq_true, Bool.or_eq_true, Bool.not_eq_eq_eq_not, Bool.not_eq_true, Bool.not_eq_false]
  refine pos (by decide +kernel) ?_
  refine (tre_new (k := k + 2) F hl hw (by omega) hn).mono fun v σ' ⟨f, r, ro, sa, ga, e, I, E, fr⟩ => ?_
  exact ⟨f, _, _, e, (tre_ok (k := k) F hb hl hc hn).le (by omega), I, E, fr⟩
theorem for_layers (F : Fns X) {l : V} (hl : l ≠ .undef) (hb : ∀ o ∈ t, o < 256) (hw : 0 < w) (hc : t.length < ch) (hn : t.length ≤ 900) :
    WC X (k + 7) (.ref 317) [.str (PySem.Str.ofString "layers"), .bytes t, l, .int w, .int ch] σ (NewFi X (k + 6) t 2 w σ) := by
  refine wc_of F F.finder_for rfl ?_
  try simp only [wpSs, wpS, wpE, wpEs, truthP, cmpP, copI, retQ, initR, List.getElem?_cons_zero, List.getElem?_cons_succ, List.cons_append, List.nil_append, List.replicate_zero, Nat.reduceSub, Option.some.injEq, exists_eq_left', ne_eq, reduceCtorEq, not_false_eq_true, true_and, decide_eq_true_eq, f_finder_for, f_finder_for_b]
  refine neg (by decide +kernel) ?_
  try simp only [wpSs, wpS, wpE, wpEs, wpI, truthP, cmpP, copI, binP, binI, attrP, lenP, asItems, asList, asFrozen, methP, asgP, setAll, setattrP, putF, retQ, initR, idxP, lastP, bndP, sliceP, revP, dgetP, isDict, range1P, range2P, range3P, appendP, frzP, V.isNone, mkList, List.getElem?_cons_zero, List.getElem?_cons_succ, List.set_cons_zero, List.set_cons_succ, List.set_nil, List.cons_append, List.nil_append, List.replicate_succ, List.replicate_zero, Nat.reduceSub, Nat.reduceAdd, Option.some.injEq, exists_eq_left', ne_eq, reduceCtorEq, not_false_eq_true, true_and, and_true, if_true, if_false, Bool.true_eq_false, Bool.false_eq_true, Option.isSome_some, Nat.reduceBEq, List.lookup_nil, lookup_hit, lookup_miss, bne_self_eq_false, Bool.not_true, Bool.not_false, decide_true, decide_false, ite_true, ite_false, reduceIte, Nat.reduceEqDiff, Nat.reduceLT, Nat.reduceLeDiff, List.length_cons, List.length_nil, decide_eq_true_eq, Bool.not_eq_true', decide_eq_false_iff_not, Int.toNat_natCast, List.length_map, Bool.and_eq_true, Bool.or_eq_true, Bool.not_eq_eq_eq_not, Bool.not_eq_true, Bool.not_eq_false]
  refine neg (by decide +kernel) ?_
  try simp only [wpSs, wpS, wpE, wpEs, wpI, truthP, cmpP, copI, binP, binI, attrP, lenP, asItems, asList, asFrozen, methP, asgP, setAll, setattrP, putF, retQ, initR, idxP, lastP, bndP, sliceP, revP, dgetP, isDict, range1P, range2P, range3P, appendP, frzP, V.isNone, mkList, List.getElem?_cons_zero, List.getElem?_cons_succ, List.set_cons_zero, List.set_cons_succ, List.set_nil, List.cons_append, List.nil_append, List.replicate_succ, List.replicate_zero, Nat.reduceSub, Nat.reduceAdd, Option.some.injEq, exists_eq_left', ne_eq, reduceCtorEq, not_false_eq_true, true_and, and_true, if_true, if_false, Bool.true_eq_false, Bool.false_eq_true, Option.isSome_some, Nat.reduceBEq, List.lookup_nil, lookup_hit, lookup_miss, bne_self_eq_false, Bool.not_true, Bool.not_false, decide_true, decide_false, ite_true, ite_false, reduceIte, Nat.reduceEqDiff, Nat.reduceLT, Nat.reduceLeDiff, List.length_cons, List.length_nil, decide_eq_true_eq, Bool.not_eq_true', decide_eq_false_iff_not, Int.toNat_natCast, List.length_map, Bool.and_eq_true, Bool.or_eq_true, Bool.not_eq_eq_eq_not, Bool.not_eq_true, Bool.not_eq_false]
  refine pos (by decide +kernel) ?_
  exact lay_new (k := k) F hb hw hc hn
end
end Mine
end

section
open PySem PySem.Calls PyProof.Rows PySem.W
set_option maxRecDepth 20000
namespace Mine
theorem forP_inv {t : Tg} {body : List V → AHeap → (Fl → List V → AHeap → Prop) → Prop} {Q : Fl → List V → AHeap → Prop} (I : List V → List V → AHeap → Prop)
    (step : ∀ x r ρ σ (K : Fl → List V → AHeap → Prop), I (x :: r) ρ σ → (∀ ρ' σ', I r ρ' σ' → K .next ρ' σ') → (∀ ρ' σ', Q .next ρ' σ' → K .brk ρ' σ') → (∀ v ρ' σ', Q (.ret v) ρ' σ' → K (.ret v) ρ' σ') → asgP t x ρ fun ρ₁ => body ρ₁ σ K)
    (hend : ∀ ρ σ, I [] ρ σ → Q .next ρ σ) : ∀ (items : List V) (ρ : List V) (σ : AHeap), I items ρ σ → forP t body Q items ρ σ
  | [], ρ, σ, h => hend ρ σ h
  | x :: r, ρ, σ, h => by
    unfold forP
    exact step x r ρ σ _ h (fun ρ' σ' h' => forP_inv I step hend r ρ' σ' h') (fun _ _ h => h) fun _ _ _ h => h
theorem whileP_inv {test : List V → AHeap → (Bool → AHeap → Prop) → Prop} {body : List V → AHeap → (Fl → List V → AHeap → Prop) → Prop} {Q : Fl → List V → AHeap → Prop} (I : Nat → List V → AHeap → Prop)
    (step : ∀ n ρ σ (K : Fl → List V → AHeap → Prop), I n ρ σ → (∀ m ρ' σ', m < n → I m ρ' σ' → K .next ρ' σ') → (∀ ρ' σ', Q .next ρ' σ' → K .brk ρ' σ') → (∀ v ρ' σ', Q (.ret v) ρ' σ' → K (.ret v) ρ' σ') →
      test ρ σ fun b σ₁ => if b = true then body ρ σ₁ K else Q .next ρ σ₁) : ∀ (f n : Nat) (ρ : List V) (σ : AHeap), n < f → I n ρ σ → whileP test body Q f ρ σ
  | 0, n, ρ, σ, h, _ => by omega
  | f + 1, n, ρ, σ, h, hI => by
    unfold whileP
    exact step n ρ σ _ hI (fun m ρ' σ' hm h' => whileP_inv I step f m ρ' σ' (by omega) h') (fun _ _ h => h) fun _ _ _ h => h
theorem fold_comp {F : V → (List V → AHeap → Prop) → List V → AHeap → Prop} {Q : List V → AHeap → Prop} (I : List V → List V → AHeap → Prop)
    (step : ∀ x r acc σ (K : List V → AHeap → Prop), I (x :: r) acc σ → (∀ acc' σ', I r acc' σ' → K acc' σ') → F x K acc σ)
    (hend : ∀ acc σ, I [] acc σ → Q acc σ) : ∀ (items acc : List V) (σ : AHeap), I items acc σ → items.foldr F Q acc σ
  | [], acc, σ, h => hend acc σ h
  | x :: r, acc, σ, h => step x r acc σ _ h fun acc' σ' h' => fold_comp I step hend r acc' σ' h'
theorem dgp_small {x y : Int} (h : y.natAbs < 2 ^ 200) : Builtin.divisionGoesByPylong x y = false := by
  unfold Builtin.divisionGoesByPylong
  have : (if (y == 0) = true then 0 else y.natAbs.log2 / 30 + 1) ≤ 300 := by
    split
    · omega
    · rename_i hy
      have hy : y.natAbs ≠ 0 := by simpa using hy
      have := (Nat.log2_lt hy).mpr h
      omega
  simp only [Bool.and_eq_false_iff, decide_eq_false_iff_not]
  exact .inl (by omega)
theorem bits_small {x : Int} (h : x.natAbs < 2 ^ 64) : Builtin.Int.intBits x ≤ 64 := by
  unfold Builtin.Int.intBits
  split
  · omega
  · rename_i hy
    have hy : x.natAbs ≠ 0 := by simpa using hy
    have := (Nat.log2_lt hy).mpr h
    omega
section
variable {X : Cx} {k : Nat}
variable {σ : AHeap} {b : Addr} {t : List Nat} {Q : V → AHeap → Prop}
def BoxSt (σ : AHeap) (b : Addr) : Prop := ∃ d s : Int, σ b = some (.list [.int d, .int s])
def Only (b : Addr) (σ σ' : AHeap) : Prop := Fram (fun a => a = b) σ σ'
theorem Only.upd {o : AObj} : Only b σ (upd σ b o) := fun a o h e => by rw [upd_ne h]; exact e
theorem take_c (F : Fns X) (h : BoxSt σ b) {many : Nat} (hm : 0 < many) (hm2 : many < 2 ^ 30) : WC X (k + 1) (.ref 331) [.ref b, .int many] σ (fun v σ' => (∃ r : Nat, r < many ∧ v = .int r) ∧ BoxSt σ' b ∧ Only b σ σ') := by
  obtain ⟨d, s, hb⟩ := h
  refine wc_of F F.law_take rfl ?_
  have hf : ∀ x : Int, ∃ r : Nat, r < many ∧ V.int (x.fmod many) = .int r := fun x => by
    have h1 := Int.fmod_nonneg_of_pos x (show (0 : Int) < many by omega)
    have h2 := Int.fmod_lt_of_pos x (show (0 : Int) < many by omega)
    exact ⟨(x.fmod many).toNat, by omega, by congr 1; omega⟩
  try simp only [wpSs, wpS, wpE, truthP, cmpP, copI, binP, binI, asItems, asList, asgP, retQ, initR, idxP, List.getElem?_cons_zero, List.getElem?_cons_succ, List.set_cons_zero, List.set_cons_succ, List.cons_append, List.nil_append, List.replicate_succ, List.replicate_zero, Nat.reduceSub, Option.some.injEq, exists_eq_left', ne_eq, reduceCtorEq, not_false_eq_true, true_and, decide_eq_true_eq, f_law_take, f_law_take_b, hb]
  refine ⟨by omega, _, rfl, ?_⟩
  try simp only []
  by_cases h0 : 0 < d
  · refine pos h0 ?_
    refine ⟨by omega, _, rfl, ?_⟩
    try simp only []
    refine ⟨by omega, by omega, _, rfl, by omega, dgp_small (by omega), ?_⟩
    try simp only [Nat.reduceAdd, List.length_cons, List.length_nil, setidxP, hb]
    refine ⟨by omega, by simp, hf _, ?_, Only.upd⟩
    exact ⟨_, _, upd_self⟩
  · refine neg h0 ?_
    try simp only [wpSs, wpS, wpE, wpEs, wpI, truthP, cmpP, copI, binP, binI, attrP, lenP, asItems, asList, asFrozen, methP, asgP, setAll, setattrP, putF, retQ, initR, idxP, lastP, bndP, sliceP, revP, dgetP, isDict, range1P, range2P, range3P, appendP, frzP, V.isNone, mkList, List.getElem?_cons_zero, List.getElem?_cons_succ, List.set_cons_zero, List.set_cons_succ, List.set_nil, List.cons_append, List.nil_append, List.replicate_succ, List.replicate_zero, Nat.reduceSub, Nat.reduceAdd, Option.some.injEq, exists_eq_left', ne_eq, reduceCtorEq, not_false_eq_true, true_and, and_true, if_true, if_false, Bool.true_eq_false, Bool.false_eq_true, Option.isSome_some, Nat.reduceBEq, List.lookup_nil, lookup_hit, lookup_miss, bne_self_eq_false, Bool.not_true, Bool.not_false, decide_true, decide_false, ite_true, ite_false, reduceIte, Nat.reduceEqDiff, Nat.reduceLT, Nat.reduceLeDiff, List.length_cons, List.length_nil, decide_eq_true_eq, Bool.not_eq_true', decide_eq_false_iff_not, Int.toNat_natCast, List.length_map, Bool.and_eq_true, Bool.or_eq_true, Bool.not_eq_eq_eq_not, Bool.not_eq_true, Bool.not_eq_false, hb]
    refine ⟨by omega, _, rfl, IntMulOk.of_right (by decide +kernel), by omega, ?_⟩
    try simp only [Nat.reduceAdd, List.length_cons, List.length_nil, setidxP, hb]
    refine ⟨by omega, by simp, ?_⟩
    try simp only [upd_self]
    refine ⟨by omega, _, rfl, by omega, dgp_small (by decide), by omega, ?_⟩
    exact ⟨hf _, ⟨_, _, upd_self⟩, Only.upd⟩
theorem box_c (F : Fns X) {ns : List Int} : WC X (k + 1) (.ref 324) [.list (ns.map .int)] σ (fun v σ' => ∃ b, v = .ref b ∧ σ b = none ∧ BoxSt σ' b ∧ Ext σ σ') := by
  refine wc_of F F.law_box rfl ?_
  try simp only [wpSs, wpS, wpE, wpEs, wpI, asList, asFrozen, asgP, setAll, retQ, initR, bndP, sliceP, mkList, List.getElem?_cons_zero, List.set_cons_zero, List.set_cons_succ, List.cons_append, List.nil_append, List.replicate_succ, List.replicate_zero, Nat.reduceSub, Nat.reduceAdd, Option.some.injEq, exists_eq_left', ne_eq, reduceCtorEq, not_false_eq_true, true_and, if_true, Nat.reduceLeDiff, List.length_cons, List.length_nil, f_law_box, f_law_box_b]
  refine ⟨by omega, ?_⟩
  refine forP_inv (fun items ρ σ' => σ' = σ ∧ (∃ ms : List Int, items = ms.map .int) ∧ ∃ d s : Int, ∃ z, ρ = [.list (ns.map .int), .int d, .int s, z]) ?_ ?_ _ _ _ ⟨rfl, ?_, ⟨0, 1, _, rfl⟩⟩
  · rintro x r ρ σ' K ⟨rfl, ⟨ms, hms⟩, d, s, z, rfl⟩ hK _ _
    obtain ⟨m, ms, rfl⟩ : ∃ m ms', ms = m :: ms' := by cases ms with
      | nil => simp at hms
      | cons m ms => exact ⟨m, ms, rfl⟩
    simp only [List.map_cons, List.cons.injEq] at hms
    obtain ⟨rfl, rfl⟩ := hms
    try simp only [wpSs, wpS, wpE, truthP, cmpP, copI, binP, binI, asList, asgP, List.getElem?_cons_zero, List.getElem?_cons_succ, List.set_cons_zero, List.set_cons_succ, Option.some.injEq, exists_eq_left', ne_eq, reduceCtorEq, not_false_eq_true, true_and, decide_eq_true_eq, f_law_box_b1]
    refine ⟨by omega, by decide +kernel, ?_⟩
    split
    · refine ⟨by omega, by decide +kernel, ?_⟩
      exact hK _ _ ⟨rfl, ⟨ms, rfl⟩, _, _, _, rfl⟩
    · refine ⟨IntMulOk.of_right (by decide +kernel), by omega, ?_⟩
      exact hK _ _ ⟨rfl, ⟨ms, rfl⟩, _, _, _, rfl⟩
  · rintro ρ σ' ⟨rfl, _, d, s, z, rfl⟩
    try simp only [List.getElem?_cons_zero, List.getElem?_cons_succ, Option.some.injEq, exists_eq_left', reduceCtorEq, not_false_eq_true, true_and]
    intro b hb
    exact ⟨b, rfl, hb, ⟨d, s, upd_self⟩, .upd hb⟩
  · exact ⟨ns.take 30, by unfold cut; simp [List.map_take]⟩
def letV (l : List V) : Prop := ∃ ns : List Nat, l = ns.map (fun (n : Nat) => V.int (n : Int)) ∧ ∀ n ∈ ns, n < 256
theorem letV.app {l l' : List V} (h : letV l) (h' : letV l') : letV (l ++ l') := by
  obtain ⟨ns, rfl, b⟩ := h
  obtain ⟨ms, rfl, b'⟩ := h'
  exact ⟨ns ++ ms, by simp, fun n hn => (List.mem_append.mp hn).elim (b n) (b' n)⟩
theorem letV.sub {l l' : List V} (h : letV l) (s : l'.Sublist l) : letV l' := by
  obtain ⟨ns, rfl, b⟩ := h
  obtain ⟨ms, s', rfl⟩ := List.sublist_map_iff.mp s
  exact ⟨ms, rfl, fun n hn => b n (s'.subset hn)⟩
theorem let3 {r : Nat} (h : r < 3) : ∃ x, [V.int 97, V.int 0, V.int 255][r]? = some x ∧ letV [x] := by
  match r, h with
  | 0, _ => exact ⟨_, rfl, [97], rfl, by simp⟩
  | 1, _ => exact ⟨_, rfl, [0], rfl, by simp⟩
  | 2, _ => exact ⟨_, rfl, [255], rfl, by simp⟩
theorem let5 {r : Nat} (h : r < 5) : ∃ x : Nat, [V.int 3, V.int 2, V.int 3, V.int 2, V.int 1][r]? = some (.int x) ∧ 0 < x ∧ x ≤ 3 := by
  match r, h with
  | 0, _ => exact ⟨3, rfl, by omega, by omega⟩
  | 1, _ => exact ⟨2, rfl, by omega, by omega⟩
  | 2, _ => exact ⟨3, rfl, by omega, by omega⟩
  | 3, _ => exact ⟨2, rfl, by omega, by omega⟩
  | 4, _ => exact ⟨1, rfl, by omega, by omega⟩
theorem Only.trans {σ' σ'' : AHeap} (x : Only b σ σ') (y : Only b σ' σ'') : Only b σ σ'' := Fram.trans x y
theorem Ext.only {σ' : AHeap} (x : Ext σ σ') : Only b σ σ' := x.fram
theorem text_c (F : Fns X) (h : BoxSt σ b) {room : Nat} (hr : room ≤ 100) : WC X (k + 2) (.ref 336) [.ref b, .int room] σ (fun v σ' => (∃ t : List Nat, v = .bytes t ∧ t.length = room ∧ ∀ o ∈ t, o < 256) ∧ BoxSt σ' b ∧ Only b σ σ') := by
  refine wc_of F F.law_text rfl ?_
  try simp only [wpSs, wpS, wpE, wpEs, truthP, asItems, asList, asgP, retQ, initR, idxP, bndP, sliceP, mkList, List.getElem?_cons_zero, List.set_cons_zero, List.set_cons_succ, List.cons_append, List.nil_append, List.replicate_succ, List.replicate_zero, Nat.reduceSub, Nat.reduceAdd, Option.some.injEq, exists_eq_left', ne_eq, reduceCtorEq, not_false_eq_true, true_and, if_true, if_false, Bool.false_eq_true, Nat.reduceLeDiff, List.length_cons, List.length_nil, f_law_text, f_law_text_b]
  refine (take_c (many := 5) (k := k) F h (by omega) (by omega)).mono fun v σ1 ⟨⟨r, hr5, ev⟩, B1, O1⟩ => ?_
  subst ev
  try simp only [Int.toNat_natCast]
  obtain ⟨x, hx, hx0, hx3⟩ := let5 hr5
  refine ⟨by omega, _, hx, ?_⟩
  try simp only [wpE, wpEs, wpI, truthP, binP, binI, asList, asgP, range1P, List.getElem?_cons_zero, List.getElem?_cons_succ, List.set_cons_zero, List.set_cons_succ, Option.some.injEq, exists_eq_left', ne_eq, reduceCtorEq, not_false_eq_true, true_and, if_true, wpG, clr, Gs.slots, Tg.slots, Option.getD_some, List.append_nil, List.foldl_cons, List.foldl_nil]
  refine (take_c (many := 2) (k := k) F B1 (by omega) (by omega)).mono fun v σ2 ⟨⟨m, hm, ev⟩, B2, O2⟩ => ?_
  subst ev
  try simp only [small]
  refine ⟨by omega, ?_⟩
  have O12 := O1.trans O2
  generalize hits : (List.range _).map _ = items
  have hil : items.length = 2 + m := by rw [← hits]; simp; omega
  refine fold_comp (fun items acc σ' => acc.length + items.length = 2 + m ∧ letV acc ∧ BoxSt σ' b ∧ Only b σ σ') ?_ ?_ _ _ _ ⟨by simpa using hil, ⟨[], rfl, by simp⟩, B2, O12⟩
  · rintro y r acc σ3 K ⟨l1, l2, B3, O3⟩ hK
    try simp only [wpSs, wpS, wpE, wpEs, wpI, truthP, cmpP, copI, binP, binI, attrP, lenP, asItems, asList, asFrozen, methP, asgP, setAll, setattrP, putF, retQ, initR, idxP, lastP, bndP, sliceP, revP, dgetP, isDict, range1P, range2P, range3P, appendP, frzP, V.isNone, mkList, List.getElem?_cons_zero, List.getElem?_cons_succ, List.set_cons_zero, List.set_cons_succ, List.set_nil, List.cons_append, List.nil_append, List.replicate_succ, List.replicate_zero, Nat.reduceSub, Nat.reduceAdd, Option.some.injEq, exists_eq_left', ne_eq, reduceCtorEq, not_false_eq_true, true_and, and_true, if_true, if_false, Bool.true_eq_false, Bool.false_eq_true, Option.isSome_some, Nat.reduceBEq, List.lookup_nil, lookup_hit, lookup_miss, bne_self_eq_false, Bool.not_true, Bool.not_false, decide_true, decide_false, ite_true, ite_false, reduceIte, Nat.reduceEqDiff, Nat.reduceLT, Nat.reduceLeDiff, List.length_cons, List.length_nil, decide_eq_true_eq, Bool.not_eq_true', decide_eq_false_iff_not, Int.toNat_natCast, List.length_map, Bool.and_eq_true, Bool.or_eq_true, Bool.not_eq_eq_eq_not, Bool.not_eq_true, Bool.not_eq_false, clr, Gs.slots, Tg.slots, List.append_nil, List.foldl_cons, List.foldl_nil]
    simp only [List.length_cons] at l1
    refine ⟨by omega, ?_⟩
    refine (take_c (k := k) F B3 hx0 (by omega)).mono fun v σ4 ⟨⟨q, hq, ev⟩, B4, O4⟩ => ?_
    subst ev
    try simp only [Int.toNat_natCast]
    obtain ⟨z, hz, hz2⟩ := let3 (show q < 3 by omega)
    refine ⟨by omega, z, hz, ?_⟩
    exact hK _ _ ⟨by simp; omega, l2.app hz2, B4, O3.trans O4⟩
  · rintro acc σ3 ⟨l1, l2, B3, O3⟩
    simp only [List.length_nil] at l1
    refine ⟨by omega, fun a ha => ?_⟩
    have nab : a ≠ b := fun e => by obtain ⟨d, s, e'⟩ := B3; rw [e, e'] at ha; cases ha
    have ha0 : ∀ c, c ≠ b → σ3 c = none → σ c = none := fun c hc h => by
      cases q : σ c with
      | none => rfl
      | some o => rw [O3 c o hc q] at h; cases h
    have BU : ∀ {σ' : AHeap} {a : Addr} {o : AObj}, a ≠ b → BoxSt σ' b → BoxSt (upd σ' a o) b := fun h ⟨d, s, e⟩ => ⟨d, s, by rw [upd_ne (Ne.symm h)]; exact e⟩
    have OU : ∀ {σ' : AHeap} {a : Addr} {o : AObj}, σ a = none → Only b σ σ' → Only b σ (upd σ' a o) := fun {σ' a o} h O c o' hc e => by
      have : c ≠ a := fun q => by rw [q, h] at e; cases e
      rw [upd_ne this]; exact O c o' hc e
    refine ⟨room + 1, whileP_inv (fun n ρ σ' => ∃ acc a z, ρ = [.ref b, .int room, .int x, .ref a, z, .undef] ∧ σ' a = some (.list acc) ∧ a ≠ b ∧ σ a = none ∧ letV acc ∧ 0 < acc.length ∧ acc.length ≤ 200 ∧ BoxSt σ' b ∧ Only b σ σ' ∧ n = room - acc.length) ?_ (room + 1) (room - acc.length) _ _ (by omega)
      ⟨acc, a, _, rfl, upd_self, nab, ha0 a nab ha, l2, by omega, by omega, BU nab B3, OU (ha0 a nab ha) O3, rfl⟩⟩
    rintro n ρ σ4 K ⟨acc, a, z, rfl, g1, g2, g3, g4, g5, g6, B4, O4, rfl⟩ hK _ _
    try simp only [wpE, cmpP, copI, lenP, asItems, asList, List.getElem?_cons_zero, List.getElem?_cons_succ, Option.some.injEq, exists_eq_left', ne_eq, reduceCtorEq, not_false_eq_true, true_and, decide_eq_true_eq, Int.toNat_natCast, f_law_text_c1, g1]
    by_cases hlt : acc.length < room
    · refine pos (by omega) ?_
      try simp only [wpSs, wpS, wpE, wpEs, truthP, cmpP, copI, binP, binI, lenP, asItems, asList, asgP, idxP, bndP, sliceP, appendP, mkList, List.getElem?_cons_zero, List.getElem?_cons_succ, List.set_cons_zero, List.set_cons_succ, Nat.reduceAdd, Option.some.injEq, exists_eq_left', ne_eq, reduceCtorEq, not_false_eq_true, true_and, if_false, Bool.false_eq_true, Nat.reduceLeDiff, List.length_cons, List.length_nil, decide_eq_true_eq, f_law_text_b2]
      refine (take_c (many := 3) (k := k) F B4 (by omega) (by omega)).mono fun v σ5 ⟨⟨q, hq, ev⟩, B5, O5⟩ => ?_
      subst ev
      have h5 := O5 _ _ g2 g1
      try simp only []
      by_cases hq0 : 0 < q
      · refine pos (by omega) ?_
        try simp only [h5]
        refine (take_c (k := k) F B5 g5 (by omega)).mono fun v σ6 ⟨⟨bg, hbg, ev⟩, B6, O6⟩ => ?_
        subst ev
        have h6 := O6 _ _ g2 h5
        try simp only [reduceCtorEq, not_false_eq_true, true_and, Int.toNat_natCast]
        refine (take_c (many := 4) (k := k) F B6 (by omega) (by omega)).mono fun v σ7 ⟨⟨r4, hr4, ev⟩, B7, O7⟩ => ?_
        subst ev
        have h7 := O7 _ _ g2 h6
        try simp only [asList, mkList, if_true, h7, ncatP]
        have O47 := ((O4.trans O5).trans O6).trans O7
        have e1 : ((bg : Int) + 2 + (r4 : Int)).toNat = bg + 2 + r4 := by omega
        rw [e1]
        have cl : (cut acc bg (some (bg + 2 + r4))).length ≤ 5 ∧ 0 < (cut acc bg (some (bg + 2 + r4))).length := by
          unfold cut
          simp
          omega
        refine ⟨by omega, by omega, by simp; omega, fun a2 ha2 => ?_⟩
        have n2 : a2 ≠ b := fun e => by obtain ⟨d, s, e'⟩ := B7; rw [e, e'] at ha2; cases ha2
        have h02 : σ a2 = none := by
          cases q : σ a2 with
          | none => rfl
          | some o => rw [O47 a2 o n2 q] at ha2; cases ha2
        refine hK _ _ _ ?_ ⟨_, a2, _, rfl, upd_self, n2, h02, g4.app (g4.sub ?_), by simp; omega, by simp; omega, BU n2 B7, OU h02 O47, rfl⟩
        · simp; omega
        · unfold cut
          exact (List.drop_sublist _ _).trans (List.take_sublist _ _)
      · refine neg (by omega) ?_
        try simp only [true_and, Option.isSome_some, h5]
        refine (take_c (k := k) F B5 hx0 (by omega)).mono fun v σ6 ⟨⟨bg, hbg, ev⟩, B6, O6⟩ => ?_
        subst ev
        have h6 := O6 _ _ g2 h5
        obtain ⟨y, hy, hy2⟩ := let3 (show bg < 3 by omega)
        try simp only [Int.toNat_natCast, h6]
        refine ⟨by omega, y, hy, by omega, ?_⟩
        exact hK _ _ _ (by simp; omega) ⟨_, a, _, rfl, upd_self, g2, g3, g4.app hy2, by simp, by simp; omega, BU g2 B6, OU g3 ((O4.trans O5).trans O6), rfl⟩
    · refine neg (by omega) ?_
      try simp only [asList, bytesP]
      refine ⟨by omega, ?_⟩
      obtain ⟨ns, e, hb⟩ := g4
      subst e
      refine ⟨ns.take room, by unfold cut; simp, fun n hn => hb n (List.take_subset _ _ hn), by simp; omega, ⟨_, rfl, by simp at hlt ⊢; omega, fun n hn => hb n (List.take_subset _ _ hn)⟩, B4, O4⟩
end
end Mine
end

section
namespace Mine
section
variable {t : List Nat} {p q : Nat}
def top (t : List Nat) (p : Nat) : Nat → Nat
  | 0 => 0
  | k + 1 => top t p k * 257 + dg t (p + k)
theorem dg_le (hb : ∀ o ∈ t, o < 256) (j : Nat) : dg t j < 257 := by
  unfold dg
  split
  · rename_i o h
    have := hb o (List.mem_of_getElem? h)
    omega
  · omega
theorem top_div (hb : ∀ o ∈ t, o < 256) (k : Nat) : top t p (k + 1) / 257 = top t p k := by
  have := dg_le hb (p + k)
  show (top t p k * 257 + dg t (p + k)) / 257 = top t p k
  omega
theorem top_divs (hb : ∀ o ∈ t, o < 256) (k : Nat) : ∀ m, top t p (k + m) / 257 ^ m = top t p k
  | 0 => by simp
  | m + 1 => by
    rw [Nat.pow_succ, Nat.mul_comm, ← Nat.div_div_eq_div_mul, ← Nat.add_assoc, top_div hb, top_divs hb k m]
theorem top_eq (hb : ∀ o ∈ t, o < 256) : ∀ k, top t p k = top t q k ↔ ∀ i, i < k → dg t (p + i) = dg t (q + i)
  | 0 => by simp [top]
  | k + 1 => by
    have h1 := dg_le hb (p + k)
    have h2 := dg_le hb (q + k)
    have ih := top_eq hb k
    constructor
    · intro h
      have h : top t p k * 257 + dg t (p + k) = top t q k * 257 + dg t (q + k) := h
      have e1 : top t p k = top t q k := by omega
      have e2 := ih.mp e1
      intro i hi
      by_cases e : i = k
      · subst e; omega
      · exact e2 i (by omega)
    · intro h
      show top t p k * 257 + dg t (p + k) = top t q k * 257 + dg t (q + k)
      rw [ih.mpr fun i hi => h i (by omega), h k (by omega)]
theorem top_lt (hb : ∀ o ∈ t, o < 256) {k : Nat} (h1 : ∀ i, i < k → dg t (p + i) = dg t (q + i)) (h2 : dg t (p + k) < dg t (q + k)) : ∀ m, top t p (k + 1 + m) < top t q (k + 1 + m)
  | 0 => by
    show top t p k * 257 + dg t (p + k) < top t q k * 257 + dg t (q + k)
    rw [(top_eq hb k).mpr h1]; omega
  | m + 1 => by
    have ih := top_lt hb h1 h2 m
    have h3 := dg_le hb (p + (k + 1 + m))
    show top t p (k + 1 + m) * 257 + dg t (p + (k + 1 + m)) < top t q (k + 1 + m) * 257 + dg t (q + (k + 1 + m))
    omega
theorem top_lt_iff (hb : ∀ o ∈ t, o < 256) (n : p ≠ q) (hp : p < t.length) (hq : q < t.length) : top t p t.length < top t q t.length → Lt t p q := by
  intro h
  rcases Lt_or n hp hq with h1 | h1
  · exact h1
  · exfalso
    have h2 := (Lt_iff n.symm hq hp).mp h1
    have hl := (L_le (t := t) (p := q) (q := p))
    have := top_lt hb (fun i hi => L_eq hi) h2 (t.length - (L t q p + 1))
    rw [show L t q p + 1 + (t.length - (L t q p + 1)) = t.length by omega] at this
    omega
theorem top_ne (hb : ∀ o ∈ t, o < 256) (n : p ≠ q) (hp : p < t.length) (hq : q < t.length) : top t p t.length ≠ top t q t.length := by
  intro h
  have hl := (L_le (t := t) (p := p) (q := q))
  exact L_ne n hp hq ((top_eq hb _).mp h _ (by omega))
theorem top_rec : ∀ n, top t p (n + 1) = dg t p * 257 ^ n + top t (p + 1) n
  | 0 => by simp [top]
  | n + 1 => by
    show top t p (n + 1) * 257 + dg t (p + (n + 1)) = _
    rw [top_rec n]
    show _ = dg t p * 257 ^ (n + 1) + (top t (p + 1) n * 257 + dg t (p + 1 + n))
    rw [Nat.pow_succ, Nat.add_mul, show p + (n + 1) = p + 1 + n by omega, Nat.mul_assoc]
    omega
theorem top_end : ∀ n, top t t.length n = 0
  | 0 => rfl
  | n + 1 => by
    show top t t.length n * 257 + dg t (t.length + n) = 0
    rw [top_end n, dg_out (by omega)]
theorem top_small (hb : ∀ o ∈ t, o < 256) : ∀ n, top t p n < 257 ^ n
  | 0 => by simp [top]
  | n + 1 => by
    have h := top_small hb n
    have h3 := dg_le hb (p + n)
    show top t p n * 257 + dg t (p + n) < 257 ^ n * 257
    omega
structure Ordd (t : List Nat) (os : List Nat) : Prop where
  perm : os.Perm (List.range t.length)
  lt : os.Pairwise (Lt t)
theorem Ordd.mem {os : List Nat} (O : Ordd t os) {p : Nat} : p ∈ os ↔ p < t.length := by rw [O.perm.mem_iff, List.mem_range]
theorem Ordd.len {os : List Nat} (O : Ordd t os) : os.length = t.length := by rw [O.perm.length_eq, List.length_range]
theorem Ordd.nodup {os : List Nat} (O : Ordd t os) : os.Nodup := O.perm.nodup_iff.mpr List.nodup_range
def nearF (t : List Nat) (os : List Nat) : List Nat := (List.range (os.length - 1)).map fun r => L t (os.getD r 0) (os.getD (r + 1) 0)
theorem ordd_of {ys : List (Nat × Nat)} (hb : ∀ o ∈ t, o < 256) (hp : ys.Perm ((List.range t.length).map fun p => (top t p t.length, p))) (hs : ys.Pairwise fun a b => a.1 < b.1 ∨ (a.1 = b.1 ∧ a.2 ≤ b.2)) :
    Ordd t (ys.map (·.2)) ∧ ys = (ys.map (·.2)).map fun p => (top t p t.length, p) := by
  have hm : ∀ y ∈ ys, y.2 < t.length ∧ y = (top t y.2 t.length, y.2) := fun y hy => by
    have := hp.mem_iff.mp hy
    rw [List.mem_map] at this
    obtain ⟨p, h1, rfl⟩ := this
    exact ⟨List.mem_range.mp h1, rfl⟩
  have hperm : (ys.map (·.2)).Perm (List.range t.length) := by
    have := hp.map (·.2)
    simpa [List.map_map, Function.comp_def] using this
  refine ⟨⟨hperm, ?_⟩, ?_⟩
  · have nd : (ys.map (·.2)).Nodup := hperm.nodup_iff.mpr List.nodup_range
    rw [List.pairwise_map]
    rw [List.Nodup, List.pairwise_map] at nd
    refine (hs.and nd).imp_of_mem ?_
    rintro a b ha hb' ⟨h1, h2⟩
    obtain ⟨a1, a2⟩ := hm a ha
    obtain ⟨b1, b2⟩ := hm b hb'
    have e1 : a.1 = top t a.2 t.length := by rw [a2]
    have e2 : b.1 = top t b.2 t.length := by rw [b2]
    have := top_ne hb h2 a1 b1
    exact top_lt_iff hb h2 a1 b1 (by omega)
  · rw [List.map_map]
    have : ∀ y ∈ ys, ((fun p => (top t p t.length, p)) ∘ (·.2)) y = y := fun y hy => (hm y hy).2.symm
    rw [List.map_congr_left this, List.map_id']
end
end Mine
end

section
open PySem PySem.Calls PyProof.Rows PySem.W
set_option maxRecDepth 20000
namespace Mine
theorem fold_map {α : Type} {F : V → (List V → AHeap → Prop) → List V → AHeap → Prop} {Q : List V → AHeap → Prop} {σ : AHeap} (P : α → Prop) (g : α → V) (h : α → List V) (N : Nat)
    (step : ∀ x (acc : List V) K, P x → acc.length + (h x).length ≤ N → K (acc ++ h x) σ → F (g x) K acc σ) :
    ∀ (xs : List α) (acc : List V), (∀ x ∈ xs, P x) → acc.length + (xs.flatMap h).length ≤ N → Q (acc ++ xs.flatMap h) σ → (xs.map g).foldr F Q acc σ
  | [], acc, _, _, hQ => by simpa using hQ
  | x :: xs, acc, hP, hN, hQ => by
    rw [List.flatMap_cons, List.length_append] at hN
    refine step x acc _ (hP x List.mem_cons_self) (by omega) ?_
    refine fold_map P g h N step xs (acc ++ h x) (fun y hy => hP y (List.mem_cons_of_mem _ hy)) (by rw [List.length_append]; omega) ?_
    rw [List.append_assoc]
    exact hQ
theorem flat1 {α β : Type} (f : α → β) (xs : List α) : xs.flatMap (fun x => [f x]) = xs.map f := by
  induction xs with
  | nil => rfl
  | cons a r ih => simp [List.flatMap_cons, ih]
section
variable {X : Cx} {k : Nat}
variable {σ : AHeap} {b : Addr} {t : List Nat} {Q : V → AHeap → Prop}
def intV (n : Nat) : V := .int n
theorem ipow_nat (a b : Nat) : ipow (a : Int) ((b : Nat) : Int) = ((a ^ b : Nat) : Int) := by
  unfold ipow; simp
theorem numbers_c (F : Fns X) (hb : ∀ o ∈ t, o < 256) (h0 : 0 < t.length) (hn : t.length ≤ 20) : WC X (k + 1) (.ref 343) [.bytes t] σ (fun v σ' => v = .list ((List.range t.length).map fun p => intV (top t p t.length)) ∧ Ext σ σ') := by
  refine wc_of F F.law_numbers rfl ?_
  try simp only [wpSs, wpS, wpE, wpEs, wpI, binP, binI, lenP, asItems, asList, asFrozen, asgP, setAll, retQ, initR, revP, mkList, List.getElem?_cons_zero, List.set_cons_zero, List.set_cons_succ, List.cons_append, List.nil_append, List.replicate_succ, List.replicate_zero, Nat.reduceSub, Nat.reduceAdd, Option.some.injEq, exists_eq_left', ne_eq, reduceCtorEq, not_false_eq_true, true_and, if_true, Nat.reduceLeDiff, List.length_cons, List.length_nil, List.length_map, f_law_numbers, f_law_numbers_b]
  intro a ha
  try simp only [wpSs, wpS, wpE, wpEs, wpI, truthP, cmpP, copI, binP, binI, attrP, lenP, asItems, asList, asFrozen, methP, asgP, setAll, setattrP, putF, retQ, initR, idxP, lastP, bndP, sliceP, revP, dgetP, isDict, range1P, range2P, range3P, appendP, frzP, V.isNone, mkList, List.getElem?_cons_zero, List.getElem?_cons_succ, List.set_cons_zero, List.set_cons_succ, List.set_nil, List.cons_append, List.nil_append, List.replicate_succ, List.replicate_zero, Nat.reduceSub, Nat.reduceAdd, Option.some.injEq, exists_eq_left', ne_eq, reduceCtorEq, not_false_eq_true, true_and, and_true, if_true, if_false, Bool.true_eq_false, Bool.false_eq_true, Option.isSome_some, Nat.reduceBEq, List.lookup_nil, lookup_hit, lookup_miss, bne_self_eq_false, Bool.not_true, Bool.not_false, decide_true, decide_false, ite_true, ite_false, reduceIte, Nat.reduceEqDiff, Nat.reduceLT, Nat.reduceLeDiff, List.length_cons, List.length_nil, decide_eq_true_eq, Bool.not_eq_true', decide_eq_false_iff_not, Int.toNat_natCast, List.length_map, Bool.and_eq_true, Bool.or_eq_true, Bool.not_eq_eq_eq_not, Bool.not_eq_true, Bool.not_eq_false]
  have e1 : (t.length : Int) - 1 = ((t.length - 1 : Nat) : Int) := by omega
  rw [e1]
  have ep : ipow 257 ((t.length - 1 : Nat) : Int) = ((257 ^ (t.length - 1) : Nat) : Int) := ipow_nat 257 _
  rw [ep]
  have eb : Builtin.Int.intBits 257 = 9 := by decide +kernel
  rw [eb]
  refine ⟨by omega, by omega, ?_⟩
  refine forP_inv (fun items ρ σ' => ∃ j z, j ≤ t.length ∧ items = ((t.take j).reverse).map (fun (n : Nat) => V.int (n : Int)) ∧
      ρ = [.bytes t, .ref a, .int (top t j t.length : Nat), .int (257 ^ (t.length - 1) : Nat), z] ∧ σ' = upd σ a (.list ((List.range (t.length - j)).map fun i => intV (top t (t.length - 1 - i) t.length)))) ?_ ?_ _ _ _ ⟨t.length, .undef, Nat.le_refl _, ?_, ?_, ?_⟩
  · rintro x r ρ σ' K ⟨j, z, hj, hi, rfl, rfl⟩ hK _ _
    cases j with
    | zero => simp at hi
    | succ j =>
      have hj' : j < t.length := by omega
      have ht : t[j]? = some t[j] := List.getElem?_eq_getElem hj'
      rw [List.take_add_one, ht] at hi
      simp only [Option.toList_some, List.reverse_append, List.reverse_cons, List.reverse_nil, List.nil_append, List.cons_append, List.map_cons, List.cons.injEq] at hi
      obtain ⟨rfl, rfl⟩ := hi
      have hx := hb t[j] (List.getElem_mem hj')
      try simp only [wpSs, wpS, wpE, binP, binI, asList, asgP, appendP, List.getElem?_cons_zero, List.getElem?_cons_succ, List.set_cons_zero, List.set_cons_succ, Option.some.injEq, exists_eq_left', ne_eq, reduceCtorEq, not_false_eq_true, true_and, Option.isSome_some, List.length_map, f_law_numbers_b1, upd_self, upd_upd]
      refine ⟨IntMulOk.of_left (bits_small (by omega)), by omega, dgp_small (by decide), by simp; omega, ?_⟩
      refine hK _ _ ⟨j, .int (t[j] : Nat), by omega, rfl, ?_, ?_⟩
      · have hd : dg t j = t[j] + 1 := dg_some ht
        have e2 : ((t[j] : Nat) + 1 : Int) * ((257 ^ (t.length - 1) : Nat) : Int) + ((top t (j + 1) t.length : Nat) : Int).fdiv 257 = ((top t j t.length : Nat) : Int) := by
          have e3 : ((top t (j + 1) t.length : Nat) : Int).fdiv 257 = ((top t (j + 1) t.length / 257 : Nat) : Int) := by
            rw [Int.fdiv_eq_ediv_of_nonneg _ (by omega)]; rfl
          obtain ⟨m, hm⟩ : ∃ m, t.length = m + 1 := ⟨t.length - 1, by omega⟩
          rw [e3]
          rw [hm]
          rw [top_div hb, top_rec, hd]
          simp only [Nat.add_sub_cancel]
          push_cast
          rfl
        rw [e2]
      · congr 2
        rw [show t.length - j = (t.length - (j + 1)) + 1 by omega, List.range_succ, List.map_append]
        congr 1
        simp only [List.map_cons, List.map_nil, List.cons.injEq, and_true]
        rw [show t.length - 1 - (t.length - (j + 1)) = j by omega]
        have hd : dg t j = t[j] + 1 := dg_some ht
        unfold intV
        have e3 : ((top t (j + 1) t.length : Nat) : Int).fdiv 257 = ((top t (j + 1) t.length / 257 : Nat) : Int) := by
          rw [Int.fdiv_eq_ediv_of_nonneg _ (by omega)]; rfl
        congr 1
        obtain ⟨m, hm⟩ : ∃ m, t.length = m + 1 := ⟨t.length - 1, by omega⟩
        rw [e3]
        rw [hm]
        rw [top_div hb, top_rec, hd]
        simp only [Nat.add_sub_cancel]
        push_cast
        rfl
  · rintro ρ σ' ⟨j, z, hj, hi, rfl, rfl⟩
    have hj0 : j = 0 := by
      have := congrArg List.length hi
      simp at this
      omega
    subst hj0
    try simp only [List.getElem?_cons_zero, List.getElem?_cons_succ, Option.some.injEq, exists_eq_left', reduceCtorEq, not_false_eq_true, true_and, upd_self]
    refine ⟨?_, .upd ha⟩
    congr 1
    apply List.ext_getElem
    · simp
    · intro i h1 h2
      simp at h1 h2 ⊢
      congr 2
      omega
  · rw [List.take_length]
  · rw [top_end]; rfl
  · simp
theorem common_c (F : Fns X) (hb : ∀ o ∈ t, o < 256) {p q : Nat} (hp : p < t.length) (hq : q < t.length) (n : p ≠ q) (hn : t.length ≤ 20) (hQ : Q (.int (L t p q)) σ) :
    WC X (k + 1) (.ref 350) [.int (top t p t.length), .int (top t q t.length), .int t.length] σ Q := by
  refine wc_of F F.law_common rfl ?_
  try simp only [wpSs, wpS, wpE, truthP, asgP, retQ, initR, List.set_cons_zero, List.set_cons_succ, List.cons_append, List.nil_append, List.replicate_succ, List.replicate_zero, Nat.reduceSub, ne_eq, f_law_common, f_law_common_b]
  have hL := (L_le (t := t) (p := p) (q := q)).1
  have hL2 := (L_le (t := t) (p := p) (q := q)).2
  refine ⟨L t p q + 1, whileP_inv (fun m ρ σ' => ∃ c : Nat, c ≤ L t p q ∧ ρ = [.int (top t p t.length), .int (top t q t.length), .int t.length, .int c] ∧ m = L t p q - c ∧ σ' = σ) ?_ _ (L t p q) _ _ (by omega) ⟨0, by omega, rfl, by omega, rfl⟩⟩
  rintro m ρ σ' K ⟨c, hc, rfl, rfl, rfl⟩ hK _ _
  try simp only [wpE, cmpP, copI, binP, binI, List.getElem?_cons_zero, List.getElem?_cons_succ, Option.some.injEq, exists_eq_left', ne_eq, reduceCtorEq, not_false_eq_true, true_and, decide_eq_true_eq, f_law_common_c1]
  have e1 : (t.length : Int) - (c : Int) - 1 = ((t.length - (c + 1) : Nat) : Int) := by omega
  rw [e1]
  have ep : ipow 257 ((t.length - (c + 1) : Nat) : Int) = ((257 ^ (t.length - (c + 1)) : Nat) : Int) := ipow_nat 257 _
  rw [ep]
  have eb : Builtin.Int.intBits 257 = 9 := by decide +kernel
  rw [eb]
  have hpos : 0 < 257 ^ (t.length - (c + 1)) := Nat.pow_pos (by omega)
  have hsm : ((257 ^ (t.length - (c + 1)) : Nat) : Int).natAbs < 2 ^ 200 := by
    rw [Int.natAbs_natCast]
    exact Nat.lt_of_le_of_lt (Nat.pow_le_pow_right (by omega) (show t.length - (c + 1) ≤ 20 by omega)) (by decide +kernel)
  refine ⟨by omega, by omega, by omega, dgp_small hsm, by omega, by omega, by omega, dgp_small hsm, ?_⟩
  have ed : ∀ r, ((top t r t.length : Nat) : Int).fdiv ((257 ^ (t.length - (c + 1)) : Nat) : Int) = ((top t r (c + 1) : Nat) : Int) := fun r => by
    rw [Int.fdiv_eq_ediv_of_nonneg _ (by omega)]
    have := top_divs (p := r) hb (c + 1) (t.length - (c + 1))
    rw [show c + 1 + (t.length - (c + 1)) = t.length by omega] at this
    rw [← this]; rfl
  rw [ed, ed]
  by_cases h : c < L t p q
  · refine pos ?_ ?_
    · congr 1
      exact (top_eq hb _).mpr fun i hi => L_eq (by omega)
    · try simp only [wpSs, wpS, wpE, binP, binI, asList, asgP, List.getElem?_cons_zero, List.getElem?_cons_succ, List.set_cons_zero, List.set_cons_succ, Option.some.injEq, exists_eq_left', ne_eq, reduceCtorEq, not_false_eq_true, true_and, f_law_common_b2]
      exact hK (L t p q - (c + 1)) _ _ (by omega) ⟨c + 1, by omega, rfl, rfl, rfl⟩
  · refine neg ?_ ?_
    · intro e
      have e' : top t p (c + 1) = top t q (c + 1) := by omega
      have := (top_eq hb _).mp e' c (by omega)
      rw [show c = L t p q by omega] at this
      exact L_ne n hp hq this
    · try simp only [wpSs, wpS, wpE, wpEs, wpI, truthP, cmpP, copI, binP, binI, attrP, lenP, asItems, asList, asFrozen, methP, asgP, setAll, setattrP, putF, retQ, initR, idxP, lastP, bndP, sliceP, revP, dgetP, isDict, range1P, range2P, range3P, appendP, frzP, V.isNone, mkList, List.getElem?_cons_zero, List.getElem?_cons_succ, List.set_cons_zero, List.set_cons_succ, List.set_nil, List.cons_append, List.nil_append, List.replicate_succ, List.replicate_zero, Nat.reduceSub, Nat.reduceAdd, Option.some.injEq, exists_eq_left', ne_eq, reduceCtorEq, not_false_eq_true, true_and, and_true, if_true, if_false, Bool.true_eq_false, Bool.false_eq_true, Option.isSome_some, Nat.reduceBEq, List.lookup_nil, lookup_hit, lookup_miss, bne_self_eq_false, Bool.not_true, Bool.not_false, decide_true, decide_false, ite_true, ite_false, reduceIte, Nat.reduceEqDiff, Nat.reduceLT, Nat.reduceLeDiff, List.length_cons, List.length_nil, decide_eq_true_eq, Bool.not_eq_true', decide_eq_false_iff_not, Int.toNat_natCast, List.length_map, Bool.and_eq_true, Bool.or_eq_true, Bool.not_eq_eq_eq_not, Bool.not_eq_true, Bool.not_eq_false]
      rw [show c = L t p q by omega]
      exact hQ
def ordV (os : List Nat) : V := .list (os.map intV)
theorem intsOf_int : ∀ xs : List Int, intsOf (xs.map .int) = some xs
  | [] => rfl
  | a :: r => by rw [List.map_cons, intsOf, intsOf_int r]; rfl
theorem pairsOf_pair : ∀ xs : List (Int × Int), pairsOf (xs.map pairV) = some xs
  | [] => rfl
  | a :: r => by
    show pairsOf (.tup [.int a.1, .int a.2] :: r.map pairV) = _
    rw [pairsOf, pairsOf_pair r]; rfl
theorem intsOf_pair {xs : List (Int × Int)} (h : xs ≠ []) : intsOf (xs.map pairV) = none := by
  cases xs with
  | nil => exact absurd rfl h
  | cons a r => rfl
theorem order_c (F : Fns X) (hb : ∀ o ∈ t, o < 256) (h0 : 2 ≤ t.length) (hn : t.length ≤ 20) :
    WC X (k + 2) (.ref 355) [.bytes t] σ (fun v σ' => (∃ os, Ordd t os ∧ v = .tup [ordV os, .list ((nearF t os).map intV)]) ∧ Ext σ σ') := by
  refine wc_of F F.law_order rfl ?_
  try simp only [wpSs, wpS, wpE, wpEs, binP, binI, lenP, asItems, asList, asgP, setAll, retQ, initR, idxP, mkList, List.getElem?_cons_zero, List.getElem?_cons_succ, List.set_cons_zero, List.set_cons_succ, List.cons_append, List.nil_append, List.replicate_succ, List.replicate_zero, Nat.reduceSub, Nat.reduceAdd, Option.some.injEq, exists_eq_left', ne_eq, reduceCtorEq, not_false_eq_true, true_and, if_false, Bool.false_eq_true, Nat.reduceLeDiff, List.length_cons, List.length_nil, List.length_map, f_law_order, f_law_order_b]
  refine (numbers_c (k := k) F hb (by omega) hn).mono fun v σ1 ⟨ev, E1⟩ => ?_
  subst ev
  try simp only [wpE, wpEs, wpI, truthP, binP, binI, asItems, asList, asFrozen, asgP, idxP, range1P, mkList, List.getElem?_cons_zero, List.getElem?_cons_succ, List.set_cons_zero, List.set_cons_succ, Nat.reduceAdd, Option.some.injEq, exists_eq_left', ne_eq, reduceCtorEq, not_false_eq_true, true_and, if_true, if_false, Bool.false_eq_true, Nat.reduceLeDiff, List.length_cons, List.length_nil, Int.toNat_natCast, wpG, clr, Gs.slots, Tg.slots, Option.getD_some, List.append_nil, List.foldl_cons, List.foldl_nil, small]
  refine ⟨by omega, ?_⟩
  refine fold_map (fun i => i < t.length) (fun (i : Nat) => V.int (i : Int)) (fun i => [pairV ((top t i t.length : Nat), (i : Nat))]) 900 ?_ _ _ (fun i hi => List.mem_range.mp hi |> fun h => by omega) ?_ ?_
  · intro i acc K hi hN hK
    simp only [List.length_singleton] at hN
    try simp only [reduceCtorEq, not_false_eq_true, true_and, Int.toNat_natCast]
    refine ⟨by omega, by omega, intV (top t i t.length), by simp [hi], ?_⟩
    exact hK
  · rw [flat1]; simp; omega
  rw [flat1, List.nil_append]
  have hx : (List.range t.length).map (fun i => pairV ((top t i t.length : Nat), (i : Nat))) = ((List.range t.length).map fun i => (((top t i t.length : Nat) : Int), ((i : Nat) : Int))).map pairV := by simp
  rw [hx]
  try simp only [asList, List.length_map, sortP, pairsOf_pair]
  have hne : ((List.range t.length).map fun i => (((top t i t.length : Nat) : Int), ((i : Nat) : Int))) ≠ [] := by
    intro e
    have := congrArg List.length e
    rw [List.length_map, List.length_range] at this
    simp only [List.length_nil] at this
    omega
  rw [intsOf_pair hne]
  refine ⟨by simp; omega, by simp; omega, ?_⟩
  try simp only []
  refine ⟨by simp; omega, ?_, ?_⟩
  · rw [List.Nodup, List.pairwise_map]
    refine List.Pairwise.imp ?_ (List.nodup_range (n := t.length))
    intro a b hab e
    have := (Prod.mk.inj e).2
    exact hab (by omega)
  intro y hy1 hy2
  have hnn : ∀ e ∈ y, e = (((e.1.toNat : Nat) : Int), ((e.2.toNat : Nat) : Int)) := fun e he => by
    have := hy1.mem_iff.mp he
    rw [List.mem_map] at this
    obtain ⟨i, _, rfl⟩ := this
    simp
  generalize hys : y.map (fun e => (e.1.toNat, e.2.toNat)) = ys
  have hyy : y = ys.map fun a => (((a.1 : Nat) : Int), ((a.2 : Nat) : Int)) := by
    rw [← hys, List.map_map]
    conv => lhs; rw [← List.map_id' y]
    exact List.map_congr_left fun e he => hnn e he
  have hp : ys.Perm ((List.range t.length).map fun p => (top t p t.length, p)) := by
    rw [← hys]
    have := hy1.map (fun e : Int × Int => (e.1.toNat, e.2.toNat))
    simpa [List.map_map, Function.comp_def] using this
  have hs : ys.Pairwise fun a b => a.1 < b.1 ∨ (a.1 = b.1 ∧ a.2 ≤ b.2) := by
    rw [hyy, List.pairwise_map] at hy2
    refine hy2.imp fun {a b} h => ?_
    unfold pairLe at h
    simp only at h
    omega
  obtain ⟨O, hO⟩ := ordd_of hb hp hs
  generalize ho : ys.map (·.2) = os at O hO
  subst hyy
  have hml := O.len
  try simp only [wpSs, wpS, wpE, wpEs, wpI, truthP, cmpP, copI, binP, binI, attrP, lenP, asItems, asList, asFrozen, methP, asgP, setAll, setattrP, putF, retQ, initR, idxP, lastP, bndP, sliceP, revP, dgetP, isDict, range1P, range2P, range3P, appendP, frzP, V.isNone, mkList, List.getElem?_cons_zero, List.getElem?_cons_succ, List.set_cons_zero, List.set_cons_succ, List.set_nil, List.cons_append, List.nil_append, List.replicate_succ, List.replicate_zero, Nat.reduceSub, Nat.reduceAdd, Option.some.injEq, exists_eq_left', ne_eq, reduceCtorEq, not_false_eq_true, true_and, and_true, if_true, if_false, Bool.true_eq_false, Bool.false_eq_true, Option.isSome_some, Nat.reduceBEq, List.lookup_nil, lookup_hit, lookup_miss, bne_self_eq_false, Bool.not_true, Bool.not_false, decide_true, decide_false, ite_true, ite_false, reduceIte, Nat.reduceEqDiff, Nat.reduceLT, Nat.reduceLeDiff, List.length_cons, List.length_nil, decide_eq_true_eq, Bool.not_eq_true', decide_eq_false_iff_not, Int.toNat_natCast, List.length_map, Bool.and_eq_true, Bool.or_eq_true, Bool.not_eq_eq_eq_not, Bool.not_eq_true, Bool.not_eq_false]
  rw [hO, List.map_map, List.map_map]
  change List.foldr (β := List V → AHeap → Prop) _ _ (os.map fun i => V.tup [.int (top t i t.length : Nat), .int (i : Nat)]) [] σ1
  refine fold_map (fun i => i < t.length) (fun i => V.tup [.int (top t i t.length : Nat), .int (i : Nat)]) (fun i => [intV i]) 900 ?_ _ _ (fun i hi => O.mem.mp hi) ?_ ?_
  · intro i acc K hi hN hK
    simp only [List.length_singleton] at hN
    try simp only [setAll, List.getElem?_cons_zero, List.getElem?_cons_succ, List.set_cons_zero, List.set_cons_succ, Nat.reduceAdd, Option.some.injEq, exists_eq_left', reduceCtorEq, not_false_eq_true, true_and, List.length_cons, List.length_nil]
    exact ⟨by omega, hK⟩
  · rw [flat1]; simp; omega
  rw [flat1, List.nil_append]
  refine ⟨by simp; omega, by omega, ?_⟩
  have e2 : ((t.length : Int) - 1).toNat = t.length - 1 := by omega
  rw [e2]
  refine fold_map (fun i => i + 1 < t.length) (fun (i : Nat) => V.int (i : Int)) (fun i => [intV (L t (os.getD i 0) (os.getD (i + 1) 0))]) 900 ?_ _ _ (fun i hi => by rw [List.mem_range] at hi; omega) ?_ ?_
  · intro i acc K hi hN hK
    simp only [List.length_singleton] at hN
    have g : ∀ j, j < t.length → (os.map fun i => intV i)[j]? = some (intV (os.getD j 0)) ∧ os.getD j 0 < t.length := fun j hj => by
      have hj' : j < os.length := by omega
      have e : os[j]? = some os[j] := List.getElem?_eq_getElem hj'
      rw [List.getElem?_map, e, List.getD_eq_getElem?_getD, e]
      exact ⟨rfl, O.mem.mp (List.getElem_mem hj')⟩
    have g2 : ∀ j, j < t.length → ((List.range t.length).map fun p => intV (top t p t.length))[j]? = some (intV (top t j t.length)) := fun j hj => by simp [hj]
    have nd : os.getD i 0 ≠ os.getD (i + 1) 0 := by
      have hn := O.nodup
      rw [List.getD_eq_getElem?_getD, List.getD_eq_getElem?_getD, List.getElem?_eq_getElem (by omega), List.getElem?_eq_getElem (by omega)]
      exact List.pairwise_iff_getElem.mp hn i (i + 1) (by omega) (by omega) (by omega)
    try simp only [reduceCtorEq, not_false_eq_true, true_and, Int.toNat_natCast]
    refine ⟨by omega, by omega, _, (g i (by omega)).1, ?_⟩
    try simp only [Int.toNat_natCast, intV]
    refine ⟨by omega, _, g2 _ (g i (by omega)).2, ?_⟩
    try simp only [intV]
    refine ⟨by omega, _, by rw [show ((i : Int) + 1).toNat = i + 1 by omega]; exact (g (i + 1) hi).1, ?_⟩
    try simp only [Int.toNat_natCast, intV]
    refine ⟨by omega, _, g2 _ (g (i + 1) hi).2, ?_⟩
    exact common_c F hb (g i (by omega)).2 (g (i + 1) hi).2 nd hn hK
  · rw [flat1]; simp; omega
  rw [flat1, List.nil_append]
  refine ⟨by simp; omega, ⟨os, O, ?_⟩, E1⟩
  unfold ordV nearF
  rw [hml, List.map_map]
  rfl
end
end Mine
end

section
open PySem PySem.Calls PyProof.Rows PySem.W
set_option maxRecDepth 20000
namespace Mine
section
variable {t : List Nat} {p w : Nat}
def nearP (p w o : Nat) : Bool := decide (o < p ∧ p - o ≤ w)
def sideV (t : List Nat) (p w : Nat) (l : List Nat) : V := .list ((l.filter (nearP p w)).map fun o => pairN (L t p o, o))
def Walk (t : List Nat) (p : Nat) (N os : List Nat) (row : Nat) : Nat → List (Nat × Nat) → Prop
  | _, [] => True
  | c, (g, o) :: r => (∃ e, N[g]? = some e ∧ L t p o = min c e) ∧ (if g < row then os[g]? = some o else os[g + 1]? = some o) ∧ o ≠ p ∧ Walk t p N os row (L t p o) r
theorem nearF_get {os : List Nat} {j : Nat} (h : j + 1 < os.length) : (nearF t os)[j]? = some (L t (os.getD j 0) (os.getD (j + 1) 0)) := by
  unfold nearF
  rw [List.getElem?_map, List.getElem?_range (by omega)]
  rfl
theorem getD_get {os : List Nat} {j : Nat} (h : j < os.length) : os[j]? = some (os.getD j 0) := by
  rw [List.getD_eq_getElem?_getD, List.getElem?_eq_getElem h]; rfl
theorem Ordd.lt_get {os : List Nat} (O : Ordd t os) {i j : Nat} (h : i < j) (hj : j < os.length) : Lt t (os.getD i 0) (os.getD j 0) := by
  have := List.pairwise_iff_getElem.mp O.lt i j (by omega) hj h
  rw [List.getD_eq_getElem?_getD, List.getD_eq_getElem?_getD, List.getElem?_eq_getElem hj, List.getElem?_eq_getElem (show i < os.length by omega)]
  exact this
theorem Ordd.get_lt {os : List Nat} (O : Ordd t os) {j : Nat} (hj : j < os.length) : os.getD j 0 < t.length := by
  rw [List.getD_eq_getElem?_getD, List.getElem?_eq_getElem hj]
  exact O.mem.mp (List.getElem_mem hj)
def leftL (os : List Nat) (row : Nat) : List (Nat × Nat) := (List.range row).map fun i => (row - 1 - i, os.getD (row - 1 - i) 0)
def rightL (os : List Nat) (row n : Nat) : List (Nat × Nat) := (List.range n).map fun i => (row + i, os.getD (row + i + 1) 0)
theorem left_walk {os : List Nat} (O : Ordd t os) {row : Nat} (hr : row < os.length) (hp : os.getD row 0 = p) : ∀ m c, m ≤ row → (m = row → c = t.length) → (m < row → c = L t p (os.getD m 0)) →
    Walk t p (nearF t os) os row c ((List.range m).map fun i => (m - 1 - i, os.getD (m - 1 - i) 0))
  | 0, c, _, _, _ => by simp [Walk]
  | m + 1, c, hm, h1, h2 => by
    rw [List.range_succ_eq_map, List.map_cons, List.map_map]
    have hlen := O.len
    have hlt := O.lt_get (i := m) (j := row) (by omega) hr
    rw [hp] at hlt
    have hmp := O.get_lt (j := m) (by omega)
    have hpp : p < t.length := by rw [← hp]; exact O.get_lt hr
    refine ⟨⟨_, by rw [show m + 1 - 1 - 0 = m by omega]; exact nearF_get (by omega), ?_⟩, ?_, ?_, ?_⟩
    · rw [show m + 1 - 1 - 0 = m by omega]
      rw [L_comm (Lt_ne hlt).symm hpp hmp]
      by_cases e : m + 1 = row
      · rw [h1 e, e, hp]
        have := (L_le (t := t) (p := os.getD m 0) (q := p)).1
        omega
      · rw [h2 (by omega), L_comm ?_ hpp (O.get_lt (by omega)), Nat.min_comm]
        · have h3 := O.lt_get (i := m) (j := m + 1) (by omega) (by omega)
          have h4 := O.lt_get (i := m + 1) (j := row) (by omega) hr
          rw [hp] at h4
          exact L_between hmp (O.get_lt (by omega)) hpp h3 h4
        · have h4 := O.lt_get (i := m + 1) (j := row) (by omega) hr
          rw [hp] at h4
          exact (Lt_ne h4).symm
    · rw [if_pos (by omega)]
      exact getD_get (by omega)
    · rw [show m + 1 - 1 - 0 = m by omega]; exact Lt_ne hlt
    · have ih := left_walk O hr hp m (L t p (os.getD (m + 1 - 1 - 0) 0)) (by omega) (by omega) (fun _ => by rw [show m + 1 - 1 - 0 = m by omega])
      have e : (List.range m).map ((fun i => (m + 1 - 1 - i, os.getD (m + 1 - 1 - i) 0)) ∘ Nat.succ) = (List.range m).map fun i => (m - 1 - i, os.getD (m - 1 - i) 0) := by
        apply List.map_congr_left
        intro i _
        simp only [Function.comp, Nat.succ_eq_add_one]
        rw [show m + 1 - 1 - (i + 1) = m - 1 - i by omega]
      rw [e]
      exact ih
theorem right_walk {os : List Nat} (O : Ordd t os) {row : Nat} (hr : row < os.length) (hp : os.getD row 0 = p) : ∀ m j c, row + j + m + 1 = os.length → (j = 0 → c = t.length) → (0 < j → c = L t p (os.getD (row + j) 0)) →
    Walk t p (nearF t os) os row c ((List.range m).map fun i => (row + j + i, os.getD (row + j + i + 1) 0))
  | 0, j, c, _, _, _ => by simp [Walk]
  | m + 1, j, c, hm, h1, h2 => by
    rw [List.range_succ_eq_map, List.map_cons, List.map_map]
    have hlen := O.len
    have hlt := O.lt_get (i := row) (j := row + j + 1) (by omega) (by omega)
    rw [hp] at hlt
    have hmp := O.get_lt (j := row + j + 1) (by omega)
    have hpp : p < t.length := by rw [← hp]; exact O.get_lt hr
    refine ⟨⟨_, by rw [Nat.add_zero]; exact nearF_get (by omega), ?_⟩, ?_, ?_, ?_⟩
    · rw [Nat.add_zero]
      by_cases e : j = 0
      · subst e
        simp only [h1 rfl, Nat.add_zero, hp]
        have := (L_le (t := t) (p := p) (q := os.getD (row + 1) 0)).1
        omega
      · rw [h2 (by omega)]
        have h3 := O.lt_get (i := row) (j := row + j) (by omega) (by omega)
        have h4 := O.lt_get (i := row + j) (j := row + j + 1) (by omega) (by omega)
        rw [hp] at h3
        exact L_between hpp (O.get_lt (by omega)) hmp h3 h4
    · rw [if_neg (by omega), Nat.add_zero]
      exact getD_get (by omega)
    · rw [Nat.add_zero]; exact (Lt_ne hlt).symm
    · have ih := right_walk O hr hp m (j + 1) (L t p (os.getD (row + j + 0 + 1) 0)) (by omega) (by omega) (fun _ => by rw [show row + (j + 1) = row + j + 0 + 1 by omega])
      have e : (List.range m).map ((fun i => (row + j + i, os.getD (row + j + i + 1) 0)) ∘ Nat.succ) = (List.range m).map fun i => (row + (j + 1) + i, os.getD (row + (j + 1) + i + 1) 0) := by
        apply List.map_congr_left
        intro i _
        simp only [Function.comp, Nat.succ_eq_add_one]
        rw [show row + j + (i + 1) = row + (j + 1) + i by omega]
      rw [e]
      exact ih
end
section
variable {X : Cx} {k : Nat}
variable {σ : AHeap} {b : Addr} {t : List Nat} {Q : V → AHeap → Prop}
theorem sides_in {p w row : Nat} {os N : List Nat} {s : Addr} {gv a : V} {R : Fl → List V → AHeap → Prop} : ∀ (gs : List (Nat × Nat)) (c : Nat) (acc : List V) (z1 z2 : V), Walk t p N os row c gs → acc.length + gs.length ≤ 900 →
    (∀ c z1 z2, R .next [ordV os, .list (N.map intV), .int p, .int w, .int row, a, gv, c, .ref s, z1, z2] (upd σ s (.list (acc ++ (((gs.map (·.2)).filter (nearP p w)).map fun o => pairN (L t p o, o)))))) →
    forP (Tg.v 9) (fun ρ σ Q => wpSs X k f_law_sides_b1 ρ σ Q) R (gs.map fun x => V.int (x.1 : Nat)) [ordV os, .list (N.map intV), .int p, .int w, .int row, a, gv, .int c, .ref s, z1, z2] (upd σ s (.list acc))
  | [], c, acc, z1, z2, _, _, hR => by simpa [forP] using hR _ _ _
  | (g, o) :: gs, c, acc, z1, z2, ⟨⟨e, h1, h2⟩, h3, h4, hw⟩, hlen, hR => by
    simp only [List.map_cons, forP]
    have IH := fun (acc : List V) z1 z2 => sides_in (R := R) (gv := gv) (a := a) (s := s) (w := w) gs (L t p o) acc z1 z2 hw
    generalize hK : forP _ _ R (gs.map _) = K at IH
    simp only [List.length_cons] at hlen
    unfold ordV at IH hR ⊢
    try simp only [wpSs, wpS, wpE, wpEs, truthP, cmpP, copI, binP, binI, asItems, asList, asgP, idxP, appendP, List.getElem?_cons_zero, List.getElem?_cons_succ, List.set_cons_zero, List.set_cons_succ, Nat.reduceAdd, Option.some.injEq, exists_eq_left', ne_eq, reduceCtorEq, not_false_eq_true, true_and, if_false, Bool.false_eq_true, Nat.reduceLeDiff, List.length_cons, List.length_nil, decide_eq_true_eq, Int.toNat_natCast, f_law_sides_b1]
    refine ⟨by omega, _, by rw [List.getElem?_map, h1]; rfl, ?_⟩
    try simp only [intV]
    have em : min (c : Int) (e : Int) = ((L t p o : Nat) : Int) := by omega
    rw [em]
    have fin : (if 0 < (p : Int) - (o : Int) then if (p : Int) - (o : Int) ≤ (w : Int) then
          (match upd σ s (AObj.list acc) s with | some (.list l) => some l | x => none).isSome = true ∧ (match upd σ s (AObj.list acc) s with | some (.list l) => l.length < 1000 ∧ K [.list (os.map intV), .list (N.map intV), .int p, .int w, .int row, a, gv, .int (L t p o), .ref s, .int (g : Nat), .int o] (upd (upd σ s (AObj.list acc)) s (.list (l ++ [.tup [.int (L t p o), .int o]]))) | x => False)
          else K [.list (os.map intV), .list (N.map intV), .int p, .int w, .int row, a, gv, .int (L t p o), .ref s, .int (g : Nat), .int o] (upd σ s (AObj.list acc))
        else K [.list (os.map intV), .list (N.map intV), .int p, .int w, .int row, a, gv, .int (L t p o), .ref s, .int (g : Nat), .int o] (upd σ s (AObj.list acc))) := by
      by_cases hn : o < p ∧ p - o ≤ w
      · refine pos (by omega) (pos (by omega) ?_)
        try simp only [true_and, Option.isSome_some, upd_self]
        refine ⟨by omega, ?_⟩
        rw [upd_upd]
        refine IH _ _ _ (by simp; omega) fun c z1 z2 => ?_
        have := hR c z1 z2
        rw [List.map_cons, List.filter_cons_of_pos (by simpa [nearP] using hn)] at this
        simpa [pairN] using this
      · have : K [.list (os.map intV), .list (N.map intV), .int p, .int w, .int row, a, gv, .int (L t p o), .ref s, .int (g : Nat), .int o] (upd σ s (AObj.list acc)) := by
          refine IH _ _ _ (by omega) fun c z1 z2 => ?_
          have := hR c z1 z2
          rw [List.map_cons, List.filter_cons_of_neg (by simpa [nearP] using hn)] at this
          simpa using this
        split
        · split
          · omega
          · exact this
        · exact this
    simp only [true_and, Option.isSome_some, upd_self] at fin
    by_cases hg : g < row
    · rw [if_pos hg] at h3
      refine pos (by omega) ⟨by omega, _, by rw [List.getElem?_map, h3]; rfl, ?_⟩
      try simp only [reduceCtorEq, not_false_eq_true, true_and, Option.isSome_some, intV, upd_self]
      exact fin
    · rw [if_neg hg] at h3
      refine neg (by omega) ⟨by omega, _, by rw [List.getElem?_map, show ((g : Int) + 1).toNat = g + 1 by omega, h3]; rfl, ?_⟩
      try simp only [reduceCtorEq, not_false_eq_true, true_and, Option.isSome_some, intV, upd_self]
      exact fin
theorem idxOf_intV {os : List Nat} {p : Nat} {Q : Int → Prop} (h : p ∈ os) (hQ : ∀ row : Nat, row < os.length → os.getD row 0 = p → Q row) : indexP (.list (os.map intV)) (.int p) σ Q := by
  try simp only [asList, indexP]
  have e : os.map intV = (os.map fun (n : Nat) => (n : Int)).map .int := by rw [List.map_map]; rfl
  rw [e, intsOf_int]
  have hm : (p : Int) ∈ os.map fun (n : Nat) => (n : Int) := List.mem_map.mpr ⟨p, h, rfl⟩
  refine ⟨hm, hQ _ (by have := List.idxOf_lt_length_of_mem hm; simpa using this) ?_⟩
  have h1 := List.idxOf_lt_length_of_mem hm
  have h2 := List.getElem_idxOf h1
  rw [List.length_map] at h1
  rw [List.getElem_map] at h2
  rw [List.getD_eq_getElem?_getD, List.getElem?_eq_getElem h1]
  show os[_] = p
  omega
theorem sides_c (F : Fns X) {os : List Nat} (O : Ordd t os) {p w : Nat} (hp : p < t.length) (hn : t.length ≤ 20) :
    WC X (k + 1) (.ref 362) [ordV os, .list ((nearF t os).map intV), .int p, .int w] σ (fun v σ' => (∃ row, row < os.length ∧ os.getD row 0 = p ∧
      v = .list [sideV t p w ((leftL os row).map (·.2)), sideV t p w ((rightL os row (os.length - 1 - row)).map (·.2))]) ∧ Ext σ σ') := by
  refine wc_of F F.law_sides rfl ?_
  have hlen := O.len
  unfold ordV
  try simp only [wpSs, wpS, wpE, wpEs, wpI, binP, binI, lenP, asItems, asList, asFrozen, asgP, setAll, retQ, initR, range2P, range3P, frzP, mkList, List.getElem?_cons_zero, List.getElem?_cons_succ, List.set_cons_zero, List.set_cons_succ, List.cons_append, List.nil_append, List.replicate_succ, List.replicate_zero, Nat.reduceSub, Nat.reduceAdd, Option.some.injEq, exists_eq_left', ne_eq, reduceCtorEq, not_false_eq_true, true_and, if_true, if_false, Bool.false_eq_true, Option.isSome_some, Nat.reduceLeDiff, List.length_cons, List.length_nil, List.length_map, f_law_sides, f_law_sides_b]
  refine idxOf_intV (O.mem.mpr hp) fun row hr he => ?_
  intro a ha
  have hnl : (nearF t os).length = os.length - 1 := by unfold nearF; simp
  try simp only [wpSs, wpS, wpE, wpEs, wpI, lenP, asItems, asList, asFrozen, asgP, setAll, appendP, frzP, mkList, List.getElem?_cons_zero, List.getElem?_cons_succ, List.set_cons_zero, List.set_cons_succ, Nat.reduceAdd, Option.some.injEq, exists_eq_left', ne_eq, reduceCtorEq, not_false_eq_true, true_and, if_true, Nat.reduceLeDiff, List.length_cons, List.length_nil, List.length_map, small, forP, f_law_sides_b2]
  have nl : (List.range ((row : Int) - 1 - -1).toNat).length = row := by simp
  have nr : (List.range (((nearF t os).length : Int) - (row : Int)).toNat).length = os.length - 1 - row := by simp; omega
  refine ⟨by omega, by omega, by omega, by omega, by omega, by omega, fun c1 hc1 => ?_⟩
  have eL : (List.range ((row : Int) - 1 - -1).toNat).map (fun (i : Nat) => V.int ((row : Int) - 1 - (i : Int))) = (leftL os row).map fun x => V.int (x.1 : Nat) := by
    unfold leftL
    rw [List.map_map, show ((row : Int) - 1 - -1).toNat = row by omega]
    apply List.map_congr_left
    intro i hi
    rw [List.mem_range] at hi
    simp only [Function.comp]
    congr 1
    omega
  have eR : (List.range (((nearF t os).length : Int) - (row : Int)).toNat).map (fun (i : Nat) => V.int ((row : Int) + (i : Int))) = (rightL os row (os.length - 1 - row)).map fun x => V.int (x.1 : Nat) := by
    unfold rightL
    rw [List.map_map, show (((nearF t os).length : Int) - (row : Int)).toNat = os.length - 1 - row by omega]
    apply List.map_congr_left
    intro i hi
    simp only [Function.comp]
    congr 1
  rw [eR]
  rw [eL]
  obtain ⟨nc1, hc1'⟩ := upd_none hc1
  have wl := left_walk O hr he row t.length (by omega) (fun _ => rfl) (fun h => by omega)
  have wr := right_walk O hr he (os.length - 1 - row) 0 t.length (by omega) (fun _ => rfl) (fun h => by omega)
  simp only [Nat.add_zero] at wr
  refine sides_in (p := p) (w := w) (row := row) (os := os) (N := nearF t os) (σ := upd σ a (.list [])) (s := c1) (leftL os row) os.length [] _ _ (by rw [hlen]; exact wl) (by simp [leftL]; omega) fun c z1 z2 => ?_
  unfold ordV
  try simp only [List.getElem?_cons_zero, List.getElem?_cons_succ, List.set_cons_zero, List.set_cons_succ, List.nil_append, Option.some.injEq, exists_eq_left', reduceCtorEq, not_false_eq_true, true_and, Option.isSome_some, Nat.reduceLT, List.length_nil, List.length_map, upd_self, upd_ne nc1.symm, del_upd hc1, upd_upd]
  intro c2 hc2
  obtain ⟨nc2, hc2'⟩ := upd_none hc2
  refine sides_in (p := p) (w := w) (row := row) (os := os) (N := nearF t os) (s := c2) (rightL os row (os.length - 1 - row)) os.length [] _ _ (by rw [hlen] at wr ⊢; exact wr) (by simp [rightL]; omega) fun c z1 z2 => ?_
  unfold ordV
  try simp only [List.getElem?_cons_zero, List.getElem?_cons_succ, List.cons_append, List.nil_append, Nat.reduceAdd, Option.some.injEq, exists_eq_left', reduceCtorEq, not_false_eq_true, true_and, Option.isSome_some, Nat.reduceLT, List.length_cons, List.length_nil, upd_self, upd_ne nc2.symm, del_upd hc2, upd_upd]
  exact ⟨⟨row, hr, he, rfl⟩, by rw [del_upd ha]; exact .refl⟩
end
end Mine
end

section
open PySem PySem.Calls PyProof.Rows PySem.W
set_option maxRecDepth 20000
namespace Mine
section
variable {t : List Nat} {p w lim : Nat}
theorem walk_le {N os : List Nat} {row : Nat} : ∀ {gs : List (Nat × Nat)} {c : Nat}, Walk t p N os row c gs → (∀ x ∈ gs.map (·.2), L t p x ≤ c) ∧ (gs.map (·.2)).Pairwise fun x y => L t p y ≤ L t p x
  | [], c, _ => by simp
  | (g, o) :: r, c, ⟨⟨e, _, h⟩, _, _, hw⟩ => by
    obtain ⟨a, b⟩ := walk_le hw
    simp only [List.map_cons, List.pairwise_cons]
    refine ⟨fun x hx => ?_, a, b⟩
    rcases List.mem_cons.mp hx with rfl | hx
    · omega
    · have := a x hx; omega
structure Sides (t : List Nat) (p w : Nat) (l1 l2 : List Nat) : Prop where
  mem : ∀ o, (o ∈ l1 ∨ o ∈ l2) ↔ o ∈ cands p w
  d1 : l1.Pairwise fun x y => L t p y ≤ L t p x
  d2 : l2.Pairwise fun x y => L t p y ≤ L t p x
theorem sides_of {os : List Nat} (O : Ordd t os) (hp : p < t.length) {row : Nat} (hr : row < os.length) (he : os.getD row 0 = p) :
    Sides t p w (((leftL os row).map (·.2)).filter (nearP p w)) (((rightL os row (os.length - 1 - row)).map (·.2)).filter (nearP p w)) := by
  have wl := left_walk O hr he row t.length (by omega) (fun _ => rfl) (fun h => by omega)
  have wr := right_walk O hr he (os.length - 1 - row) 0 t.length (by omega) (fun _ => rfl) (fun h => by omega)
  simp only [Nat.add_zero] at wr
  refine ⟨fun o => ?_, (walk_le wl).2.filter _, (walk_le wr).2.filter _⟩
  rw [cands_mem, List.mem_filter, List.mem_filter]
  have hl := O.len
  have key : (o ∈ (leftL os row).map (·.2) ∨ o ∈ (rightL os row (os.length - 1 - row)).map (·.2)) ↔ ∃ j, j < os.length ∧ j ≠ row ∧ os.getD j 0 = o := by
    unfold leftL rightL
    simp only [List.map_map, List.mem_map, List.mem_range, Function.comp]
    constructor
    · rintro (⟨i, h1, rfl⟩ | ⟨i, h1, rfl⟩)
      · exact ⟨row - 1 - i, by omega, by omega, rfl⟩
      · exact ⟨row + i + 1, by omega, by omega, rfl⟩
    · rintro ⟨j, h1, h2, rfl⟩
      rcases Nat.lt_or_ge j row with h | h
      · exact .inl ⟨row - 1 - j, by omega, by rw [show row - 1 - (row - 1 - j) = j by omega]⟩
      · exact .inr ⟨j - row - 1, by omega, by rw [show row + (j - row - 1) + 1 = j by omega]⟩
  have np : nearP p w o = true ↔ o < p ∧ p - o ≤ w := by simp [nearP]
  rw [np]
  constructor
  · rintro (⟨_, h⟩ | ⟨_, h⟩) <;> exact h
  · intro h
    have ho : o ∈ os := O.mem.mpr (by omega)
    obtain ⟨j, hj, e⟩ := List.getElem_of_mem ho
    have hjr : j ≠ row := fun q => by
      subst q
      rw [List.getD_eq_getElem?_getD, List.getElem?_eq_getElem hj, e] at he
      simp at he
      omega
    rcases key.mpr ⟨j, hj, hjr, by rw [List.getD_eq_getElem?_getD, List.getElem?_eq_getElem hj, e]; rfl⟩ with q | q
    · exact .inl ⟨q, h⟩
    · exact .inr ⟨q, h⟩
theorem recs_last : ∀ {l : List Nat} {m c : Nat}, l.Pairwise (· > ·) → c ∈ l → m < fv t p lim c → (∀ c' ∈ l, c < c' → fv t p lim c' < fv t p lim c) → (∀ c' ∈ l, fv t p lim c' ≤ fv t p lim c) → (recs t p lim m l).getLast? = some (fv t p lim c, p - c)
  | [], m, c, _, h, _, _, _ => by cases h
  | a :: l, m, c, hp, h, hm, h1, h2 => by
    rw [List.pairwise_cons] at hp
    rw [recs]
    rcases List.mem_cons.mp h with rfl | h
    · rw [if_pos hm, recs_nil fun c' hc' => h2 c' (List.mem_cons_of_mem _ hc')]
      rfl
    · have h3 := h1 a List.mem_cons_self (hp.1 c h)
      split
      · rw [List.getLast?_cons, recs_last hp.2 h h3 (fun c' hc' => h1 c' (List.mem_cons_of_mem _ hc')) fun c' hc' => h2 c' (List.mem_cons_of_mem _ hc')]
        rfl
      · exact recs_last hp.2 h hm (fun c' hc' => h1 c' (List.mem_cons_of_mem _ hc')) fun c' hc' => h2 c' (List.mem_cons_of_mem _ hc')
theorem fv_end {c : Nat} : fv t p (t.length - p) c = L t p c := by
  have := (L_le (t := t) (p := p) (q := c)).1
  unfold fv; omega
theorem fv_most {c most : Nat} : fv t p (min most (t.length - p)) c = min (L t p c) most := by
  have := (L_le (t := t) (p := p) (q := c)).1
  unfold fv; omega
theorem dataN_pair (x : Nat × Nat) (n : Nat) : (pairN x).dataN (n + 1) = true := by
  unfold pairN V.dataN
  cases n <;> simp [V.dataN]
theorem data_pairs (l : List (Nat × Nat)) : (V.list (l.map pairN)).data = true := by
  unfold V.data V.dataN
  rw [List.all_eq_true]
  intro v hv
  obtain ⟨x, _, rfl⟩ := List.mem_map.mp hv
  exact dataN_pair x 6
theorem data_nil : (V.list []).data = true := rfl
theorem beq_nil (l : List V) : (V.list l).beq (.list []) = l.isEmpty := by
  cases l <;> rfl
end
section
variable {X : Cx} {k : Nat}
variable {σ : AHeap} {b : Addr} {t : List Nat} {Q : V → AHeap → Prop}
def sv (t : List Nat) (p : Nat) (l : List Nat) : V := .list (l.map fun o => pairN (L t p o, o))
theorem sv_eq {p : Nat} {l : List Nat} : sv t p l = .list ((l.map fun o => (L t p o, o)).map pairN) := by unfold sv; rw [List.map_map]; rfl
theorem data_sv {p : Nat} {l : List Nat} : (sv t p l).data = true := by rw [sv_eq]; exact data_pairs _
def hd1 (t : List Nat) (p : Nat) : List Nat → List Nat
  | [] => []
  | o :: _ => [L t p o]
theorem flat_if {α β : Type} (c : α → Bool) (f : α → β) (l : List α) : l.flatMap (fun o => if c o = true then [f o] else []) = (l.filter c).map f := by
  induction l with
  | nil => rfl
  | cons a r ih =>
    rw [List.flatMap_cons, ih]
    cases h : c a <;> simp [h]
theorem ints_nat (H : List Nat) : intsOf (H.map intV) = some (H.map fun (n : Nat) => (n : Int)) := by
  have : H.map intV = (H.map fun (n : Nat) => (n : Int)).map .int := by rw [List.map_map]; rfl
  rw [this, intsOf_int]
theorem longest_plain {p w s M : Nat} {l1 l2 : List Nat} (S : Sides t p w l1 l2) (hs : 0 < s) (hM : M ∈ 0 :: (hd1 t p l1 ++ hd1 t p l2)) (hmax : ∀ a ∈ 0 :: (hd1 t p l1 ++ hd1 t p l2), a ≤ M) :
    (M < s → recs t p (t.length - p) (s - 1) (cands p w) = []) ∧ (s ≤ M → ∃ o, (o ∈ l1 ∨ o ∈ l2) ∧ L t p o = M) ∧
    (s ≤ M → ∀ o, o ∈ cands p w → L t p o = M → (∀ c ∈ cands p w, L t p c = M → c ≤ o) → bestN (recs t p (t.length - p) (s - 1) (cands p w)) = (M, p - o)) := by
  have side : ∀ l : List Nat, l.Pairwise (fun x y => L t p y ≤ L t p x) → (∀ a ∈ hd1 t p l, a ≤ M) → ∀ o ∈ l, L t p o ≤ M := fun l hd h o ho => by
    cases l with
    | nil => cases ho
    | cons a r =>
      have ha := h (L t p a) (by simp [hd1])
      rw [List.pairwise_cons] at hd
      rcases List.mem_cons.mp ho with rfl | ho
      · exact ha
      · have := hd.1 o ho; omega
  have hge : ∀ o ∈ cands p w, L t p o ≤ M := fun o ho => by
    rcases (S.mem o).mpr ho with h | h
    · exact side l1 S.d1 (fun a ha => hmax a (by simp [ha])) o h
    · exact side l2 S.d2 (fun a ha => hmax a (by simp [ha])) o h
  refine ⟨fun h => recs_nil fun c hc => ?_, fun h => ?_, fun h o ho h1 h2 => ?_⟩
  · rw [fv_end]; have := hge c hc; omega
  · have hd : ∀ l : List Nat, M ∈ hd1 t p l → ∃ o ∈ l, L t p o = M := fun l hl => by
      cases l with
      | nil => simp [hd1] at hl
      | cons a r => simp [hd1] at hl; exact ⟨a, by simp, hl.symm⟩
    rcases List.mem_cons.mp hM with h0 | hM
    · omega
    · rcases List.mem_append.mp hM with q | q
      · obtain ⟨o, a, b⟩ := hd l1 q; exact ⟨o, .inl a, b⟩
      · obtain ⟨o, a, b⟩ := hd l2 q; exact ⟨o, .inr a, b⟩
  · unfold bestN
    rw [recs_last (c := o) cands_desc ho (by rw [fv_end]; omega) (fun c hc hoc => ?_) (fun c hc => ?_), fv_end, h1]
    · rfl
    · rw [fv_end, fv_end, h1]
      have h3 := hge c hc
      have : L t p c ≠ M := fun e => by have := h2 c hc e; omega
      omega
    · rw [fv_end, fv_end, h1]; exact hge c hc
theorem longest_c (F : Fns X) {p w s : Nat} {l1 l2 : List Nat} (S : Sides t p w l1 l2) (hs : 0 < s) (hn : t.length ≤ 20) (hp : p < t.length) (hl1 : l1.length ≤ 30) (hl2 : l2.length ≤ 30) :
    WC X (k + 1) (.ref 367) [.list [sv t p l1, sv t p l2], .int p, .int s] σ (fun v σ' => v = pairN (bestN (recs t p (t.length - p) (s - 1) (cands p w))) ∧ σ' = σ) := by
  refine wc_of F F.law_longest rfl ?_
  have hh : ∀ l, (hd1 t p l).length ≤ 1 := fun l => by cases l <;> simp [hd1]
  have h1 := hh l1
  have h2 := hh l2
  try simp only [wpSs, wpS, wpE, wpEs, wpI, truthP, cmpP, copI, binP, binI, asItems, asList, asFrozen, asgP, retQ, initR, idxP, mkList, List.getElem?_cons_zero, List.getElem?_cons_succ, List.set_cons_zero, List.set_cons_succ, List.cons_append, List.nil_append, List.replicate_succ, List.replicate_zero, Nat.reduceSub, Nat.reduceAdd, Option.some.injEq, exists_eq_left', ne_eq, reduceCtorEq, not_false_eq_true, true_and, if_true, if_false, Bool.false_eq_true, Bool.not_true, Nat.reduceLeDiff, List.length_cons, List.length_nil, decide_eq_true_eq, Bool.not_eq_eq_eq_not, f_law_longest, f_law_longest_b, wpG, clr, Gs.slots, Tg.slots, Option.getD_some, List.append_nil, List.foldl_cons, List.foldl_nil]
  refine fold_map (fun l => l = l1 ∨ l = l2) (fun l => sv t p l) (fun l => (hd1 t p l).map intV) 900 ?_ [l1, l2] _ (by simp) (by simp; omega) ?_
  · intro l acc K hl hN hK
    cases l with
    | nil =>
      try simp only [reduceCtorEq, not_false_eq_true, true_and, sv, List.map_nil, thaw]
      refine ⟨rfl, rfl, neg ?_ ?_⟩
      · simp [beq_nil]
      · simpa [hd1] using hK
    | cons o l =>
      simp only [hd1, List.length_singleton, List.map_cons, List.map_nil] at hN
      try simp only [reduceCtorEq, not_false_eq_true, true_and, sv, thaw]
      refine ⟨data_sv (t := t) (p := p) (l := o :: l), rfl, pos ?_ ?_⟩
      · simp [beq_nil]
      · try simp only [List.map_cons]
        refine ⟨by omega, by omega, _, rfl, ?_⟩
        unfold pairN
        try simp only []
        refine ⟨by omega, _, rfl, hK⟩
  have eH : V.int 0 :: ([] ++ [l1, l2].flatMap fun l => (hd1 t p l).map intV) = (0 :: (hd1 t p l1 ++ hd1 t p l2)).map intV := by
    simp [List.flatMap_cons, intV]
  rw [eH]
  have hlen : ([] ++ [l1, l2].flatMap fun l => (hd1 t p l).map intV).length ≤ 2 := by simp [List.flatMap_cons]; omega
  refine ⟨by omega, by omega, ?_⟩
  try simp only [asList, reduceCtorEq, not_false_eq_true, true_and, and_true, List.length_cons, List.length_map, max1P, ints_nat]
  refine ⟨by simp, fun m hm hmax => ?_⟩
  obtain ⟨M, hM, rfl⟩ := List.mem_map.mp hm
  obtain ⟨pl1, pl2, pl3⟩ := longest_plain S hs hM fun a ha => by
    have := hmax _ (List.mem_map.mpr ⟨a, ha, rfl⟩); omega
  try simp only [wpSs, wpS, wpE, wpEs, wpI, truthP, cmpP, copI, binP, binI, attrP, lenP, asItems, asList, asFrozen, methP, asgP, setAll, setattrP, putF, retQ, initR, idxP, lastP, bndP, sliceP, revP, dgetP, isDict, range1P, range2P, range3P, appendP, frzP, V.isNone, mkList, List.getElem?_cons_zero, List.getElem?_cons_succ, List.set_cons_zero, List.set_cons_succ, List.set_nil, List.cons_append, List.nil_append, List.replicate_succ, List.replicate_zero, Nat.reduceSub, Nat.reduceAdd, Option.some.injEq, exists_eq_left', ne_eq, reduceCtorEq, not_false_eq_true, true_and, and_true, if_true, if_false, Bool.true_eq_false, Bool.false_eq_true, Option.isSome_some, Nat.reduceBEq, List.lookup_nil, lookup_hit, lookup_miss, bne_self_eq_false, Bool.not_true, Bool.not_false, decide_true, decide_false, ite_true, ite_false, reduceIte, Nat.reduceEqDiff, Nat.reduceLT, Nat.reduceLeDiff, List.length_cons, List.length_nil, decide_eq_true_eq, Bool.not_eq_true', decide_eq_false_iff_not, Int.toNat_natCast, List.length_map, Bool.and_eq_true, Bool.or_eq_true, Bool.not_eq_eq_eq_not, Bool.not_eq_true, Bool.not_eq_false]
  by_cases hMs : M < s
  · refine pos (by omega) ?_
    rw [pl1 hMs]
    rfl
  · refine neg (by omega) ?_
    try simp only [List.getElem?_cons_zero, List.getElem?_cons_succ, Option.some.injEq, exists_eq_left', Option.getD_none]
    refine fold_map (fun l => l = l1 ∨ l = l2) (fun l => sv t p l) (fun l => l.flatMap fun o => if (L t p o == M) = true then [intV o] else []) 900 ?_ [l1, l2] _ (by simp) ?_ ?_
    · intro l acc K hl hN hK
      try simp only [reduceCtorEq, not_false_eq_true, true_and, sv]
      refine ⟨by omega, ?_⟩
      refine fold_map (fun _ => True) (fun o => pairN (L t p o, o)) (fun o => if (L t p o == M) = true then [intV o] else []) 900 ?_ l _ (fun _ _ => trivial) hN hK
      intro o acc K _ hN hK
      unfold pairN
      try simp only [setAll, List.getElem?_cons_zero, List.getElem?_cons_succ, List.set_cons_zero, List.set_cons_succ, Nat.reduceAdd, Option.some.injEq, exists_eq_left', reduceCtorEq, not_false_eq_true, true_and, List.length_cons, List.length_nil]
      by_cases e : L t p o = M
      · rw [if_pos (by simpa using e)] at hN hK
        refine pos (by omega) ?_
        simp only [List.length_singleton] at hN
        exact ⟨by omega, hK⟩
      · rw [if_neg (by simpa using e)] at hK
        refine neg (by omega) ?_
        simpa using hK
    · have : ∀ l : List Nat, (l.flatMap fun o => if (L t p o == M) = true then [intV o] else []).length ≤ l.length := fun l => by
        rw [flat_if, List.length_map]; exact List.length_filter_le _ _
      have a1 := this l1
      have a2 := this l2
      simp only [List.flatMap_cons, List.flatMap_nil, List.append_nil, List.length_append, List.length_nil]
      omega
    have eO : ([] ++ [l1, l2].flatMap fun l => l.flatMap fun o => if (L t p o == M) = true then [intV o] else []) = ((l1 ++ l2).filter fun o => L t p o == M).map intV := by
      simp only [List.flatMap_cons, List.flatMap_nil, List.append_nil, List.nil_append, flat_if, List.filter_append, List.map_append]
    rw [eO]
    have hlo : (((l1 ++ l2).filter fun o => L t p o == M).map intV).length ≤ 60 := by
      rw [List.length_map]
      have := List.length_filter_le (fun o => L t p o == M) (l1 ++ l2)
      rw [List.length_append] at this
      omega
    refine ⟨by omega, ?_⟩
    try simp only [and_true, List.length_map, ints_nat]
    obtain ⟨o0, ho0, e0⟩ := pl2 (by omega)
    refine ⟨?_, fun m hm hmax => ?_⟩
    · refine List.length_pos_of_mem (a := o0) ?_
      rw [List.mem_filter, List.mem_append]
      exact ⟨ho0, by simpa using e0⟩
    · obtain ⟨o, ho, rfl⟩ := List.mem_map.mp hm
      rw [List.mem_filter, List.mem_append] at ho
      have hoc := (S.mem o).mp ho.1
      rw [pl3 (by omega) o hoc (by simpa using ho.2) fun c hc ec => by
        have := hmax _ (List.mem_map.mpr ⟨c, by rw [List.mem_filter, List.mem_append]; exact ⟨(S.mem c).mpr hc, by simpa using ec⟩, rfl⟩)
        omega]
      have := (cands_mem.mp hoc).1
      try simp only [pairN]
      have e6 : (p : Int) - (o : Int) = ((p - o : Nat) : Int) := by omega
      rw [e6]
end
end Mine
end

section
open PySem PySem.Calls PyProof.Rows PySem.W
set_option maxRecDepth 20000
namespace Mine
section
variable {t : List Nat} {p w : Nat}
structure OutI (t : List Nat) (p w lim s ℓ : Nat) (found : List (Nat × Nat)) (m : Nat) : Prop where
  eq : found ++ recs t p lim m (cands p w) = recs t p lim (s - 1) (cands p w)
  ge : ℓ ≤ m + 1
  st : (found = [] ∧ m + 1 = ℓ) ∨ ∃ o ∈ cands p w, found.getLast? = some (m, p - o) ∧ fv t p lim o = m ∧ ∀ c ∈ cands p w, o < c → L t p c < ℓ
theorem out_step {most s ℓ m o : Nat} {found : List (Nat × Nat)} (I : OutI t p w (min most (t.length - p)) s ℓ found m) (hl : ℓ ≤ most) (ho : o ∈ cands p w) (hL : ℓ ≤ L t p o) (hm : ∀ c ∈ cands p w, ℓ ≤ L t p c → c ≤ o) :
    ((∀ y, found.getLast? = some y → y.2 ≠ p - o) → OutI t p w (min most (t.length - p)) s (ℓ + 1) (found ++ [(min (L t p o) most, p - o)]) (min (L t p o) most)) ∧
    ((∃ y, found.getLast? = some (y, p - o)) → OutI t p w (min most (t.length - p)) s (ℓ + 1) found m) := by
  obtain ⟨h1, h2, h3⟩ := I
  have hop := (cands_mem.mp ho).1
  have hfo : fv t p (min most (t.length - p)) o = min (L t p o) most := fv_most
  rcases Nat.lt_or_ge m ℓ with hmℓ | hmℓ
  · refine ⟨fun hne => ⟨?_, by omega, .inr ⟨o, ho, by simp, hfo, fun c hc hoc => ?_⟩⟩, fun ⟨y, hy⟩ => ?_⟩
    · rw [List.append_assoc, ← h1]
      congr 1
      rw [recs_first (m := m) (c := o) cands_desc ho (by rw [hfo]; omega) fun c hc hoc => ?_, hfo]
      · rfl
      · have : ¬ ℓ ≤ L t p c := fun h => by have := hm c hc h; omega
        rw [fv_most]; omega
    · have : ¬ ℓ ≤ L t p c := fun h => by have := hm c hc h; omega
      omega
    · rcases h3 with ⟨e, _⟩ | ⟨o', a, b, c, d⟩
      · rw [e] at hy; simp at hy
      · rw [b] at hy
        have := (cands_mem.mp a).1
        have e := (Prod.mk.inj (Option.some.inj hy)).2
        have : o' = o := by omega
        subst this
        rw [hfo] at c
        omega
  · rcases h3 with ⟨e, _⟩ | ⟨o', a, b, c, d⟩
    · omega
    · have hL' : ℓ ≤ L t p o' := by rw [fv_most] at c; omega
      have h4 := hm o' a hL'
      have : o' = o := by
        rcases Nat.lt_or_ge o' o with q | q
        · have := d o ho q; omega
        · omega
      subst this
      refine ⟨fun hne => absurd rfl (hne _ b), fun _ => ⟨h1, by omega, .inr ⟨o', a, b, c, fun x hx hox => by have := d x hx hox; omega⟩⟩⟩
theorem out_end {most s ℓ m : Nat} {found : List (Nat × Nat)} (I : OutI t p w (min most (t.length - p)) s ℓ found m) (h : most < ℓ ∨ ∀ c ∈ cands p w, L t p c < ℓ) : found = recs t p (min most (t.length - p)) (s - 1) (cands p w) := by
  rw [← I.eq, recs_nil fun c hc => ?_, List.append_nil]
  have := I.ge
  rw [fv_most]
  rcases h with h | h
  · omega
  · have := h c hc; omega
end
section
variable {X : Cx} {k : Nat}
variable {σ : AHeap} {b : Addr} {t : List Nat} {Q : V → AHeap → Prop}
theorem outwards_c (F : Fns X) {p w s most : Nat} {l1 l2 : List Nat} (S : Sides t p w l1 l2) (hs : 0 < s) (hn : t.length ≤ 20) (hp : p < t.length) (hl1 : l1.length ≤ 30) (hl2 : l2.length ≤ 30) (hm : most ≤ 30) (hs2 : s ≤ 30) :
    WC X (k + 1) (.ref 372) [.list [sv t p l1, sv t p l2], .int p, .int s, .int most] σ (fun v σ' => v = .list ((recs t p (min most (t.length - p)) (s - 1) (cands p w)).map pairN) ∧ Ext σ σ') := by
  refine wc_of F F.law_outwards rfl ?_
  try simp only [wpSs, wpS, wpE, wpEs, wpI, binP, binI, asItems, asList, asgP, setAll, retQ, initR, idxP, range2P, frzP, mkList, List.getElem?_cons_zero, List.getElem?_cons_succ, List.set_cons_zero, List.set_cons_succ, List.cons_append, List.nil_append, List.replicate_succ, List.replicate_zero, Nat.reduceSub, Nat.reduceAdd, Option.some.injEq, exists_eq_left', ne_eq, reduceCtorEq, not_false_eq_true, true_and, if_true, Nat.reduceLeDiff, List.length_cons, List.length_nil, f_law_outwards, f_law_outwards_b, sv]
  refine ⟨by omega, _, rfl, by omega, _, rfl, ?_⟩
  try simp only [List.length_map, List.length_append]
  refine ⟨by omega, fun a ha => ?_⟩
  try simp only [small]
  refine ⟨by omega, by omega, ?_⟩
  rw [← List.map_append]
  generalize hboth : l1 ++ l2 = both
  have hbl : both.length ≤ 60 := by rw [← hboth, List.length_append]; omega
  have hbm : ∀ o, o ∈ both ↔ o ∈ cands p w := fun o => by rw [← hboth, List.mem_append]; exact S.mem o
  refine forP_inv (fun items ρ σ' => ∃ ℓ found m z6 z7 z8 z9, items = (List.range (most + 1 - ℓ)).map (fun (i : Nat) => V.int ((ℓ : Int) + (i : Int))) ∧ s ≤ ℓ ∧
      ρ = [.list [.list (l1.map fun o => pairN (L t p o, o)), .list (l2.map fun o => pairN (L t p o, o))], .int p, .int s, .int most, .list (both.map fun o => pairN (L t p o, o)), .ref a, z6, z7, z8, z9, .undef, .undef] ∧
      σ' = upd σ a (.list (found.map pairN)) ∧ OutI t p w (min most (t.length - p)) s ℓ found m ∧ found.length ≤ ℓ) ?_ ?_ _ _ _ ⟨s, [], s - 1, .undef, .undef, .undef, .undef, ?_, Nat.le_refl _, rfl, rfl, ⟨rfl, by omega, .inl ⟨rfl, by omega⟩⟩, by simp⟩
  · rintro x r ρ σ' K ⟨ℓ, found, m, z6, z7, z8, z9, hi, hsl, rfl, rfl, I, hfl⟩ hK hKb _
    have hle : ℓ ≤ most := by
      rcases Nat.lt_or_ge most ℓ with h | h
      · rw [show most + 1 - ℓ = 0 by omega] at hi; simp at hi
      · exact h
    rw [show most + 1 - ℓ = (most - ℓ) + 1 by omega, List.range_succ_eq_map, List.map_cons, List.map_map, List.cons.injEq] at hi
    obtain ⟨rfl, rfl⟩ := hi
    rw [show ((ℓ : Int) + ((0 : Nat) : Int)) = (ℓ : Int) by omega]
    try simp only [wpSs, wpS, wpE, wpEs, wpI, truthP, cmpP, copI, binP, binI, asItems, asList, asFrozen, asgP, idxP, lastP, appendP, mkList, List.getElem?_cons_zero, List.getElem?_cons_succ, List.set_cons_zero, List.set_cons_succ, Nat.reduceAdd, Option.some.injEq, exists_eq_left', ne_eq, reduceCtorEq, not_false_eq_true, true_and, if_true, if_false, Bool.false_eq_true, Bool.not_true, Nat.reduceLeDiff, List.length_cons, List.length_nil, decide_eq_true_eq, decide_eq_false_iff_not, Bool.not_eq_eq_eq_not, f_law_outwards_b1, wpG, clr, Gs.slots, Tg.slots, Option.getD_some, List.append_nil, List.foldl_cons, List.foldl_nil]
    refine fold_map (fun _ => True) (fun o => pairN (L t p o, o)) (fun o => if (decide (ℓ ≤ L t p o)) = true then [pairN (o, L t p o)] else []) 900 ?_ both _ (fun _ _ => trivial) ?_ ?_
    · intro o acc K _ hN hK
      unfold pairN at hK ⊢
      try simp only [setAll, List.getElem?_cons_zero, List.getElem?_cons_succ, List.set_cons_zero, List.set_cons_succ, Nat.reduceAdd, Option.some.injEq, exists_eq_left', reduceCtorEq, not_false_eq_true, true_and, List.length_cons, List.length_nil]
      by_cases e : ℓ ≤ L t p o
      · rw [if_pos (by simpa using e)] at hN hK
        refine pos (by omega) ?_
        simp only [List.length_singleton] at hN
        exact ⟨by omega, hK⟩
      · rw [if_neg (by simpa using e)] at hK
        refine neg (by omega) ?_
        simpa using hK
    · rw [flat_if, List.length_map]
      have := List.length_filter_le (fun o => decide (ℓ ≤ L t p o)) both
      simp only [List.length_nil]
      omega
    rw [flat_if, List.nil_append]
    generalize hsm : both.filter (fun o => decide (ℓ ≤ L t p o)) = sm
    have hsl2 : sm.length ≤ 60 := by rw [← hsm]; exact Nat.le_trans (List.length_filter_le _ _) hbl
    have hsmem : ∀ o, o ∈ sm ↔ o ∈ cands p w ∧ ℓ ≤ L t p o := fun o => by rw [← hsm, List.mem_filter, hbm]; simp
    have esm : sm.map (fun o => pairN (o, L t p o)) = (sm.map fun o => (o, L t p o)).map pairN := by rw [List.map_map]; rfl
    rw [esm]
    try simp only [List.length_map, thaw, beq_nil]
    refine ⟨by omega, data_pairs _, data_nil, ?_⟩
    cases hsc : sm with
    | nil =>
      refine pos (by simp) ?_
      refine hKb _ _ ?_
      have := out_end I (.inr fun c hc => by
        rcases Nat.lt_or_ge (L t p c) ℓ with h | h
        · exact h
        · have := (hsmem c).mpr ⟨hc, h⟩; rw [hsc] at this; cases this)
      try simp only [List.getElem?_cons_zero, List.getElem?_cons_succ, Option.some.injEq, exists_eq_left', reduceCtorEq, not_false_eq_true, true_and, upd_self]
      rw [this, del_upd ha]
      exact ⟨rfl, .refl⟩
    | cons s0 sr =>
      rw [← hsc]
      have hne : sm ≠ [] := by rw [hsc]; simp
      refine neg (by rw [hsc]; simp) ?_
      have epp : (sm.map fun o => (o, L t p o)).map pairN = (sm.map fun o => (((o : Nat) : Int), ((L t p o : Nat) : Int))).map pairV := by simp [List.map_map, Function.comp_def, pairN, pairV]
      rw [epp]
      try simp only [asList, List.length_map, max1P, pairsOf_pair]
      rw [intsOf_pair (by simpa using hne)]
      try simp only []
      refine ⟨by rw [hsc]; simp, fun q hq hmax => ?_⟩
      obtain ⟨o, ho, rfl⟩ := List.mem_map.mp hq
      obtain ⟨ho1, ho2⟩ := (hsmem o).mp ho
      have hop := (cands_mem.mp ho1).1
      obtain ⟨st1, st2⟩ := out_step I hle ho1 ho2 fun c hc hcl => by
        have := hmax _ (List.mem_map.mpr ⟨c, (hsmem c).mpr ⟨hc, hcl⟩, rfl⟩)
        unfold pairLe at this
        simp only at this
        omega
      try simp only [setAll, List.getElem?_cons_zero, List.getElem?_cons_succ, List.set_cons_zero, List.set_cons_succ, Nat.reduceAdd, Option.some.injEq, exists_eq_left', reduceCtorEq, not_false_eq_true, true_and, Option.isSome_some, List.length_cons, List.length_nil, List.length_map, pairV, upd_self, beq_nil]
      refine ⟨data_pairs _, data_nil, ?_⟩
      have e6 : (p : Int) - (o : Int) = ((p - o : Nat) : Int) := by omega
      have e7 : min ((L t p o : Nat) : Int) (most : Int) = ((min (L t p o) most : Nat) : Int) := by omega
      have next : ∀ found' m' z6 z7 z8 z9, OutI t p w (min most (t.length - p)) s (ℓ + 1) found' m' → found'.length ≤ ℓ + 1 → K .next [.list [.list (l1.map fun o => pairN (L t p o, o)), .list (l2.map fun o => pairN (L t p o, o))], .int p, .int s, .int most, .list (both.map fun o => pairN (L t p o, o)), .ref a, z6, z7, z8, z9, .undef, .undef] (upd σ a (.list (found'.map pairN))) := fun found' m' z6 z7 z8 z9 I' hf => by
        refine hK _ _ ⟨ℓ + 1, found', m', z6, z7, z8, z9, ?_, by omega, rfl, rfl, I', hf⟩
        rw [show most + 1 - (ℓ + 1) = most - ℓ by omega]
        apply List.map_congr_left
        intro i _
        simp only [Function.comp]
        congr 1
        omega
      rw [e6, e7]
      by_cases hap : ∀ y, found.getLast? = some y → y.2 ≠ p - o
      · have I' := st1 hap
        have fin := next _ _ (.int ℓ) (.list ((sm.map fun o => (((o : Nat) : Int), ((L t p o : Nat) : Int))).map pairV)) (.int o) (.int (L t p o)) I' (by simp; omega)
        rw [List.map_append] at fin
        cases hf : found with
        | nil =>
          rw [hf] at fin
          refine pos (by simp) ?_
          try simp only [true_and, Nat.reduceLT, List.length_nil, upd_upd]
          exact fin
        | cons y ys =>
          rw [← hf]
          refine neg (by rw [hf]; simp) ?_
          obtain ⟨z, hz⟩ : ∃ z, found.getLast? = some z := by rw [hf]; exact ⟨_, List.getLast?_eq_some_getLast (by simp)⟩
          try simp only [wpSs, wpS, wpE, wpEs, wpI, truthP, cmpP, copI, binP, binI, attrP, lenP, asItems, asList, asFrozen, methP, asgP, setAll, setattrP, putF, retQ, initR, idxP, lastP, bndP, sliceP, revP, dgetP, isDict, range1P, range2P, range3P, appendP, frzP, V.isNone, mkList, List.getElem?_cons_zero, List.getElem?_cons_succ, List.set_cons_zero, List.set_cons_succ, List.set_nil, List.cons_append, List.nil_append, List.replicate_succ, List.replicate_zero, Nat.reduceSub, Nat.reduceAdd, Option.some.injEq, exists_eq_left', ne_eq, reduceCtorEq, not_false_eq_true, true_and, and_true, if_true, if_false, Bool.true_eq_false, Bool.false_eq_true, Option.isSome_some, Nat.reduceBEq, List.lookup_nil, lookup_hit, lookup_miss, bne_self_eq_false, Bool.not_true, Bool.not_false, decide_true, decide_false, ite_true, ite_false, reduceIte, Nat.reduceEqDiff, Nat.reduceLT, Nat.reduceLeDiff, List.length_cons, List.length_nil, decide_eq_true_eq, Bool.not_eq_true', decide_eq_false_iff_not, Int.toNat_natCast, List.length_map, Bool.and_eq_true, Bool.or_eq_true, Bool.not_eq_eq_eq_not, Bool.not_eq_true, Bool.not_eq_false, upd_self]
          refine ⟨pairN z, by rw [List.getLast?_map, hz]; rfl, ?_⟩
          unfold pairN
          try simp only []
          refine ⟨by omega, _, rfl, ?_⟩
          try simp only []
          refine pos ?_ ?_
          · have := hap z hz; omega
          · try simp only [upd_upd]
            exact ⟨by omega, fin⟩
      · have hap' : ∃ y, found.getLast? = some (y, p - o) := by
          cases hz : found.getLast? with
          | none => exact absurd (fun y hy => by rw [hz] at hy; cases hy) hap
          | some z =>
            refine ⟨z.1, ?_⟩
            have : z.2 = p - o := Classical.byContradiction fun h => hap fun y hy => by rw [hz] at hy; cases hy; exact h
            rw [← this]
        have I' := st2 hap'
        obtain ⟨y, hy⟩ := hap'
        have fin := next _ _ (.int ℓ) (.list ((sm.map fun o => (((o : Nat) : Int), ((L t p o : Nat) : Int))).map pairV)) (.int o) (.int (L t p o)) I' (by omega)
        have hfne : found ≠ [] := fun e => by rw [e] at hy; cases hy
        refine neg (by simpa using hfne) ?_
        try simp only [wpSs, wpS, wpE, wpEs, wpI, truthP, cmpP, copI, binP, binI, attrP, lenP, asItems, asList, asFrozen, methP, asgP, setAll, setattrP, putF, retQ, initR, idxP, lastP, bndP, sliceP, revP, dgetP, isDict, range1P, range2P, range3P, appendP, frzP, V.isNone, mkList, List.getElem?_cons_zero, List.getElem?_cons_succ, List.set_cons_zero, List.set_cons_succ, List.set_nil, List.cons_append, List.nil_append, List.replicate_succ, List.replicate_zero, Nat.reduceSub, Nat.reduceAdd, Option.some.injEq, exists_eq_left', ne_eq, reduceCtorEq, not_false_eq_true, true_and, and_true, if_true, if_false, Bool.true_eq_false, Bool.false_eq_true, Option.isSome_some, Nat.reduceBEq, List.lookup_nil, lookup_hit, lookup_miss, bne_self_eq_false, Bool.not_true, Bool.not_false, decide_true, decide_false, ite_true, ite_false, reduceIte, Nat.reduceEqDiff, Nat.reduceLT, Nat.reduceLeDiff, List.length_cons, List.length_nil, decide_eq_true_eq, Bool.not_eq_true', decide_eq_false_iff_not, Int.toNat_natCast, List.length_map, Bool.and_eq_true, Bool.or_eq_true, Bool.not_eq_eq_eq_not, Bool.not_eq_true, Bool.not_eq_false, upd_self]
        refine ⟨pairN (y, p - o), by rw [List.getLast?_map, hy]; rfl, ?_⟩
        unfold pairN
        try simp only []
        refine ⟨by omega, _, rfl, ?_⟩
        try simp only []
        refine neg (by simp) ?_
        exact fin
  · rintro ρ σ' ⟨ℓ, found, m, z6, z7, z8, z9, hi, hsl, rfl, rfl, I, hfl⟩
    have hgt : most < ℓ := by
      have := congrArg List.length hi
      simp at this
      omega
    have := out_end I (.inl hgt)
    try simp only [List.getElem?_cons_zero, List.getElem?_cons_succ, Option.some.injEq, exists_eq_left', reduceCtorEq, not_false_eq_true, true_and, upd_self]
    rw [this, del_upd ha]
    exact ⟨rfl, .refl⟩
  · rw [show ((most : Int) + 1 - (s : Int)).toNat = most + 1 - s by omega]
end
end Mine
end

section
namespace Mine
section
variable {t : List Nat}
def mx : List Nat → Nat
  | [] => 0
  | a :: r => max a (mx r)
theorem mx_ge : ∀ {l : List Nat} {a : Nat}, a ∈ l → a ≤ mx l
  | b :: r, a, h => by
    unfold mx
    rcases List.mem_cons.mp h with rfl | h
    · omega
    · have := mx_ge h; omega
theorem mx_mem : ∀ {l : List Nat}, mx l = 0 ∨ mx l ∈ l
  | [] => .inl rfl
  | b :: r => by
    unfold mx
    rcases mx_mem (l := r) with h | h
    · rcases Nat.le_total b (mx r) with q | q
      · left; omega
      · right; rw [Nat.max_eq_left q]; exact List.mem_cons_self
    · rcases Nat.le_total b (mx r) with q | q
      · right; rw [Nat.max_eq_right q]; exact List.mem_cons_of_mem _ h
      · right; rw [Nat.max_eq_left q]; exact List.mem_cons_self
def lpf (t : List Nat) (p : Nat) : Nat := mx ((List.range p).map fun q => L t p q)
theorem lpf_of {p M : Nat} (h1 : ∀ q, q < p → L t p q ≤ M) (h2 : M = 0 ∨ ∃ q, q < p ∧ L t p q = M) : lpf t p = M := by
  unfold lpf
  apply Nat.le_antisymm
  · rcases mx_mem (l := (List.range p).map fun q => L t p q) with h | h
    · omega
    · obtain ⟨q, hq, e⟩ := List.mem_map.mp h
      rw [← e]; exact h1 q (List.mem_range.mp hq)
  · rcases h2 with h | ⟨q, hq, e⟩
    · omega
    · exact mx_ge (List.mem_map.mpr ⟨q, List.mem_range.mpr hq, e⟩)
def adj (t : List Nat) : List Nat → List Nat
  | a :: b :: r => L t a b :: adj t (b :: r)
  | _ => []
theorem adj_mid (a b : Nat) (B : List Nat) : ∀ A : List Nat, adj t (A ++ a :: b :: B) = adj t (A ++ [a]) ++ L t a b :: adj t (b :: B)
  | [] => rfl
  | [x] => rfl
  | x :: y :: r => by
    have ih := adj_mid a b B (y :: r)
    simp only [List.cons_append] at ih ⊢
    rw [adj, adj, ih]
    rfl
theorem nearF_adj : ∀ os : List Nat, nearF t os = adj t os
  | [] => rfl
  | [a] => rfl
  | a :: b :: r => by
    have ih := nearF_adj (b :: r)
    unfold nearF at ih ⊢
    simp only [List.length_cons, Nat.add_sub_cancel] at ih ⊢
    rw [List.range_succ_eq_map, List.map_cons, List.map_map, adj, ← ih]
    congr 1
theorem ord_mem {l : List Nat} {m : Nat} (h : l.Perm (List.range m)) {x : Nat} : x ∈ l ↔ x < m := by rw [h.mem_iff, List.mem_range]
theorem lpf_perm : ∀ (m : Nat) (l : List Nat), m + 1 ≤ t.length → l.Perm (List.range (m + 1)) → l.Pairwise (Lt t) → ((List.range (m + 1)).map (lpf t)).Perm (0 :: adj t l)
  | 0, l, hm, hp, hl => by
    have : l = [0] := List.perm_singleton.mp hp
    subst this
    exact .refl _
  | m + 1, l, hm, hp, hl => by
    have hmem : m + 1 ∈ l := (ord_mem hp).mpr (by omega)
    obtain ⟨A, B, rfl⟩ := List.append_of_mem hmem
    rw [List.pairwise_append, List.pairwise_cons] at hl
    obtain ⟨hA, ⟨hB1, hB⟩, hAB⟩ := hl
    have hp2 : (A ++ B).Perm (List.range (m + 1)) := by
      have h1 : (A ++ (m + 1) :: B).Perm ((m + 1) :: (A ++ B)) := List.perm_middle
      have h2 : (List.range (m + 1 + 1)).Perm ((m + 1) :: List.range (m + 1)) := by
        rw [List.range_succ]
        exact List.perm_append_singleton _ _
      exact List.Perm.cons_inv ((h1.symm.trans hp).trans h2)
    have hl2 : (A ++ B).Pairwise (Lt t) := by
      rw [List.pairwise_append]
      exact ⟨hA, hB, fun a ha b hb => hAB a ha b (List.mem_cons_of_mem _ hb)⟩
    have ih := lpf_perm m (A ++ B) (by omega) hp2 hl2
    have inm : ∀ x, x ∈ A ∨ x ∈ B ↔ x < m + 1 := fun x => by rw [← List.mem_append]; exact ord_mem hp2
    have ltm : ∀ x, x ∈ A ∨ x ∈ B → x < t.length := fun x h => by have := (inm x).mp h; omega
    have hmt : m + 1 < t.length := by omega
    have bL : ∀ b B', B = b :: B' → ∀ x ∈ B, L t (m + 1) x ≤ L t (m + 1) b := fun b B' e x hx => by
      subst e
      rcases List.mem_cons.mp hx with rfl | hx
      · exact Nat.le_refl _
      · rw [List.pairwise_cons] at hB
        rw [L_between hmt (ltm b (.inr List.mem_cons_self)) (ltm x (.inr (List.mem_cons_of_mem _ hx))) (hB1 b List.mem_cons_self) (hB.1 x hx)]
        exact Nat.min_le_left _ _
    have aL : ∀ a A', A = A' ++ [a] → ∀ x ∈ A, L t (m + 1) x ≤ L t (m + 1) a := fun a A' e x hx => by
      subst e
      have ha : a ∈ A' ++ [a] := by simp
      have nm : ∀ y, y ∈ A' ++ [a] → m + 1 ≠ y := fun y hy => by have := (inm y).mp (.inl hy); omega
      rcases List.mem_append.mp hx with hx' | hx'
      · rw [List.pairwise_append] at hA
        rw [L_comm (nm x hx) hmt (ltm x (.inl hx)), L_comm (nm a ha) hmt (ltm a (.inl ha)), L_between (ltm x (.inl hx)) (ltm a (.inl ha)) hmt (hA.2.2 x hx' a (by simp)) (hAB a ha _ List.mem_cons_self)]
        exact Nat.min_le_right _ _
      · rw [List.mem_singleton] at hx'; subst hx'; exact Nat.le_refl _
    rw [List.range_succ, List.map_append, List.map_cons, List.map_nil]
    have goal : (lpf t (m + 1) :: (0 :: adj t (A ++ B))).Perm (0 :: adj t (A ++ (m + 1) :: B)) := by
      rcases List.eq_nil_or_concat A with rfl | ⟨A', a, rfl⟩
      · cases B with
        | nil => have := (inm 0).mpr (by omega); simp at this
        | cons b B' =>
          have e : lpf t (m + 1) = L t (m + 1) b := lpf_of (fun q hq => by
            rcases (inm q).mpr hq with h | h
            · cases h
            · exact bL b B' rfl q h) (.inr ⟨b, (inm b).mp (.inr List.mem_cons_self), rfl⟩)
          rw [e]
          simp only [List.nil_append]
          rw [adj]
          exact List.Perm.swap _ _ _
      · have ha : a ∈ A' ++ [a] := by simp
        have nm : ∀ y, y ∈ A' ++ [a] → m + 1 ≠ y := fun y hy => by have := (inm y).mp (.inl (by simpa using hy)); omega
        have ca : L t a (m + 1) = L t (m + 1) a := (L_comm (nm a ha) hmt (ltm a (.inl (by simpa using ha)))).symm
        cases B with
        | nil =>
          have e : lpf t (m + 1) = L t (m + 1) a := lpf_of (fun q hq => by
            rcases (inm q).mpr hq with h | h
            · exact aL a A' (by simp) q h
            · cases h) (.inr ⟨a, (inm a).mp (.inl (by simp)), rfl⟩)
          rw [e]
          simp only [List.append_nil, List.concat_eq_append, List.append_assoc, List.cons_append, List.nil_append]
          rw [adj_mid, ca]
          have : adj t [m + 1] = [] := rfl
          rw [this]
          refine (List.Perm.swap _ _ _).trans (.cons _ ?_)
          exact (List.perm_append_singleton _ _).symm
        | cons b B' =>
          have e : lpf t (m + 1) = max (L t (m + 1) a) (L t (m + 1) b) := lpf_of (fun q hq => by
            rcases (inm q).mpr hq with h | h
            · have := aL a A' (by simp) q h; omega
            · have := bL b B' rfl q h; omega) (.inr (by
            rcases Nat.le_total (L t (m + 1) a) (L t (m + 1) b) with q | q
            · exact ⟨b, (inm b).mp (.inr List.mem_cons_self), by omega⟩
            · exact ⟨a, (inm a).mp (.inl (by simp)), by omega⟩))
          have hb := L_between (ltm a (.inl (by simp))) hmt (ltm b (.inr List.mem_cons_self)) (hAB a (by simp) _ List.mem_cons_self) (hB1 b List.mem_cons_self)
          simp only [List.concat_eq_append, List.append_assoc, List.cons_append, List.nil_append]
          rw [adj_mid, adj_mid, adj, hb, ca, e]
          refine (List.Perm.swap _ _ _).trans (.cons _ ?_)
          have two : ([max (L t (m + 1) a) (L t (m + 1) b)] ++ [min (L t (m + 1) a) (L t (m + 1) b)]).Perm [L t (m + 1) a, L t (m + 1) b] := by
            rcases Nat.le_total (L t (m + 1) a) (L t (m + 1) b) with q | q
            · rw [Nat.max_eq_right q, Nat.min_eq_left q]; exact List.Perm.swap _ _ _
            · rw [Nat.max_eq_left q, Nat.min_eq_right q]; exact .refl _
          generalize adj t (A' ++ [a]) = P
          generalize adj t (b :: B') = R
          generalize max (L t (m + 1) a) (L t (m + 1) b) = x1 at *
          generalize min (L t (m + 1) a) (L t (m + 1) b) = x2 at *
          generalize L t (m + 1) a = y1 at *
          generalize L t (m + 1) b = y2 at *
          have h1 : (x1 :: (P ++ x2 :: R)).Perm (P ++ (x1 :: x2 :: R)) := List.perm_middle.symm
          refine h1.trans ?_
          refine List.Perm.append_left P ?_
          exact List.Perm.append_right R two
    have := (ih.cons (lpf t (m + 1))).trans goal
    exact (List.perm_append_singleton _ _).trans this
theorem lpf_all {os : List Nat} (O : Ordd t os) (h : 0 < t.length) : ((List.range t.length).map (lpf t)).Perm (0 :: nearF t os) := by
  obtain ⟨m, hm⟩ : ∃ m, t.length = m + 1 := ⟨t.length - 1, by omega⟩
  rw [nearF_adj, hm]
  exact lpf_perm m os (by omega) (by rw [← hm]; exact O.perm) O.lt
theorem sorted_eq : ∀ {l l' : List Int}, l.Perm l' → l.Pairwise (· ≤ ·) → l'.Pairwise (· ≤ ·) → l = l'
  | [], l', h, _, _ => by have := h.length_eq; cases l' with | nil => rfl | cons _ _ => simp at this
  | a :: r, [], h, _, _ => by have := h.length_eq; simp at this
  | a :: r, b :: r', h, h1, h2 => by
    rw [List.pairwise_cons] at h1 h2
    have e : a = b := by
      have ha : a ∈ b :: r' := h.mem_iff.mp List.mem_cons_self
      have hb : b ∈ a :: r := h.mem_iff.mpr List.mem_cons_self
      rcases List.mem_cons.mp ha with e | ha
      · exact e
      · rcases List.mem_cons.mp hb with e | hb
        · exact e.symm
        · have := h1.1 b hb; have := h2.1 a ha; omega
    subst e
    rw [sorted_eq (List.Perm.cons_inv h) h1.2 h2.2]
end
end Mine
end

section
open PySem PySem.Calls PyProof.Rows PySem.W
set_option maxRecDepth 20000
namespace Mine
section
variable {t : List Nat}
theorem ex_max {P : Nat → Prop} : ∀ p : Nat, (∃ q, q < p ∧ P q) → ∃ q, q < p ∧ P q ∧ ∀ c, c < p → P c → c ≤ q
  | 0, ⟨q, h, _⟩ => by omega
  | p + 1, ⟨q, h, hq⟩ => by
    by_cases hp : P p
    · exact ⟨p, by omega, hp, fun c hc _ => by omega⟩
    · have : q ≠ p := fun e => hp (e ▸ hq)
      obtain ⟨r, h1, h2, h3⟩ := ex_max p ⟨q, by omega, hq⟩
      refine ⟨r, by omega, h2, fun c hc hc2 => ?_⟩
      have : c ≠ p := fun e => hp (e ▸ hc2)
      exact h3 c (by omega) hc2
def phi (s c : Nat) : Nat := if s ≤ c then c else 0
theorem best_lpf {p s : Nat} (hs : 0 < s) (hp : p < t.length) : (bestN (recs t p (t.length - p) (s - 1) (cands p t.length))).1 = phi s (lpf t p) := by
  have hge : ∀ q, q < p → L t p q ≤ lpf t p := fun q hq => mx_ge (List.mem_map.mpr ⟨q, List.mem_range.mpr hq, rfl⟩)
  unfold phi
  by_cases h : s ≤ lpf t p
  · rw [if_pos h]
    have hex : ∃ q, q < p ∧ L t p q = lpf t p := by
      rcases mx_mem (l := (List.range p).map fun q => L t p q) with h0 | h0
      · unfold lpf at h; omega
      · obtain ⟨q, hq, e⟩ := List.mem_map.mp h0
        exact ⟨q, List.mem_range.mp hq, e⟩
    obtain ⟨o, h1, h2, h3⟩ := ex_max p hex
    unfold bestN
    rw [recs_last (c := o) cands_desc (cands_mem.mpr ⟨h1, by omega⟩) (by rw [fv_end]; omega) (fun c hc hoc => ?_) (fun c hc => ?_), fv_end]
    · exact h2
    · rw [fv_end, fv_end, h2]
      have h4 := hge c (cands_mem.mp hc).1
      have : L t p c ≠ lpf t p := fun e => by have := h3 c (cands_mem.mp hc).1 e; omega
      omega
    · rw [fv_end, fv_end, h2]; exact hge c (cands_mem.mp hc).1
  · rw [if_neg h, recs_nil fun c hc => ?_]
    · rfl
    · rw [fv_end]; have := hge c (cands_mem.mp hc).1; omega
theorem beqs_ints : ∀ l : List Int, V.beqs (l.map .int) (l.map .int) = true
  | [] => rfl
  | a :: r => by
    rw [List.map_cons, V.beqs, beqs_ints r]
    simp [V.beq]
theorem beq_pairN (x : Nat × Nat) : (pairN x).beq (pairN x) = true := by unfold pairN; simp [V.beq, V.beqs]
theorem beqs_pairs : ∀ l : List (Nat × Nat), V.beqs (l.map pairN) (l.map pairN) = true
  | [] => rfl
  | a :: r => by rw [List.map_cons, V.beqs, beqs_pairs r, beq_pairN]; rfl
theorem data_ints (l : List Int) : (V.list (l.map .int)).data = true := by
  unfold V.data V.dataN
  rw [List.all_eq_true]
  intro v hv
  obtain ⟨x, _, rfl⟩ := List.mem_map.mp hv
  rfl
theorem data_pair (x : Nat × Nat) : (pairN x).data = true := dataN_pair x 7
end
section
variable {X : Cx} {k : Nat}
variable {σ : AHeap} {f : Addr} {t : List Nat} {least w : Nat} {foot : Addr → Prop} {Inv : Nat → AHeap → Prop} {Q : V → AHeap → Prop}
def nearV (t os : List Nat) : V := .list ((nearF t os).map intV)
theorem pairs_in (F : Fns X) (Z : Fi X k t least w f foot Inv) {i most row : Nat} (hI : Inv i σ) {os : List Nat} (O : Ordd t os) (hr : row < os.length) {R : Fl → List V → AHeap → Prop} : ∀ (gs : List (Nat × Nat)) (c : Nat) (z1 z2 z3 : V), Walk t (os.getD row 0) (nearF t os) os row c gs → (∀ x ∈ gs, row ≤ x.1 ∧ x.2 < t.length) →
    (∀ c z1 z2 z3, R .next [.ref f, ordV os, nearV t os, .int most, .int row, c, z1, z2, z3] σ) →
    forP (Tg.v 6) (fun ρ σ Q => wpSs X (k + 2) f_law_pairs_right_b1 ρ σ Q) R (gs.map fun x => V.int ((x.1 : Int) + 1)) [.ref f, ordV os, nearV t os, .int most, .int row, .int c, z1, z2, z3] σ
  | [], c, z1, z2, z3, _, _, hR => by simpa [forP] using hR _ _ _ _
  | (g, o) :: gs, c, z1, z2, z3, ⟨⟨e, h1, h2⟩, h3, h4, hw⟩, hg, hR => by
    simp only [List.map_cons, forP]
    have IH := fun z1 z2 z3 => pairs_in F Z hI O hr (R := R) (most := most) gs (L t (os.getD row 0) o) z1 z2 z3 hw (fun x hx => hg x (List.mem_cons_of_mem _ hx)) hR
    generalize hK : forP _ _ R (gs.map _) = K at IH
    obtain ⟨hg1, hg2⟩ := hg (g, o) List.mem_cons_self
    simp only at hg1 hg2
    rw [if_neg (by omega)] at h3
    obtain ⟨C, fs, ch, isC, M⟩ := Z.mt _ _ hI
    unfold ordV nearV at IH ⊢
    try simp only [wpSs, wpS, wpE, wpEs, truthP, cmpP, copI, binP, binI, asItems, asList, methP, asgP, setAll, idxP, List.getElem?_cons_zero, List.getElem?_cons_succ, List.set_cons_zero, List.set_cons_succ, Nat.reduceAdd, Option.some.injEq, exists_eq_left', ne_eq, reduceCtorEq, not_false_eq_true, true_and, Bool.not_true, Nat.reduceLeDiff, List.length_cons, List.length_nil, decide_eq_false_iff_not, Int.toNat_natCast, Bool.not_eq_eq_eq_not, f_law_pairs_right_b1]
    have e0 : ((g : Int) + 1 - 1).toNat = g := by omega
    have e1 : ((g : Int) + 1).toNat = g + 1 := by omega
    refine ⟨by omega, _, by rw [e0, List.getElem?_map, h1]; rfl, ?_⟩
    try simp only [intV]
    refine ⟨by omega, _, by rw [List.getElem?_map, getD_get hr]; rfl, by omega, _, by rw [e1, List.getElem?_map, h3]; rfl, ?_⟩
    try simp only [reduceCtorEq, not_false_eq_true, true_and, intV]
    have em : min (c : Int) (e : Int) = ((L t (os.getD row 0) o : Nat) : Int) := by omega
    rw [em]
    have hpo := O.get_lt hr
    generalize hq : os.getD row 0 = q at *
    have ex : max (q : Int) (o : Int) = ((max q o : Nat) : Int) := by omega
    have en : min (q : Int) (o : Int) = ((min q o : Nat) : Int) := by omega
    rw [ex, en]
    try simp only [true_and, M.obj, M.nom 19 (by decide)]
    refine ⟨145, isC.m19, ?_⟩
    refine length_c (k := k) F isC M (by omega) (by omega) ?_
    try simp only []
    have hLL : L t (max q o) (min q o) = L t q o := by
      rcases Nat.le_total q o with h | h
      · rw [Nat.max_eq_right h, Nat.min_eq_left h]; exact L_comm h4 hg2 hpo
      · rw [Nat.max_eq_left h, Nat.min_eq_right h]
    have hl1 := (L_le (t := t) (p := max q o) (q := min q o)).1
    have e5 : ((min (L t (max q o) (min q o)) (min most (t.length - max q o)) : Nat) : Int) = min ((L t q o : Nat) : Int) (most : Int) := by omega
    rw [e5]
    refine neg (by simp) ?_
    exact IH _ _ _
theorem pairs_c (F : Fns X) (Z : Fi X k t least w f foot Inv) {i most : Nat} (hI : Inv i σ) {os : List Nat} (O : Ordd t os) (hn : t.length ≤ 20) :
    WC X (k + 3) (.ref 379) [.ref f, ordV os, nearV t os, .int most] σ (fun v σ' => v = .bool true ∧ σ' = σ) := by
  refine wc_of F F.law_pairs_right rfl ?_
  have hlen := O.len
  try simp only [wpSs, wpS, wpE, wpI, lenP, asItems, asList, retQ, initR, range1P, List.getElem?_cons_zero, List.getElem?_cons_succ, List.cons_append, List.nil_append, List.replicate_succ, List.replicate_zero, Nat.reduceSub, Option.some.injEq, exists_eq_left', ne_eq, reduceCtorEq, not_false_eq_true, true_and, Int.toNat_natCast, List.length_map, f_law_pairs_right, f_law_pairs_right_b, ordV, small]
  refine ⟨by omega, ?_⟩
  refine forP_inv (fun items ρ σ' => σ' = σ ∧ (∀ x ∈ items, ∃ row, row < os.length ∧ x = V.int (row : Nat)) ∧ ∃ z1 z2 z3 z4 z5, ρ = [.ref f, ordV os, nearV t os, .int most, z1, z2, z3, z4, z5]) ?_ ?_ _ _ _ ⟨rfl, ?_, _, _, _, _, _, rfl⟩
  · rintro x r ρ σ' K ⟨rfl, hx, z1, z2, z3, z4, z5, rfl⟩ hK _ _
    obtain ⟨row, hrow, rfl⟩ := hx x List.mem_cons_self
    have hx' := fun y hy => hx y (List.mem_cons_of_mem _ hy)
    try simp only [wpSs, wpS, wpE, wpI, binP, binI, lenP, asItems, asList, asgP, range2P, List.getElem?_cons_zero, List.getElem?_cons_succ, List.set_cons_zero, List.set_cons_succ, Option.some.injEq, exists_eq_left', ne_eq, reduceCtorEq, not_false_eq_true, true_and, List.length_map, f_law_pairs_right_b2, ordV, small]
    refine ⟨by omega, by omega, ?_⟩
    have wr := right_walk O hrow rfl (os.length - 1 - row) 0 t.length (by omega) (fun _ => rfl) (fun h => by omega)
    simp only [Nat.add_zero] at wr
    have eR : (List.range ((os.length : Int) - ((row : Int) + 1)).toNat).map (fun (i : Nat) => V.int ((row : Int) + 1 + (i : Int))) = (rightL os row (os.length - 1 - row)).map fun x => V.int ((x.1 : Int) + 1) := by
      unfold rightL
      rw [List.map_map, show ((os.length : Int) - ((row : Int) + 1)).toNat = os.length - 1 - row by omega]
      apply List.map_congr_left
      intro i hi
      simp only [Function.comp]
      congr 1
      omega
    rw [eR]
    have := pairs_in F Z hI O hrow (most := most) (R := fun fl ρ' σ' => match fl with | .next => K .next ρ' σ' | .brk => K .brk ρ' σ' | .ret v => K (.ret v) ρ' σ') (rightL os row (os.length - 1 - row)) os.length z3 z4 z5 (by rw [hlen] at wr ⊢; exact wr) (fun x hx => ?_) (fun c z1 z2 z3 => hK _ _ ⟨rfl, hx', _, _, _, _, _, rfl⟩)
    · unfold ordV at this
      exact this
    · unfold rightL at hx
      obtain ⟨i, hi, rfl⟩ := List.mem_map.mp hx
      rw [List.mem_range] at hi
      exact ⟨by simp, O.get_lt (by omega)⟩
  · rintro ρ σ' ⟨rfl, _, z1, z2, z3, z4, z5, rfl⟩
    try simp only []
  · intro x hx
    obtain ⟨i, hi, rfl⟩ := List.mem_map.mp hx
    rw [List.mem_range] at hi
    exact ⟨i, by omega, rfl⟩
theorem narrow_c (F : Fns X) (Z : Fi X k t least w f foot Inv) (hI : Inv 0 σ) {os : List Nat} (O : Ordd t os) {most : Nat} (hs : 0 < least) (hls : least ≤ 30) (hm : most ≤ 30) (hn : t.length ≤ 20) :
    WC X (k + 2) (.ref 389) [.ref f, ordV os, nearV t os, .list [.int least, .int w, .int most]] σ (fun v σ' => v = .bool true) := by
  refine wc_of F F.law_narrow_right rfl ?_
  have hlen := O.len
  try simp only [wpSs, wpS, wpE, wpI, lenP, asItems, asList, asgP, setAll, retQ, initR, range1P, List.getElem?_cons_zero, List.getElem?_cons_succ, List.set_cons_zero, List.set_cons_succ, List.cons_append, List.nil_append, List.replicate_succ, List.replicate_zero, Nat.reduceSub, Nat.reduceAdd, Option.some.injEq, exists_eq_left', ne_eq, reduceCtorEq, not_false_eq_true, true_and, List.length_cons, List.length_nil, Int.toNat_natCast, List.length_map, f_law_narrow_right, f_law_narrow_right_b, ordV, small]
  refine ⟨by omega, ?_⟩
  refine forP_inv (fun items ρ σ' => ∃ i z1 z2, i ≤ t.length ∧ items = (List.range (t.length - i)).map (fun (j : Nat) => V.int ((i : Int) + (j : Int))) ∧ Inv i σ' ∧
      ρ = [.ref f, ordV os, nearV t os, .list [.int least, .int w, .int most], .int least, .int w, .int most, z1, z2, .undef]) ?_ ?_ _ _ _ ⟨0, _, _, by omega, ?_, hI, rfl⟩
  · rintro x r ρ σ' K ⟨i, z1, z2, hi, hx, hI, rfl⟩ hK _ _
    have hit : i < t.length := by
      rcases Nat.lt_or_ge i t.length with h | h
      · exact h
      · rw [show t.length - i = 0 by omega] at hx; simp at hx
    rw [show t.length - i = (t.length - (i + 1)) + 1 by omega, List.range_succ_eq_map, List.map_cons, List.map_map, List.cons.injEq] at hx
    obtain ⟨rfl, rfl⟩ := hx
    rw [show ((i : Int) + ((0 : Nat) : Int)) = (i : Int) by omega]
    unfold nearV
    try simp only [wpSs, wpS, wpE, wpEs, truthP, cmpP, lenP, asItems, asList, methP, asgP, mkList, List.getElem?_cons_zero, List.getElem?_cons_succ, List.set_cons_zero, List.set_cons_succ, Option.some.injEq, exists_eq_left', ne_eq, reduceCtorEq, not_false_eq_true, true_and, if_false, Bool.false_eq_true, Bool.not_true, List.length_map, Bool.not_eq_eq_eq_not, f_law_narrow_right_b1, ordV]
    refine (sides_c (k := k) F O hit hn).mono fun v σ1 ⟨⟨row, hr, he, ev⟩, E1⟩ => ?_
    subst ev
    have S := sides_of (w := w) O hit hr he
    have I1 := Z.keep i _ _ hI fun a o _ h => E1 a o h
    obtain ⟨C, fs, fn, a1, a2, a3, a4⟩ := Z.every i σ1 most I1 hit
    try simp only [wpE, wpEs, wpI, truthP, asFrozen, methP, asgP, List.getElem?_cons_zero, List.getElem?_cons_succ, List.set_cons_zero, List.set_cons_succ, Option.some.injEq, exists_eq_left', ne_eq, reduceCtorEq, not_false_eq_true, true_and, if_true, wpG, clr, Gs.slots, Tg.slots, Option.getD_some, List.append_nil, List.foldl_cons, List.foldl_nil, a1, a2]
    refine ⟨fn, a3, ?_⟩
    refine (a4.le (by omega)).mono fun v σ2 ⟨ev, E2⟩ => ?_
    subst ev
    have I2 := Z.keep i _ _ I1 fun a o _ h => E2 a o h
    have hrl : ∀ l : List Nat, ∀ v, (recs t i (min most (t.length - i)) v l).length ≤ l.length := by
      intro l
      induction l with
      | nil => intro v; simp [recs]
      | cons c l ih => intro v; rw [recs]; split <;> simp <;> have := ih v <;> have := ih (fv t i (min most (t.length - i)) c) <;> omega
    have hrl2 := hrl (cands i w) (least - 1)
    have hcl : (cands i w).length ≤ 20 := by unfold cands; simp; omega
    have hout : ∀ σ, WC X (k + 1) (.ref 372) [.list [sideV t i w ((leftL os row).map (·.2)), sideV t i w ((rightL os row (os.length - 1 - row)).map (·.2))], .int i, .int least, .int most] σ (fun v σ' => v = .list ((recs t i (min most (t.length - i)) (least - 1) (cands i w)).map pairN) ∧ Ext σ σ') := fun σ =>
      outwards_c F S hs hn hit (Nat.le_trans (List.length_filter_le _ _) (by simp [leftL]; omega)) (Nat.le_trans (List.length_filter_le _ _) (by simp [rightL]; omega)) hm hls
    have hlon : ∀ σ, WC X (k + 1) (.ref 367) [.list [sideV t i w ((leftL os row).map (·.2)), sideV t i w ((rightL os row (os.length - 1 - row)).map (·.2))], .int i, .int least] σ (fun v σ' => v = pairN (bestN (recs t i (t.length - i) (least - 1) (cands i w))) ∧ σ' = σ) := fun σ =>
      longest_c F S hs hn hit (Nat.le_trans (List.length_filter_le _ _) (by simp [leftL]; omega)) (Nat.le_trans (List.length_filter_le _ _) (by simp [rightL]; omega))
    generalize recs t i (min most (t.length - i)) (least - 1) (cands i w) = rl at *
    try simp only []
    refine fold_map (fun _ => True) pairN (fun x => [pairN x]) 900 ?_ rl _ (fun _ _ => trivial) (by rw [flat1]; simp; omega) ?_
    · intro x acc K _ hN hK
      simp only [List.length_singleton] at hN
      unfold pairN at hK ⊢
      try simp only [reduceCtorEq, not_false_eq_true, true_and]
      exact ⟨by omega, hK⟩
    rw [flat1, List.nil_append]
    refine ⟨by simp; omega, ?_⟩
    refine (hout σ2).mono fun v σ3 ⟨ev, E3⟩ => ?_
    subst ev
    have I3 := Z.keep i _ _ I2 fun a o _ h => E3 a o h
    try simp only [thaw]
    refine ⟨data_pairs _, data_pairs _, neg ?_ ?_⟩
    · rw [V.beq, beqs_pairs]; simp
    obtain ⟨C, fs, ch, isC, M⟩ := Z.mt _ _ I3
    try simp only [true_and, M.obj, M.nom 23 (by decide)]
    refine ⟨180, isC.m23, ?_⟩
    have hlc : ((os.length : Nat) : Int) = ((t.length : Nat) : Int) := by omega
    rw [hlc]
    refine best_c F Z I3 hit fun σ4 E4 => ?_
    have I4 := Z.keep i _ _ I3 fun a o _ h => E4 a o h
    rw [show min t.length (t.length - i) = t.length - i by omega]
    generalize hbv : bestN (recs t i (t.length - i) (least - 1) (cands i w)) = bv at hlon ⊢
    have ebv : pairN bv = .tup [.int (bv.1 : Nat), .int (bv.2 : Nat)] := rfl
    rw [ebv]
    try simp only []
    refine (hlon σ4).mono fun v σ5 ⟨ev, e5⟩ => ?_
    subst ev
    subst e5
    rw [ebv]
    try simp only []
    have ebq := beq_pairN bv
    rw [ebv] at ebq
    refine ⟨data_pair bv, data_pair bv, neg ?_ ?_⟩
    · rw [ebq]; simp
    obtain ⟨C, fs, ch, isC, M⟩ := Z.mt _ _ I4
    try simp only [true_and, M.obj, M.nom 15 (by decide)]
    refine ⟨117, isC.m15, ?_⟩
    refine ((Z.put i _ I4 hit).le (by omega)).mono fun v σ6 ⟨I6, _⟩ => ?_
    refine hK _ _ ⟨i + 1, _, _, by omega, ?_, I6, rfl⟩
    apply List.map_congr_left
    intro j _
    simp only [Function.comp]
    congr 1
    omega
  · rintro ρ σ' ⟨i, z1, z2, hi, hx, hI, rfl⟩
    try simp only []
  · rw [hlen]
    simp
end
end Mine
end

section
open PySem PySem.Calls PyProof.Rows PySem.W
set_option maxRecDepth 20000
namespace Mine
section
variable {X : Cx} {k : Nat}
variable {σ : AHeap} {f : Addr} {t : List Nat} {least : Nat} {foot : Addr → Prop} {Inv : Nat → AHeap → Prop} {Q : V → AHeap → Prop}
def SidesL (t : List Nat) (sl : List V) : Prop := sl.length = t.length ∧ ∀ p, p < t.length → ∃ l1 l2, sl[p]? = some (.list [sv t p l1, sv t p l2]) ∧ Sides t p t.length l1 l2 ∧ l1.length ≤ 30 ∧ l2.length ≤ 30
def bst (t : List Nat) (s p : Nat) : Nat × Nat := bestN (recs t p (t.length - p) (s - 1) (cands p t.length))
theorem wide_c (F : Fns X) (Z : Fi X k t least t.length f foot Inv) (hI : Inv 0 σ) {os : List Nat} (O : Ordd t os) {sl : List V} (SL : SidesL t sl) (hs : 0 < least) (hls : least ≤ 30) (h0 : 0 < t.length) (hn : t.length ≤ 20) :
    WC X (k + 2) (.ref 384) [.ref f, nearV t os, .list sl, .int least] σ (fun v σ' => v = .bool true ∧ Fram foot σ σ') := by
  refine wc_of F F.law_wide_right rfl ?_
  have hlen := O.len
  obtain ⟨sl1, sl2⟩ := SL
  have hnl : (nearF t os).length = t.length - 1 := by unfold nearF; simp; omega
  unfold nearV
  try simp only [wpSs, wpS, wpE, wpEs, wpI, truthP, cmpP, copI, binP, lenP, asItems, asList, asgP, setAll, retQ, initR, idxP, range1P, mkList, List.getElem?_cons_zero, List.getElem?_cons_succ, List.set_cons_zero, List.set_cons_succ, List.cons_append, List.nil_append, List.replicate_succ, List.replicate_zero, Nat.reduceSub, Nat.reduceAdd, Option.some.injEq, exists_eq_left', ne_eq, reduceCtorEq, not_false_eq_true, true_and, if_true, if_false, Bool.false_eq_true, Bool.not_true, Nat.reduceLeDiff, List.length_cons, List.length_nil, decide_eq_true_eq, decide_eq_false_iff_not, Int.toNat_natCast, Bool.not_eq_eq_eq_not, f_law_wide_right, f_law_wide_right_b, small]
  intro a ha
  try simp only [wpSs, wpS, wpE, wpEs, wpI, truthP, cmpP, copI, binP, binI, attrP, lenP, asItems, asList, asFrozen, methP, asgP, setAll, setattrP, putF, retQ, initR, idxP, lastP, bndP, sliceP, revP, dgetP, isDict, range1P, range2P, range3P, appendP, frzP, V.isNone, mkList, List.getElem?_cons_zero, List.getElem?_cons_succ, List.set_cons_zero, List.set_cons_succ, List.set_nil, List.cons_append, List.nil_append, List.replicate_succ, List.replicate_zero, Nat.reduceSub, Nat.reduceAdd, Option.some.injEq, exists_eq_left', ne_eq, reduceCtorEq, not_false_eq_true, true_and, and_true, if_true, if_false, Bool.true_eq_false, Bool.false_eq_true, Option.isSome_some, Nat.reduceBEq, List.lookup_nil, lookup_hit, lookup_miss, bne_self_eq_false, Bool.not_true, Bool.not_false, decide_true, decide_false, ite_true, ite_false, reduceIte, Nat.reduceEqDiff, Nat.reduceLT, Nat.reduceLeDiff, List.length_cons, List.length_nil, decide_eq_true_eq, Bool.not_eq_true', decide_eq_false_iff_not, Int.toNat_natCast, List.length_map, Bool.and_eq_true, Bool.or_eq_true, Bool.not_eq_eq_eq_not, Bool.not_eq_true, Bool.not_eq_false, small]
  refine ⟨by omega, ?_⟩
  rw [sl1]
  have nfa : ¬ foot a := fun h => Z.live _ _ hI a h ha
  refine forP_inv (fun items ρ σ' => ∃ i z1, i ≤ t.length ∧ items = (List.range (t.length - i)).map (fun (j : Nat) => V.int ((i : Int) + (j : Int))) ∧ Inv i σ' ∧ Fram foot σ σ' ∧ σ' a = some (.list (((List.range i).map (bst t least)).map pairN)) ∧
      ρ = [.ref f, .list ((nearF t os).map intV), .list sl, .int least, .int t.length, .ref a, z1, .undef, .undef, .undef, .undef, .undef]) ?_ ?_ _ _ _ ⟨0, _, by omega, ?_, Z.keep _ _ _ hI fun b o _ h => (Ext.upd ha) b o h, (Ext.upd ha).fram, upd_self, rfl⟩
  · rintro x r ρ σ' K ⟨i, z1, hi, hx, hI, hF, hA, rfl⟩ hK _ _
    have hit : i < t.length := by
      rcases Nat.lt_or_ge i t.length with h | h
      · exact h
      · rw [show t.length - i = 0 by omega] at hx; simp at hx
    rw [show t.length - i = (t.length - (i + 1)) + 1 by omega, List.range_succ_eq_map, List.map_cons, List.map_map, List.cons.injEq] at hx
    obtain ⟨rfl, rfl⟩ := hx
    rw [show ((i : Int) + ((0 : Nat) : Int)) = (i : Int) by omega]
    obtain ⟨C, fs, ch, isC, M⟩ := Z.mt _ _ hI
    try simp only [wpSs, wpS, wpE, wpEs, asList, methP, asgP, appendP, List.getElem?_cons_zero, List.getElem?_cons_succ, List.set_cons_zero, List.set_cons_succ, Option.some.injEq, exists_eq_left', ne_eq, reduceCtorEq, not_false_eq_true, true_and, Option.isSome_some, f_law_wide_right_b1, hA, M.obj, M.nom 23 (by decide)]
    refine ⟨180, isC.m23, ?_⟩
    refine best_c F Z hI hit fun σ1 E1 => ?_
    have I1 := Z.keep i _ _ hI fun a o _ h => E1 a o h
    rw [show min t.length (t.length - i) = t.length - i by omega]
    have hA1 := E1 _ _ hA
    have ebv : pairN (bestN (recs t i (t.length - i) (least - 1) (cands i t.length))) = .tup [.int ((bst t least i).1 : Nat), .int ((bst t least i).2 : Nat)] := rfl
    rw [ebv]
    try simp only [List.length_map, hA1]
    refine ⟨by simp; omega, ?_⟩
    have naf : a ≠ f := fun e => nfa (e ▸ Z.self)
    have E2 : ∀ b o, foot b → σ1 b = some o → upd σ1 a (.list (((List.range i).map (bst t least)).map pairN ++ [.tup [.int ((bst t least i).1 : Nat), .int ((bst t least i).2 : Nat)]])) b = some o := fun b o hb h => by
      rw [upd_ne (show b ≠ a from fun e => nfa (e ▸ hb))]; exact h
    have I2 := Z.keep i _ _ I1 E2
    obtain ⟨C, fs, ch, isC, M⟩ := Z.mt _ _ I2
    try simp only [true_and, M.obj, M.nom 15 (by decide)]
    refine ⟨117, isC.m15, ?_⟩
    refine ((Z.put i _ I2 hit).le (by omega)).mono fun v σ3 ⟨I3, F3⟩ => ?_
    refine hK _ _ ⟨i + 1, _, by omega, ?_, I3, ?_, ?_, rfl⟩
    · apply List.map_congr_left
      intro j _
      simp only [Function.comp]
      congr 1
      omega
    · intro b o hb e
      have nb : b ≠ a := fun q => by rw [q, ha] at e; cases e
      exact F3 b o hb (by rw [upd_ne nb]; exact E1 _ _ (hF b o hb e))
    · rw [F3 a _ nfa upd_self, List.range_succ, List.map_append, List.map_append]
      rfl
  · rintro ρ σ' ⟨i, z1, hi, hx, hI, hF, hA, rfl⟩
    have hit : i = t.length := by
      have := congrArg List.length hx
      simp at this
      omega
    subst hit
    try simp only [wpE, wpI, truthP, asFrozen, asgP, range1P, List.getElem?_cons_zero, List.getElem?_cons_succ, List.set_cons_zero, List.set_cons_succ, List.cons_append, List.nil_append, Nat.reduceAdd, Option.some.injEq, exists_eq_left', ne_eq, reduceCtorEq, not_false_eq_true, true_and, if_true, Nat.reduceLeDiff, List.length_cons, List.length_nil, Int.toNat_natCast, fzP, hA, wpG, clr, Gs.slots, Tg.slots, Option.getD_some, List.append_nil, List.foldl_cons, List.foldl_nil]
    refine fold_map (fun _ => True) intV (fun c => [intV (phi least c)]) 900 ?_ (nearF t os) _ (fun _ _ => trivial) (by rw [flat1]; simp; omega) ?_
    · intro c acc K _ hN hK
      simp only [List.length_singleton] at hN
      unfold intV at hK ⊢
      try simp only [reduceCtorEq, not_false_eq_true, true_and]
      refine ⟨by omega, ?_⟩
      unfold phi at hK
      by_cases h : least ≤ c
      · rw [if_pos h] at hK
        exact pos (by omega) hK
      · rw [if_neg h] at hK
        exact neg (by omega) hK
    rw [flat1, List.nil_append]
    refine ⟨by simp; omega, ?_⟩
    refine fold_map (fun _ => True) pairN (fun x => [intV x.1]) 900 ?_ ((List.range t.length).map (bst t least)) _ (fun _ _ => trivial) (by rw [flat1]; simp; omega) ?_
    · intro x acc K _ hN hK
      simp only [List.length_singleton] at hN
      unfold pairN
      unfold intV at hK
      try simp only [setAll, List.getElem?_cons_zero, List.getElem?_cons_succ, List.set_cons_zero, List.set_cons_succ, Nat.reduceAdd, Option.some.injEq, exists_eq_left', reduceCtorEq, not_false_eq_true, true_and, List.length_cons, List.length_nil]
      exact ⟨by omega, hK⟩
    rw [flat1, List.nil_append]
    refine ⟨by simp; omega, ?_⟩
    have em1 : ((List.range t.length).map (bst t least)).map (fun x => intV x.1) = ((List.range t.length).map fun p => phi least (lpf t p)).map intV := by
      rw [List.map_map, List.map_map]
      apply List.map_congr_left
      intro p hp
      rw [List.mem_range] at hp
      simp only [Function.comp]
      unfold bst
      rw [best_lpf hs hp]
    rw [em1]
    try simp only [asList, Nat.reduceLeDiff, List.length_cons, List.length_map, sortP, ints_nat]
    refine ⟨by simp; omega, fun y1 hy1 hs1 => ?_⟩
    have em2 : V.int 0 :: (nearF t os).map (fun c => intV (phi least c)) = (0 :: (nearF t os).map (phi least)).map intV := by
      rw [List.map_cons, List.map_map]; rfl
    rw [em2]
    try simp only [ints_nat]
    refine ⟨by omega, by omega, fun y2 hy2 hs2 => ?_⟩
    have hperm : ((List.range t.length).map fun p => phi least (lpf t p)).Perm (0 :: (nearF t os).map (phi least)) := by
      have h1 := (lpf_all O h0).map (phi least)
      rw [List.map_map, List.map_cons] at h1
      have h2 : phi least 0 = 0 := by unfold phi; rw [if_neg (by omega)]
      rw [h2] at h1
      exact h1
    have hyy : y1 = y2 := sorted_eq ((hy1.trans (hperm.map _)).trans hy2.symm) hs1 hs2
    subst hyy
    try simp only [thaw]
    refine ⟨data_ints _, data_ints _, neg ?_ ?_⟩
    · rw [V.beq, beqs_ints]; simp
    refine ⟨⟨by omega, by omega⟩, ?_⟩
    have eL : (V.list ((List.range t.length).map fun p => pairN (bst t least p))).beq (.list ((List.range t.length).map fun p => pairN (bst t least p))) = true := by
      rw [V.beq]
      have := beqs_pairs ((List.range t.length).map (bst t least))
      rw [List.map_map] at this
      exact this
    refine fold_map (fun p => p < t.length) (fun (p : Nat) => V.int (p : Int)) (fun p => [pairN (bst t least p)]) 900 ?_ (List.range t.length) _ (fun p hp => List.mem_range.mp hp) (by rw [flat1]; simp; omega) ?_
    · intro p acc K hp hN hK
      simp only [List.length_singleton] at hN
      obtain ⟨l1, l2, g1, S, b1, b2⟩ := sl2 p hp
      try simp only [reduceCtorEq, not_false_eq_true, true_and, Int.toNat_natCast]
      refine ⟨by omega, by omega, _, g1, ?_⟩
      refine (longest_c (k := k) F S hs hn hp b1 b2).mono fun v σ4 ⟨ev, es⟩ => ?_
      subst ev
      subst es
      exact hK
    rw [flat1, List.nil_append]
    have em3 : ((List.range t.length).map fun p => pairN (bst t least p)) = ((List.range t.length).map (bst t least)).map pairN := by rw [List.map_map]; rfl
    rw [em3]
    refine ⟨by simp; omega, data_pairs _, data_pairs _, by rw [V.beq, beqs_pairs], fun b o hb e => ?_⟩
    have nb : b ≠ a := fun q => by rw [q, ha] at e; cases e
    rw [del_ne nb]
    exact hF b o hb e
  · simp
end
end Mine
end

section
open PySem PySem.Calls PyProof.Rows PySem.W
set_option maxRecDepth 20000
namespace Mine
section
variable {X : Cx} {k : Nat}
variable {σ : AHeap} {t : List Nat} {Q : V → AHeap → Prop}
def wayS (i : Nat) : V := .str (PySem.Str.ofString (["chain", "tree", "layers"].getD i ""))
theorem for_any (F : Fns X) {i least w ch : Nat} (hi : i < 3) (h2 : i = 2 → least = 2) (hb : ∀ o ∈ t, o < 256) (hl : 0 < least) (hw : 0 < w) (hc : t.length < ch) (hn : t.length ≤ 900) :
    WC X (k + 7) (.ref 317) [wayS i, .bytes t, .int least, .int w, .int ch] σ (NewFi X (k + 6) t least w σ) := by
  match i, hi with
  | 0, _ => exact for_chain F hb hl hw hc hn
  | 1, _ => exact for_tree F hb hl hw hc hn
  | 2, _ =>
    have := h2 rfl
    subst this
    exact for_layers F (by simp) hb hw hc hn
theorem BoxSt.only {b : Addr} {σ σ' : AHeap} (h : BoxSt σ b) (e : ∀ o, σ b = some o → σ' b = some o) : BoxSt σ' b := by
  obtain ⟨d, s, q⟩ := h
  exact ⟨d, s, e _ q⟩
theorem sl_snoc {acc : List V} {v : V} {P : Nat → V → Prop} (h : ∀ p v, acc[p]? = some v → P p v) (hv : P acc.length v) : ∀ p v', (acc ++ [v])[p]? = some v' → P p v' := by
  intro p v' e
  rcases Nat.lt_trichotomy p acc.length with q | q | q
  · rw [List.getElem?_append_left q] at e; exact h p v' e
  · subst q
    rw [List.getElem?_append_right (Nat.le_refl _)] at e
    simp at e
    rw [← e]; exact hv
  · rw [List.getElem?_eq_none (by simp; omega)] at e; cases e
theorem sh0 {r : Nat} (h : r < 4) : ∃ x : Nat, [V.int 1, V.int 2, V.int 1, V.int 3][r]? = some (.int x) ∧ 0 < x ∧ x ≤ 4 := by
  match r, h with
  | 0, _ => exact ⟨1, rfl, by omega, by omega⟩
  | 1, _ => exact ⟨2, rfl, by omega, by omega⟩
  | 2, _ => exact ⟨1, rfl, by omega, by omega⟩
  | 3, _ => exact ⟨3, rfl, by omega, by omega⟩
theorem sh1 {r : Nat} (h : r < 4) : ∃ x : Nat, [V.int 1, V.int 2, V.int 1, V.int 4][r]? = some (.int x) ∧ 0 < x ∧ x ≤ 4 := by
  match r, h with
  | 0, _ => exact ⟨1, rfl, by omega, by omega⟩
  | 1, _ => exact ⟨2, rfl, by omega, by omega⟩
  | 2, _ => exact ⟨1, rfl, by omega, by omega⟩
  | 3, _ => exact ⟨4, rfl, by omega, by omega⟩
def law_rest2 : Ss := (.cons (.asg (.tup [9, 10, 11]) (.tup (.cons (.callf 7 (.cons (.v 1) (.cons (.int 3) .nil))) (.cons (.bin .add (.int 1) (.callf 7 (.cons (.v 1) (.cons (.v 3) .nil)))) (.cons (.idx (.lst (.cons (.v 3) (.cons (.bin .add (.int 1) (.callf 7 (.cons (.v 1) (.cons (.int 5) .nil)))) .nil))) (.callf 7 (.cons (.v 1) (.cons (.int 2) .nil)))) .nil))))) (.cons (.asg (.v 12) (.callf 5 (.cons (.idx (.v 4) (.v 9)) (.cons (.v 2) (.cons (.idx (.v 8) (.v 9)) (.cons (.v 10) (.cons (.bin .add (.v 3) (.int 1)) .nil))))))) (.cons (.ife (.not (.callf 15 (.cons (.v 12) (.cons (.v 5) (.cons (.v 6) (.cons (.v 11) .nil)))))) (.cons (.ret (.bool false)) .nil) .nil) (.cons (.ret (.callf 17 (.cons (.v 12) (.cons (.v 5) (.cons (.v 6) (.cons (.lst (.cons (.idx (.v 8) (.v 9)) (.cons (.v 10) (.cons (.v 11) .nil)))) .nil)))))) .nil))))
def law_rest : Ss := (.cons (.asg (.tup [3, 4]) (.tup (.cons (.len (.v 2)) (.cons (.lst (.cons (.str "chain") (.cons (.str "tree") (.cons (.str "layers") .nil)))) .nil)))) (.cons (.asg (.tup [5, 6]) (.callf 11 (.cons (.v 2) .nil))) (.cons (.asg (.v 7) (.comp false (.callf 12 (.cons (.v 5) (.cons (.v 6) (.cons (.v 13) (.cons (.v 3) .nil))))) (.cons (.v 13) (.r1 (.v 3)) (.bool true) .nil))) (.cons (.asg (.v 8) (.lst (.cons (.idx (.lst (.cons (.int 1) (.cons (.int 2) (.cons (.int 1) (.cons (.int 3) .nil))))) (.callf 7 (.cons (.v 1) (.cons (.int 4) .nil)))) (.cons (.idx (.lst (.cons (.int 1) (.cons (.int 2) (.cons (.int 1) (.cons (.int 4) .nil))))) (.callf 7 (.cons (.v 1) (.cons (.int 4) .nil)))) (.cons (.int 2) .nil))))) (.cons (.forr (.v 9) (.r1 (.int 3)) f_law_b1) law_rest2)))))
theorem law_b_eq : f_law_b = (.cons (.asg (.v 1) (.callf 6 (.cons (.v 0) .nil))) (.cons (.asg (.v 2) (.callf 8 (.cons (.v 1) (.cons (.ite (.and (.cmp (.len (.v 0)) .lt (.int 2)) (.cmp (.idx (.v 1) (.int 0)) .eq (.int 0))) (.int 5) (.bin .add (.int 8) (.callf 7 (.cons (.v 1) (.cons (.int 5) .nil))))) .nil)))) law_rest)) := rfl
theorem law2 (F : Fns X) {b : Addr} {os : List Nat} {sl : List V} {s0 s1 : Nat} {sc z9 : V} (hb : ∀ o ∈ t, o < 256) (h5 : 2 ≤ t.length) (hn : t.length ≤ 20) (O : Ordd t os) (B : BoxSt σ b) (hs0 : 0 < s0 ∧ s0 ≤ 4) (hs1 : 0 < s1 ∧ s1 ≤ 4) :
    wpSs X (k + 9) law_rest2 [sc, .ref b, .bytes t, .int t.length, .list [wayS 0, wayS 1, wayS 2], ordV os, nearV t os, .list sl, .list [.int s0, .int s1, .int 2], z9, .undef, .undef, .undef, .undef] σ (fun fl _ _ => fl = .ret (.bool true)) := by
  unfold law_rest2
  try simp only [wpSs, wpS, wpE, wpEs, truthP, binP, binI, asItems, asList, asgP, setAll, idxP, mkList, List.getElem?_cons_zero, List.getElem?_cons_succ, List.set_cons_zero, List.set_cons_succ, Nat.reduceAdd, Option.some.injEq, exists_eq_left', ne_eq, reduceCtorEq, not_false_eq_true, true_and, if_false, Bool.false_eq_true, Bool.not_true, Nat.reduceLeDiff, List.length_cons, List.length_nil, Bool.not_eq_eq_eq_not]
  refine ((take_c (many := 3) (k := k) F B (by omega) (by omega)).le (by omega)).mono fun v σ1 ⟨⟨r, hr, ev⟩, B1, O1⟩ => ?_
  subst ev
  try simp only [reduceCtorEq, not_false_eq_true, true_and, Int.toNat_natCast]
  refine ((take_c (many := t.length) (k := k) F B1 (by omega) (by omega)).le (by omega)).mono fun v σ2 ⟨⟨w, hw, ev⟩, B2, O2⟩ => ?_
  subst ev
  try simp only []
  refine ((take_c (many := 5) (k := k) F B2 (by omega) (by omega)).le (by omega)).mono fun v σ3 ⟨⟨m5, hm5, ev⟩, B3, O3⟩ => ?_
  subst ev
  try simp only []
  refine ((take_c (many := 2) (k := k) F B3 (by omega) (by omega)).le (by omega)).mono fun v σ4 ⟨⟨ch2, hch2, ev⟩, B4, O4⟩ => ?_
  subst ev
  try simp only [Int.toNat_natCast]
  have hmo : ∃ most : Nat, [V.int (t.length : Nat), V.int (1 + (m5 : Int))][ch2]? = some (.int most) ∧ most ≤ 30 := by
    match ch2, hch2 with
    | 0, _ => exact ⟨t.length, rfl, by omega⟩
    | 1, _ => exact ⟨1 + m5, by simp, by omega⟩
  obtain ⟨most, hmo, hm30⟩ := hmo
  refine ⟨by omega, _, hmo, ?_⟩
  have hsh : ∃ s : Nat, [V.int (s0 : Nat), V.int (s1 : Nat), V.int 2][r]? = some (.int s) ∧ 0 < s ∧ s ≤ 4 ∧ (r = 2 → s = 2) := by
    match r, hr with
    | 0, _ => exact ⟨s0, rfl, hs0.1, hs0.2, by omega⟩
    | 1, _ => exact ⟨s1, rfl, hs1.1, hs1.2, by omega⟩
    | 2, _ => exact ⟨2, rfl, by omega, by omega, by omega⟩
  obtain ⟨s, hs, hs2, hs3, hs4⟩ := hsh
  have hway : [wayS 0, wayS 1, wayS 2][r]? = some (wayS r) := by
    match r, hr with
    | 0, _ => rfl
    | 1, _ => rfl
    | 2, _ => rfl
  try simp only [reduceCtorEq, not_false_eq_true, true_and]
  refine ⟨by omega, _, hway, by omega, _, hs, ?_⟩
  rw [show (1 : Int) + (w : Int) = ((1 + w : Nat) : Int) by omega, show (t.length : Int) + 1 = ((t.length + 1 : Nat) : Int) by omega]
  refine ((for_any (k := k) F hr hs4 hb hs2 (by omega) (by omega) (by omega)).le (by omega)).mono fun v σ5 ⟨f, foot, Inv, ev, Z, I0, E5, fr⟩ => ?_
  subst ev
  try simp only [reduceCtorEq, not_false_eq_true, true_and]
  refine ⟨by simp [ordV], by simp [nearV], ?_⟩
  refine (pairs_c F Z I0 (most := most) O hn).mono fun v σ6 ⟨ev, es⟩ => ?_
  subst ev
  subst es
  try simp only [if_false, Bool.true_eq_false]
  refine ⟨by simp [ordV], by simp [nearV], by omega, _, hs, ?_⟩
  refine ((narrow_c F Z I0 O hs2 (by omega) hm30 hn).le (by omega)).mono fun v σ7 ev => ?_
  rw [ev]
theorem law1 (F : Fns X) {b : Addr} {sc : V} (hb : ∀ o ∈ t, o < 256) (h5 : 2 ≤ t.length) (hn : t.length ≤ 20) (B : BoxSt σ b) :
    wpSs X (k + 9) law_rest [sc, .ref b, .bytes t, .undef, .undef, .undef, .undef, .undef, .undef, .undef, .undef, .undef, .undef, .undef] σ (fun fl _ _ => fl = .ret (.bool true)) := by
  unfold law_rest
  try simp only [wpSs, wpS, wpE, wpEs, wpI, lenP, asItems, asList, asgP, setAll, idxP, range1P, mkList, List.getElem?_cons_zero, List.getElem?_cons_succ, List.set_cons_zero, List.set_cons_succ, Nat.reduceAdd, Option.some.injEq, exists_eq_left', ne_eq, reduceCtorEq, not_false_eq_true, true_and, if_false, Bool.false_eq_true, Nat.reduceLeDiff, List.length_cons, List.length_nil, List.length_map]
  refine ((order_c (k := k) F hb h5 hn).le (by omega)).mono fun v σ1 ⟨⟨os, O, ev⟩, E1⟩ => ?_
  subst ev
  have B1 := B.only fun o h => E1 _ _ h
  try simp only [wpE, wpI, truthP, asgP, setAll, range1P, List.getElem?_cons_zero, List.getElem?_cons_succ, List.set_cons_zero, List.set_cons_succ, Nat.reduceAdd, Option.some.injEq, exists_eq_left', ne_eq, reduceCtorEq, not_false_eq_true, true_and, if_true, List.length_cons, List.length_nil, Int.toNat_natCast, wpG, clr, Gs.slots, Tg.slots, Option.getD_some, List.append_nil, List.foldl_cons, List.foldl_nil, small]
  refine ⟨by omega, ?_⟩
  have hol : (List.range t.length).length = t.length := List.length_range
  refine fold_comp (fun items acc σ' => ∃ i, i ≤ t.length ∧ items = (List.range (t.length - i)).map (fun (j : Nat) => V.int ((i : Int) + (j : Int))) ∧ acc.length = i ∧ BoxSt σ' b ∧
      ∀ p v, acc[p]? = some v → ∃ l1 l2, v = .list [sv t p l1, sv t p l2] ∧ Sides t p t.length l1 l2 ∧ l1.length ≤ 30 ∧ l2.length ≤ 30) ?_ ?_ _ _ _ ⟨0, by omega, by simp, rfl, B1, by simp⟩
  · rintro x r acc σ2 K ⟨i, hi, hx, hacc, B2, hsl⟩ hK
    have hit : i < t.length := by
      rcases Nat.lt_or_ge i t.length with h | h
      · exact h
      · rw [show t.length - i = 0 by omega] at hx; simp at hx
    rw [show t.length - i = (t.length - (i + 1)) + 1 by omega, List.range_succ_eq_map, List.map_cons, List.map_map, List.cons.injEq] at hx
    obtain ⟨rfl, rfl⟩ := hx
    rw [show ((i : Int) + ((0 : Nat) : Int)) = (i : Int) by omega]
    try simp only [reduceCtorEq, not_false_eq_true, true_and]
    refine ⟨by omega, by simp [ordV], ?_⟩
    refine ((sides_c (k := k) F O hit hn).le (by omega)).mono fun v σ3 ⟨⟨row, hr, he, ev⟩, E3⟩ => ?_
    subst ev
    refine hK _ _ ⟨i + 1, by omega, ?_, by simp [hacc], B2.only fun o h => E3 _ _ h, sl_snoc (P := fun p v => ∃ l1 l2, v = .list [sv t p l1, sv t p l2] ∧ Sides t p t.length l1 l2 ∧ l1.length ≤ 30 ∧ l2.length ≤ 30) hsl ?_⟩
    · apply List.map_congr_left
      intro j _
      simp only [Function.comp]
      congr 1
      omega
    · have hlen := O.len
      rw [hacc]
      exact ⟨_, _, rfl, sides_of O hit hr he, Nat.le_trans (List.length_filter_le _ _) (by simp [leftL]; omega), Nat.le_trans (List.length_filter_le _ _) (by simp [rightL]; omega)⟩
  · rintro sl σ2 ⟨i, hi, hx, hacc, B2, hsl⟩
    have hit : i = t.length := by
      have := congrArg List.length hx
      simp at this
      omega
    have SL : SidesL t sl := ⟨by omega, fun p hp => by
      have e : sl[p]? = some (sl[p]'(by omega)) := List.getElem?_eq_getElem (by omega)
      obtain ⟨l1, l2, e1, S, b1, b2⟩ := hsl p _ e
      exact ⟨l1, l2, by rw [e, e1], S, b1, b2⟩⟩
    refine ⟨by omega, ?_⟩
    refine ((take_c (many := 4) (k := k) F B2 (by omega) (by omega)).le (by omega)).mono fun v σ3 ⟨⟨r0, hr0, ev⟩, B3, O3⟩ => ?_
    subst ev
    obtain ⟨s0, g0, p0⟩ := sh0 hr0
    try simp only [Int.toNat_natCast]
    refine ⟨by omega, _, g0, ?_⟩
    refine ((take_c (many := 4) (k := k) F B3 (by omega) (by omega)).le (by omega)).mono fun v σ4 ⟨⟨r1, hr1, ev⟩, B4, O4⟩ => ?_
    subst ev
    obtain ⟨s1, g1, p1⟩ := sh1 hr1
    try simp only [Int.toNat_natCast]
    refine ⟨by omega, _, g1, ?_⟩
    refine ⟨by omega, ?_⟩
    refine forP_inv (fun items ρ σ' => BoxSt σ' b ∧ (∀ x ∈ items, ∃ i : Nat, i < 3 ∧ x = V.int i) ∧ ∃ z9, ρ = [sc, .ref b, .bytes t, .int t.length, .list [wayS 0, wayS 1, wayS 2], ordV os, nearV t os, .list sl, .list [.int s0, .int s1, .int 2], z9, .undef, .undef, .undef, .undef]) ?_ ?_ _ _ _ ⟨B4, ?_, _, rfl⟩
    · rintro x r ρ σ5 K ⟨B5, hxs, z9, rfl⟩ hK _ _
      obtain ⟨i, hi3, rfl⟩ := hxs x List.mem_cons_self
      have hxs' := fun y hy => hxs y (List.mem_cons_of_mem _ hy)
      have hsh : ∃ s : Nat, [V.int (s0 : Nat), V.int (s1 : Nat), V.int 2][i]? = some (.int s) ∧ 0 < s ∧ s ≤ 4 ∧ (i = 2 → s = 2) := by
        match i, hi3 with
        | 0, _ => exact ⟨s0, rfl, p0.1, p0.2, by omega⟩
        | 1, _ => exact ⟨s1, rfl, p1.1, p1.2, by omega⟩
        | 2, _ => exact ⟨2, rfl, by omega, by omega, by omega⟩
      obtain ⟨s, hs, hs2, hs3, hs4⟩ := hsh
      have hway : [wayS 0, wayS 1, wayS 2][i]? = some (wayS i) := by
        match i, hi3 with
        | 0, _ => rfl
        | 1, _ => rfl
        | 2, _ => rfl
      try simp only [wpSs, wpS, wpE, wpEs, truthP, binP, binI, asItems, asList, asgP, idxP, List.getElem?_cons_zero, List.getElem?_cons_succ, List.set_cons_zero, List.set_cons_succ, Option.some.injEq, exists_eq_left', ne_eq, reduceCtorEq, not_false_eq_true, true_and, Bool.not_true, Int.toNat_natCast, Bool.not_eq_eq_eq_not, f_law_b1]
      refine ⟨by omega, _, hway, by omega, _, hs, ?_⟩
      rw [show (t.length : Int) + 1 = ((t.length + 1 : Nat) : Int) by omega]
      refine ((for_any (k := k) F hi3 hs4 hb hs2 (by omega) (by omega) (by omega)).le (by omega)).mono fun v σ6 ⟨f, foot, Inv, ev, Z, I0, E6, fr⟩ => ?_
      subst ev
      try simp only [wpSs, wpS, wpE, wpEs, wpI, truthP, cmpP, copI, binP, binI, attrP, lenP, asItems, asList, asFrozen, methP, asgP, setAll, setattrP, putF, retQ, initR, idxP, lastP, bndP, sliceP, revP, dgetP, isDict, range1P, range2P, range3P, appendP, frzP, V.isNone, mkList, List.getElem?_cons_zero, List.getElem?_cons_succ, List.set_cons_zero, List.set_cons_succ, List.set_nil, List.cons_append, List.nil_append, List.replicate_succ, List.replicate_zero, Nat.reduceSub, Nat.reduceAdd, Option.some.injEq, exists_eq_left', ne_eq, reduceCtorEq, not_false_eq_true, true_and, and_true, if_true, if_false, Bool.true_eq_false, Bool.false_eq_true, Option.isSome_some, Nat.reduceBEq, List.lookup_nil, lookup_hit, lookup_miss, bne_self_eq_false, Bool.not_true, Bool.not_false, decide_true, decide_false, ite_true, ite_false, reduceIte, Nat.reduceEqDiff, Nat.reduceLT, Nat.reduceLeDiff, List.length_cons, List.length_nil, decide_eq_true_eq, Bool.not_eq_true', decide_eq_false_iff_not, Int.toNat_natCast, List.length_map, Bool.and_eq_true, Bool.or_eq_true, Bool.not_eq_eq_eq_not, Bool.not_eq_true, Bool.not_eq_false]
      refine ⟨by simp [nearV], by omega, _, hs, ?_⟩
      refine ((wide_c F Z I0 O SL hs2 (by omega) (by omega) hn).le (by omega)).mono fun v σ7 ⟨ev, F7⟩ => ?_
      subst ev
      try simp only [if_false, Bool.true_eq_false]
      refine hK _ _ ⟨B5.only fun o h => F7 b o (fun hbf => ?_) (E6 _ _ h), hxs', _, rfl⟩
      obtain ⟨d, s', e⟩ := B5
      have := fr b hbf
      rw [e] at this
      cases this
    · rintro ρ σ5 ⟨B5, _, z9, rfl⟩
      exact law2 F hb h5 hn O B5 p0 p1
    · intro x hx
      obtain ⟨i, hi, rfl⟩ := List.mem_map.mp hx
      rw [List.mem_range] at hi
      exact ⟨i, by simpa using hi, rfl⟩
theorem law_ok (F : Fns X) (ns : List Int) : wpSs X (k + 9) f_law_b (initR f_law [.list (ns.map .int)]) σ (fun fl _ _ => fl = .ret (.bool true)) := by
  rw [law_b_eq]
  try simp only [wpSs, wpS, wpE, wpEs, truthP, cmpP, copI, binP, binI, lenP, asItems, asList, asgP, initR, idxP, List.getElem?_cons_zero, List.getElem?_cons_succ, List.set_cons_zero, List.set_cons_succ, List.cons_append, List.nil_append, List.replicate_succ, List.replicate_zero, Nat.reduceSub, Option.some.injEq, exists_eq_left', ne_eq, reduceCtorEq, not_false_eq_true, true_and, if_false, Bool.false_eq_true, decide_eq_true_eq, List.length_map, f_law]
  refine ((box_c (k := k) F).le (by omega)).mono fun v σ1 ⟨b, ev, hb0, B1, E1⟩ => ?_
  subst ev
  have go : ∀ (room : Nat) σ2, 5 ≤ room → room ≤ 12 → BoxSt σ2 b → WC X (k + 9) (.ref 336) [.ref b, .int room] σ2 (fun v σ' => wpSs X (k + 9) law_rest [.list (ns.map .int), .ref b, v, .undef, .undef, .undef, .undef, .undef, .undef, .undef, .undef, .undef, .undef, .undef] σ' (fun fl _ _ => fl = .ret (.bool true))) := fun room σ2 h1 h2 B2 => by
    refine ((text_c (k := k) (room := room) F B2 (by omega)).le (by omega)).mono fun v σ3 ⟨⟨t, ev, ht, hb⟩, B3, O3⟩ => ?_
    subst ev
    exact law1 F hb (by omega) (by omega) B3
  refine ⟨by simp, ?_⟩
  have B1' := B1
  obtain ⟨d, st, hbx⟩ := B1
  split
  · try simp only [reduceCtorEq, not_false_eq_true, true_and, hbx]
    refine ⟨by omega, _, rfl, ?_⟩
    try simp only []
    split
    · exact go 5 σ1 (by omega) (by omega) B1'
    · skip
      refine ((take_c (many := 5) (k := k) F B1' (by omega) (by omega)).le (by omega)).mono fun v σ3 ⟨⟨r0, hr0, ev⟩, B3, O3⟩ => ?_
      subst ev
      try simp only []
      rw [show (8 : Int) + (r0 : Int) = ((8 + r0 : Nat) : Int) by omega]
      exact go (8 + r0) σ3 (by omega) (by omega) B3
  · try simp only [reduceCtorEq, not_false_eq_true, true_and]
    refine ((take_c (many := 5) (k := k) F B1' (by omega) (by omega)).le (by omega)).mono fun v σ3 ⟨⟨r0, hr0, ev⟩, B3, O3⟩ => ?_
    subst ev
    try simp only []
    rw [show (8 : Int) + (r0 : Int) = ((8 + r0 : Nat) : Int) by omega]
    exact go (8 + r0) σ3 (by omega) (by omega) B3
end
end Mine
end

section
open PySem PySem.Calls PyProof.Rows PySem.W
namespace Mine
set_option maxRecDepth 100000 in
set_option maxHeartbeats 8000000 in
open_top hd for PySem.Challenge.rw_xm0992_01
end Mine
end

section
open PySem PySem.Calls PyProof.Rows PySem.W
set_option maxRecDepth 100000
namespace Mine
def fnOk (K : Frag) (f : Fn) (a : Addr) (ps : List PySem.Str) : Bool := match K.lookup a with
  | some ⟨_, _, .func fd, _⟩ => (match fd.body with
    | .stmts body => matSs fd.scope f.names f.body body && fd.closure.isEmpty && fd.globals == mainGlobals && fd.builtins == builtinsNs && fd.scope.kind == .function && !fd.scope.isCoroutine && !fd.scope.isGenerator &&
        codeIn K fd.code fd.qualname && (fd.scope.names.all fun y => y.2 != .free) && (ps.all fun p => fd.scope.names.lookup p == some .local || fd.scope.names.lookup p == some .cell)
    | _ => false)
  | _ => false
def bindOk (K : Frag) (prog : Program) (P : Params) (a : Addr) (vals : List Value) : Option (List (PySem.Str × Value)) := match K.lookup a with
  | some ⟨_, _, .func fd, _⟩ => peek K ⟨prog, P⟩ (bindArgs fd ⟨vals, []⟩)
  | _ => none
theorem FnAt.of {X : Cx} {f : Fn} {a : Addr} {ps : List PySem.Str} (h : fnOk X.K f a ps = true) (hb : ∀ vals : List Value, vals.length = ps.length → bindOk X.K X.prog X.w.params a vals = some (ps.zip vals))
    (h1 : ((f.names).map (·.2)).Nodup) (h2 : f.names.take ps.length = ps.zip (List.range ps.length)) (h3 : ps.Nodup) (h4 : f.np = ps.length ∧ f.np ≤ f.ns) : FnAt X f a ps := by
  refine ⟨?_, h1, ⟨h2, h3⟩, h4⟩
  unfold fnOk at h
  unfold bindOk at hb
  split at h
  · rename_i oc od fd osl ho
    rw [ho] at hb
    split at h
    · rename_i body hbody
      simp only [Bool.and_eq_true, List.isEmpty_iff, beq_iff_eq, Bool.not_eq_true', List.all_eq_true, Bool.or_eq_true, bne_iff_ne] at h
      obtain ⟨⟨⟨⟨⟨⟨⟨⟨⟨a1, a2⟩, a3⟩, a4⟩, a5⟩, a6⟩, a7⟩, a8⟩, a9⟩, a10⟩ := h
      exact ⟨oc, od, osl, fd, body, ho, hbody, a1, a2, a3, a4, a5, a6, a7, a8, hb, a9, a10⟩
    · cases h
  · cases h
set_option maxHeartbeats 4000000
theorem vals1 {l : List Value} (h : l.length = 1) : ∃ v0, l = [v0] := by
  match l, h with
  | [v0], _ => exact ⟨v0, rfl⟩
theorem vals2 {l : List Value} (h : l.length = 2) : ∃ v0 v1, l = [v0, v1] := by
  match l, h with
  | [v0, v1], _ => exact ⟨v0, v1, rfl⟩
theorem vals3 {l : List Value} (h : l.length = 3) : ∃ v0 v1 v2, l = [v0, v1, v2] := by
  match l, h with
  | [v0, v1, v2], _ => exact ⟨v0, v1, v2, rfl⟩
theorem vals4 {l : List Value} (h : l.length = 4) : ∃ v0 v1 v2 v3, l = [v0, v1, v2, v3] := by
  match l, h with
  | [v0, v1, v2, v3], _ => exact ⟨v0, v1, v2, v3, rfl⟩
theorem vals5 {l : List Value} (h : l.length = 5) : ∃ v0 v1 v2 v3 v4, l = [v0, v1, v2, v3, v4] := by
  match l, h with
  | [v0, v1, v2, v3, v4], _ => exact ⟨v0, v1, v2, v3, v4, rfl⟩
theorem seq_two {d : Data} (h : (match d with | .seq xs _ => (match xs with | ⟨[.int a _, .int b _]⟩ => decide (a = 2) && decide (b = 3) | _ => false) | _ => false) = true) : ∃ n t u, d = .seq #[.int 2 t, .int 3 u] n := by
  split at h
  · split at h
    · simp only [Bool.and_eq_true, decide_eq_true_eq] at h
      obtain ⟨rfl, rfl⟩ := h
      exact ⟨_, _, _, rfl⟩
    · cases h
  · cases h
def layOk (K : Frag) : Bool := match K.lookup 284 with
  | some o => o.cls == .type "tuple" && (match o.data with | .seq xs _ => (match xs with | ⟨[.int a _, .int b _]⟩ => decide (a = 2) && decide (b = 3) | _ => false) | _ => false)
  | none => false
theorem layOk_ex {K : Frag} (h : layOk K = true) : ∃ o : Obj, K.lookup 284 = some o ∧ o.cls = .type "tuple" ∧ ∃ n t u, o.data = .seq #[.int 2 t, .int 3 u] n := by
  unfold layOk at h
  split at h
  · rename_i o ho
    simp only [Bool.and_eq_true, beq_iff_eq] at h
    exact ⟨o, ho, h.1, seq_two h.2⟩
  · cases h
def isIntO (i : Int) : Option (Option Value) → Bool
  | some (some (.int j _)) => decide (j = i)
  | _ => false
theorem isIntO_ex {i : Int} {x : Option (Option Value)} (h : isIntO i x = true) : ∃ t, x = some (some (.int i t)) := by
  unfold isIntO at h
  split at h
  · exact ⟨_, by rw [of_decide_eq_true h]⟩
  · cases h
def noGetI (K : Frag) : Option (Option Value) → Bool
  | some (some v) => specialIn K v "__get__" == some none
  | _ => false
theorem base (prog : Program) (w : World) (H0 : Heap) (G : Addr) (KX : (hd.heap_39 w.params).In H0) (nl : H0.NoLimit) (sm : ∃ o, H0.get? sysModules = some o)
    (top : ∃ mg mb, H0.Ns mainGlobals mg ∧ H0.Ns builtinsNs mb ∧ ∀ x : PySem.Str, x ≠ "__name__" → mb x = bootBuiltins x) : Base ⟨prog, w, hd.heap_39 w.params, H0, G⟩ where
  inK := KX
  nolimit := nl
  sysm := sm
  top := top
  gl := fun f hf => by
    have e1 : (List.range 18).map (fun f => nsIn (hd.heap_39 w.params) mainGlobals (gn f)) = (List.range 18).map (fun f => some (some (.ref (ga f)))) := by kernel_rfl
    have e2 : (List.range 18).map (fun f => keepIn (hd.heap_39 w.params) (.ref (ga f))) = (List.range 18).map (fun f => true) := by kernel_rfl
    exact ⟨List.map_inj_left.mp e1 f (List.mem_range.mpr hf), List.map_inj_left.mp e2 f (List.mem_range.mpr hf)⟩
  nowhere := isIntO_ex (i := -1) (by show isIntO (-1) (nsIn (hd.heap_39 w.params) _ _) = _; kernel_rfl)
  blt := fun x hx => by
    have e1 : (["len", "range", "min", "max", "list", "tuple", "bytes", "sorted"] : List String).map (fun x => nsIn (hd.heap_39 w.params) mainGlobals (PySem.Str.ofString x)) = (["len", "range", "min", "max", "list", "tuple", "bytes", "sorted"] : List String).map (fun _ => some none) := by kernel_rfl
    exact List.map_inj_left.mp e1 x hx
  meths := fun C m f h => by
    have e1 : methL.map (fun p => findIn (hd.heap_39 w.params) (.ref p.1) (an p.2.1)) = methL.map (fun p => some (some (.ref p.2.2))) := by kernel_rfl
    have e2 : methL.map (fun p => isFn (hd.heap_39 w.params) (.ref p.2.2)) = methL.map (fun p => true) := by kernel_rfl
    have e3 : methL.map (fun p => keepIn (hd.heap_39 w.params) (.ref p.2.2)) = methL.map (fun p => true) := by kernel_rfl
    have hm : (C, m, f) ∈ methL := by
      unfold meth at h
      obtain ⟨⟨C', m', f'⟩, h1, rfl⟩ := Option.map_eq_some_iff.mp h
      have h2 := List.find?_some h1
      simp only [Bool.and_eq_true, beq_iff_eq] at h2
      obtain ⟨rfl, rfl⟩ := h2
      exact List.mem_of_find?_eq_some h1
    exact ⟨List.map_inj_left.mp e1 _ hm, List.map_inj_left.mp e2 _ hm, List.map_inj_left.mp e3 _ hm⟩
  cls := fun C hC => by
    have e1 : clsL.map (fun C => hasDictIn (hd.heap_39 w.params) C) = clsL.map (fun _ => true) := by kernel_rfl
    have e2 : clsL.map (fun C => plainGet (hd.heap_39 w.params) C (an 0)) = clsL.map (fun _ => true) := by kernel_rfl
    have e3 : clsL.map (fun C => findIn (hd.heap_39 w.params) (.ref C) "__setattr__") = clsL.map (fun _ => some (some (.builtin "object.__setattr__"))) := by kernel_rfl
    have e4 : clsL.map (fun C => plainOver (hd.heap_39 w.params) C) = clsL.map (fun _ => true) := by kernel_rfl
    have e5 : clsL.map (fun C => makesIn (hd.heap_39 w.params) C) = clsL.map (fun _ => true) := by kernel_rfl
    exact ⟨List.map_inj_left.mp e1 _ hC, List.map_inj_left.mp e2 _ hC, List.map_inj_left.mp e3 _ hC, List.map_inj_left.mp e4 _ hC, List.map_inj_left.mp e5 _ hC⟩
  attrs := fun C hC n hn => by
    have e1 : clsL.map (fun C => (List.range 14).map fun n => findIn (hd.heap_39 w.params) (.ref C) (an n)) = clsL.map (fun C => (List.range 14).map fun n => some none) := by kernel_rfl
    have e2 : clsL.map (fun C => (List.range 14).map fun n => takerIn (hd.heap_39 w.params) C (an n)) = clsL.map (fun C => (List.range 14).map fun n => some none) := by kernel_rfl
    exact ⟨List.map_inj_left.mp (List.map_inj_left.mp e1 _ hC) n (List.mem_range.mpr hn), List.map_inj_left.mp (List.map_inj_left.mp e2 _ hC) n (List.mem_range.mpr hn)⟩
  minit := ⟨by show specialIn (hd.heap_39 w.params) _ _ = _; kernel_rfl, .type "type", by show readsIn (hd.heap_39 w.params) _ _ = _; kernel_rfl, by show findCls (hd.heap_39 w.params) _ _ _ = _; kernel_rfl⟩
  layers := by
    obtain ⟨o, h1, h2, h3⟩ := layOk_ex (K := hd.heap_39 w.params) (by kernel_rfl)
    exact ⟨o, h1, h2, h3, by show findIn (hd.heap_39 w.params) _ _ = _; kernel_rfl, by show specialIn (hd.heap_39 w.params) _ _ = _; kernel_rfl⟩
  treesize := by
    obtain ⟨t, ht⟩ := isIntO_ex (i := 4) (x := findIn (hd.heap_39 w.params) (.ref 307) (an 29)) (by kernel_rfl)
    have e : noGetI (hd.heap_39 w.params) (findIn (hd.heap_39 w.params) (.ref 307) (an 29)) = true := by kernel_rfl
    rw [ht] at e
    exact ⟨t, ht, beq_iff_eq.mp e⟩
theorem at_PlaceRow_init (prog : Program) (w : World) (H0 : Heap) (G : Addr) : FnAt ⟨prog, w, hd.heap_39 w.params, H0, G⟩ f_PlaceRow_init 68 (stL ["self", "octets", "size"]) :=
  .of (by show fnOk (hd.heap_39 w.params) _ _ _ = true; kernel_rfl) (fun vals hv => by
    obtain ⟨v0, v1, v2, rfl⟩ := vals3 hv
    show bindOk (hd.heap_39 w.params) prog w.params _ _ = _; kernel_rfl) (by decide +kernel) (by kernel_rfl) (by decide +kernel) ⟨rfl, by decide⟩
theorem at_PlaceRow_key (prog : Program) (w : World) (H0 : Heap) (G : Addr) : FnAt ⟨prog, w, hd.heap_39 w.params, H0, G⟩ f_PlaceRow_key 75 (stL ["self", "place"]) :=
  .of (by show fnOk (hd.heap_39 w.params) _ _ _ = true; kernel_rfl) (fun vals hv => by
    obtain ⟨v0, v1, rfl⟩ := vals2 hv
    show bindOk (hd.heap_39 w.params) prog w.params _ _ = _; kernel_rfl) (by decide +kernel) (by kernel_rfl) (by decide +kernel) ⟨rfl, by decide⟩
theorem at_PlaceRow_put (prog : Program) (w : World) (H0 : Heap) (G : Addr) : FnAt ⟨prog, w, hd.heap_39 w.params, H0, G⟩ f_PlaceRow_put 82 (stL ["self", "place"]) :=
  .of (by show fnOk (hd.heap_39 w.params) _ _ _ = true; kernel_rfl) (fun vals hv => by
    obtain ⟨v0, v1, rfl⟩ := vals2 hv
    show bindOk (hd.heap_39 w.params) prog w.params _ _ = _; kernel_rfl) (by decide +kernel) (by kernel_rfl) (by decide +kernel) ⟨rfl, by decide⟩
theorem at_PlaceRow_newest (prog : Program) (w : World) (H0 : Heap) (G : Addr) : FnAt ⟨prog, w, hd.heap_39 w.params, H0, G⟩ f_PlaceRow_newest 89 (stL ["self", "place"]) :=
  .of (by show fnOk (hd.heap_39 w.params) _ _ _ = true; kernel_rfl) (fun vals hv => by
    obtain ⟨v0, v1, rfl⟩ := vals2 hv
    show bindOk (hd.heap_39 w.params) prog w.params _ _ = _; kernel_rfl) (by decide +kernel) (by kernel_rfl) (by decide +kernel) ⟨rfl, by decide⟩
theorem at_Matcher_init (prog : Program) (w : World) (H0 : Heap) (G : Addr) : FnAt ⟨prog, w, hd.heap_39 w.params, H0, G⟩ f_Matcher_init 110 (stL ["self", "octets", "least", "window", "chain"]) :=
  .of (by show fnOk (hd.heap_39 w.params) _ _ _ = true; kernel_rfl) (fun vals hv => by
    obtain ⟨v0, v1, v2, v3, v4, rfl⟩ := vals5 hv
    show bindOk (hd.heap_39 w.params) prog w.params _ _ = _; kernel_rfl) (by decide +kernel) (by kernel_rfl) (by decide +kernel) ⟨rfl, by decide⟩
theorem at_Matcher_put (prog : Program) (w : World) (H0 : Heap) (G : Addr) : FnAt ⟨prog, w, hd.heap_39 w.params, H0, G⟩ f_Matcher_put 117 (stL ["self", "place"]) :=
  .of (by show fnOk (hd.heap_39 w.params) _ _ _ = true; kernel_rfl) (fun vals hv => by
    obtain ⟨v0, v1, rfl⟩ := vals2 hv
    show bindOk (hd.heap_39 w.params) prog w.params _ _ = _; kernel_rfl) (by decide +kernel) (by kernel_rfl) (by decide +kernel) ⟨rfl, by decide⟩
theorem at_Matcher_limit (prog : Program) (w : World) (H0 : Heap) (G : Addr) : FnAt ⟨prog, w, hd.heap_39 w.params, H0, G⟩ f_Matcher_limit 138 (stL ["self", "place", "most"]) :=
  .of (by show fnOk (hd.heap_39 w.params) _ _ _ = true; kernel_rfl) (fun vals hv => by
    obtain ⟨v0, v1, v2, rfl⟩ := vals3 hv
    show bindOk (hd.heap_39 w.params) prog w.params _ _ = _; kernel_rfl) (by decide +kernel) (by kernel_rfl) (by decide +kernel) ⟨rfl, by decide⟩
theorem at_Matcher_length (prog : Program) (w : World) (H0 : Heap) (G : Addr) : FnAt ⟨prog, w, hd.heap_39 w.params, H0, G⟩ f_Matcher_length 145 (stL ["self", "place", "other", "most"]) :=
  .of (by show fnOk (hd.heap_39 w.params) _ _ _ = true; kernel_rfl) (fun vals hv => by
    obtain ⟨v0, v1, v2, v3, rfl⟩ := vals4 hv
    show bindOk (hd.heap_39 w.params) prog w.params _ _ = _; kernel_rfl) (by decide +kernel) (by kernel_rfl) (by decide +kernel) ⟨rfl, by decide⟩
theorem at_Matcher_alike (prog : Program) (w : World) (H0 : Heap) (G : Addr) : FnAt ⟨prog, w, hd.heap_39 w.params, H0, G⟩ f_Matcher_alike 152 (stL ["self", "place", "other", "known", "limit"]) :=
  .of (by show fnOk (hd.heap_39 w.params) _ _ _ = true; kernel_rfl) (fun vals hv => by
    obtain ⟨v0, v1, v2, v3, v4, rfl⟩ := vals5 hv
    show bindOk (hd.heap_39 w.params) prog w.params _ _ = _; kernel_rfl) (by decide +kernel) (by kernel_rfl) (by decide +kernel) ⟨rfl, by decide⟩
theorem at_Matcher_is_near (prog : Program) (w : World) (H0 : Heap) (G : Addr) : FnAt ⟨prog, w, hd.heap_39 w.params, H0, G⟩ f_Matcher_is_near 159 (stL ["self", "place", "other"]) :=
  .of (by show fnOk (hd.heap_39 w.params) _ _ _ = true; kernel_rfl) (fun vals hv => by
    obtain ⟨v0, v1, v2, rfl⟩ := vals3 hv
    show bindOk (hd.heap_39 w.params) prog w.params _ _ = _; kernel_rfl) (by decide +kernel) (by kernel_rfl) (by decide +kernel) ⟨rfl, by decide⟩
theorem at_Matcher_best (prog : Program) (w : World) (H0 : Heap) (G : Addr) : FnAt ⟨prog, w, hd.heap_39 w.params, H0, G⟩ f_Matcher_best 180 (stL ["self", "place", "most"]) :=
  .of (by show fnOk (hd.heap_39 w.params) _ _ _ = true; kernel_rfl) (fun vals hv => by
    obtain ⟨v0, v1, v2, rfl⟩ := vals3 hv
    show bindOk (hd.heap_39 w.params) prog w.params _ _ = _; kernel_rfl) (by decide +kernel) (by kernel_rfl) (by decide +kernel) ⟨rfl, by decide⟩
theorem at_Finder_init (prog : Program) (w : World) (H0 : Heap) (G : Addr) : FnAt ⟨prog, w, hd.heap_39 w.params, H0, G⟩ f_Finder_init 202 (stL ["self", "octets", "least", "window", "chain"]) :=
  .of (by show fnOk (hd.heap_39 w.params) _ _ _ = true; kernel_rfl) (fun vals hv => by
    obtain ⟨v0, v1, v2, v3, v4, rfl⟩ := vals5 hv
    show bindOk (hd.heap_39 w.params) prog w.params _ _ = _; kernel_rfl) (by decide +kernel) (by kernel_rfl) (by decide +kernel) ⟨rfl, by decide⟩
theorem at_Finder_enter (prog : Program) (w : World) (H0 : Heap) (G : Addr) : FnAt ⟨prog, w, hd.heap_39 w.params, H0, G⟩ f_Finder_enter 209 (stL ["self", "place"]) :=
  .of (by show fnOk (hd.heap_39 w.params) _ _ _ = true; kernel_rfl) (fun vals hv => by
    obtain ⟨v0, v1, rfl⟩ := vals2 hv
    show bindOk (hd.heap_39 w.params) prog w.params _ _ = _; kernel_rfl) (by decide +kernel) (by kernel_rfl) (by decide +kernel) ⟨rfl, by decide⟩
theorem at_Finder_candidates (prog : Program) (w : World) (H0 : Heap) (G : Addr) : FnAt ⟨prog, w, hd.heap_39 w.params, H0, G⟩ f_Finder_candidates 216 (stL ["self", "place"]) :=
  .of (by show fnOk (hd.heap_39 w.params) _ _ _ = true; kernel_rfl) (fun vals hv => by
    obtain ⟨v0, v1, rfl⟩ := vals2 hv
    show bindOk (hd.heap_39 w.params) prog w.params _ _ = _; kernel_rfl) (by decide +kernel) (by kernel_rfl) (by decide +kernel) ⟨rfl, by decide⟩
theorem at_Finder_every (prog : Program) (w : World) (H0 : Heap) (G : Addr) : FnAt ⟨prog, w, hd.heap_39 w.params, H0, G⟩ f_Finder_every 223 (stL ["self", "place", "most"]) :=
  .of (by show fnOk (hd.heap_39 w.params) _ _ _ = true; kernel_rfl) (fun vals hv => by
    obtain ⟨v0, v1, v2, rfl⟩ := vals3 hv
    show bindOk (hd.heap_39 w.params) prog w.params _ _ = _; kernel_rfl) (by decide +kernel) (by kernel_rfl) (by decide +kernel) ⟨rfl, by decide⟩
theorem at_TreeFinder_init (prog : Program) (w : World) (H0 : Heap) (G : Addr) : FnAt ⟨prog, w, hd.heap_39 w.params, H0, G⟩ f_TreeFinder_init 243 (stL ["self", "octets", "least", "window", "chain"]) :=
  .of (by show fnOk (hd.heap_39 w.params) _ _ _ = true; kernel_rfl) (fun vals hv => by
    obtain ⟨v0, v1, v2, v3, v4, rfl⟩ := vals5 hv
    show bindOk (hd.heap_39 w.params) prog w.params _ _ = _; kernel_rfl) (by decide +kernel) (by kernel_rfl) (by decide +kernel) ⟨rfl, by decide⟩
theorem at_TreeFinder_hang (prog : Program) (w : World) (H0 : Heap) (G : Addr) : FnAt ⟨prog, w, hd.heap_39 w.params, H0, G⟩ f_TreeFinder_hang 250 (stL ["self", "owner", "is_greater", "place"]) :=
  .of (by show fnOk (hd.heap_39 w.params) _ _ _ = true; kernel_rfl) (fun vals hv => by
    obtain ⟨v0, v1, v2, v3, rfl⟩ := vals4 hv
    show bindOk (hd.heap_39 w.params) prog w.params _ _ = _; kernel_rfl) (by decide +kernel) (by kernel_rfl) (by decide +kernel) ⟨rfl, by decide⟩
theorem at_TreeFinder_enter (prog : Program) (w : World) (H0 : Heap) (G : Addr) : FnAt ⟨prog, w, hd.heap_39 w.params, H0, G⟩ f_TreeFinder_enter 257 (stL ["self", "place"]) :=
  .of (by show fnOk (hd.heap_39 w.params) _ _ _ = true; kernel_rfl) (fun vals hv => by
    obtain ⟨v0, v1, rfl⟩ := vals2 hv
    show bindOk (hd.heap_39 w.params) prog w.params _ _ = _; kernel_rfl) (by decide +kernel) (by kernel_rfl) (by decide +kernel) ⟨rfl, by decide⟩
theorem at_TreeFinder_part (prog : Program) (w : World) (H0 : Heap) (G : Addr) : FnAt ⟨prog, w, hd.heap_39 w.params, H0, G⟩ f_TreeFinder_part 264 (stL ["self", "place", "other"]) :=
  .of (by show fnOk (hd.heap_39 w.params) _ _ _ = true; kernel_rfl) (fun vals hv => by
    obtain ⟨v0, v1, v2, rfl⟩ := vals3 hv
    show bindOk (hd.heap_39 w.params) prog w.params _ _ = _; kernel_rfl) (by decide +kernel) (by kernel_rfl) (by decide +kernel) ⟨rfl, by decide⟩
theorem at_TreeFinder_every (prog : Program) (w : World) (H0 : Heap) (G : Addr) : FnAt ⟨prog, w, hd.heap_39 w.params, H0, G⟩ f_TreeFinder_every 271 (stL ["self", "place", "most"]) :=
  .of (by show fnOk (hd.heap_39 w.params) _ _ _ = true; kernel_rfl) (fun vals hv => by
    obtain ⟨v0, v1, v2, rfl⟩ := vals3 hv
    show bindOk (hd.heap_39 w.params) prog w.params _ _ = _; kernel_rfl) (by decide +kernel) (by kernel_rfl) (by decide +kernel) ⟨rfl, by decide⟩
theorem at_LayeredFinder_init (prog : Program) (w : World) (H0 : Heap) (G : Addr) : FnAt ⟨prog, w, hd.heap_39 w.params, H0, G⟩ f_LayeredFinder_init 290 (stL ["self", "octets", "window", "chain"]) :=
  .of (by show fnOk (hd.heap_39 w.params) _ _ _ = true; kernel_rfl) (fun vals hv => by
    obtain ⟨v0, v1, v2, v3, rfl⟩ := vals4 hv
    show bindOk (hd.heap_39 w.params) prog w.params _ _ = _; kernel_rfl) (by decide +kernel) (by kernel_rfl) (by decide +kernel) ⟨rfl, by decide⟩
theorem at_LayeredFinder_enter (prog : Program) (w : World) (H0 : Heap) (G : Addr) : FnAt ⟨prog, w, hd.heap_39 w.params, H0, G⟩ f_LayeredFinder_enter 297 (stL ["self", "place"]) :=
  .of (by show fnOk (hd.heap_39 w.params) _ _ _ = true; kernel_rfl) (fun vals hv => by
    obtain ⟨v0, v1, rfl⟩ := vals2 hv
    show bindOk (hd.heap_39 w.params) prog w.params _ _ = _; kernel_rfl) (by decide +kernel) (by kernel_rfl) (by decide +kernel) ⟨rfl, by decide⟩
theorem at_LayeredFinder_every (prog : Program) (w : World) (H0 : Heap) (G : Addr) : FnAt ⟨prog, w, hd.heap_39 w.params, H0, G⟩ f_LayeredFinder_every 304 (stL ["self", "place", "most"]) :=
  .of (by show fnOk (hd.heap_39 w.params) _ _ _ = true; kernel_rfl) (fun vals hv => by
    obtain ⟨v0, v1, v2, rfl⟩ := vals3 hv
    show bindOk (hd.heap_39 w.params) prog w.params _ _ = _; kernel_rfl) (by decide +kernel) (by kernel_rfl) (by decide +kernel) ⟨rfl, by decide⟩
theorem at_finder_for (prog : Program) (w : World) (H0 : Heap) (G : Addr) : FnAt ⟨prog, w, hd.heap_39 w.params, H0, G⟩ f_finder_for 317 (stL ["way", "octets", "least", "window", "chain"]) :=
  .of (by show fnOk (hd.heap_39 w.params) _ _ _ = true; kernel_rfl) (fun vals hv => by
    obtain ⟨v0, v1, v2, v3, v4, rfl⟩ := vals5 hv
    show bindOk (hd.heap_39 w.params) prog w.params _ _ = _; kernel_rfl) (by decide +kernel) (by kernel_rfl) (by decide +kernel) ⟨rfl, by decide⟩
theorem at_law_box (prog : Program) (w : World) (H0 : Heap) (G : Addr) : FnAt ⟨prog, w, hd.heap_39 w.params, H0, G⟩ f_law_box 324 (stL ["script"]) :=
  .of (by show fnOk (hd.heap_39 w.params) _ _ _ = true; kernel_rfl) (fun vals hv => by
    obtain ⟨v0, rfl⟩ := vals1 hv
    show bindOk (hd.heap_39 w.params) prog w.params _ _ = _; kernel_rfl) (by decide +kernel) (by kernel_rfl) (by decide +kernel) ⟨rfl, by decide⟩
theorem at_law_take (prog : Program) (w : World) (H0 : Heap) (G : Addr) : FnAt ⟨prog, w, hd.heap_39 w.params, H0, G⟩ f_law_take 331 (stL ["box", "many"]) :=
  .of (by show fnOk (hd.heap_39 w.params) _ _ _ = true; kernel_rfl) (fun vals hv => by
    obtain ⟨v0, v1, rfl⟩ := vals2 hv
    show bindOk (hd.heap_39 w.params) prog w.params _ _ = _; kernel_rfl) (by decide +kernel) (by kernel_rfl) (by decide +kernel) ⟨rfl, by decide⟩
theorem at_law_text (prog : Program) (w : World) (H0 : Heap) (G : Addr) : FnAt ⟨prog, w, hd.heap_39 w.params, H0, G⟩ f_law_text 336 (stL ["box", "room"]) :=
  .of (by show fnOk (hd.heap_39 w.params) _ _ _ = true; kernel_rfl) (fun vals hv => by
    obtain ⟨v0, v1, rfl⟩ := vals2 hv
    show bindOk (hd.heap_39 w.params) prog w.params _ _ = _; kernel_rfl) (by decide +kernel) (by kernel_rfl) (by decide +kernel) ⟨rfl, by decide⟩
theorem at_law_numbers (prog : Program) (w : World) (H0 : Heap) (G : Addr) : FnAt ⟨prog, w, hd.heap_39 w.params, H0, G⟩ f_law_numbers 343 (stL ["text"]) :=
  .of (by show fnOk (hd.heap_39 w.params) _ _ _ = true; kernel_rfl) (fun vals hv => by
    obtain ⟨v0, rfl⟩ := vals1 hv
    show bindOk (hd.heap_39 w.params) prog w.params _ _ = _; kernel_rfl) (by decide +kernel) (by kernel_rfl) (by decide +kernel) ⟨rfl, by decide⟩
theorem at_law_common (prog : Program) (w : World) (H0 : Heap) (G : Addr) : FnAt ⟨prog, w, hd.heap_39 w.params, H0, G⟩ f_law_common 350 (stL ["one", "two", "size"]) :=
  .of (by show fnOk (hd.heap_39 w.params) _ _ _ = true; kernel_rfl) (fun vals hv => by
    obtain ⟨v0, v1, v2, rfl⟩ := vals3 hv
    show bindOk (hd.heap_39 w.params) prog w.params _ _ = _; kernel_rfl) (by decide +kernel) (by kernel_rfl) (by decide +kernel) ⟨rfl, by decide⟩
theorem at_law_order (prog : Program) (w : World) (H0 : Heap) (G : Addr) : FnAt ⟨prog, w, hd.heap_39 w.params, H0, G⟩ f_law_order 355 (stL ["text"]) :=
  .of (by show fnOk (hd.heap_39 w.params) _ _ _ = true; kernel_rfl) (fun vals hv => by
    obtain ⟨v0, rfl⟩ := vals1 hv
    show bindOk (hd.heap_39 w.params) prog w.params _ _ = _; kernel_rfl) (by decide +kernel) (by kernel_rfl) (by decide +kernel) ⟨rfl, by decide⟩
theorem at_law_sides (prog : Program) (w : World) (H0 : Heap) (G : Addr) : FnAt ⟨prog, w, hd.heap_39 w.params, H0, G⟩ f_law_sides 362 (stL ["order", "near", "place", "window"]) :=
  .of (by show fnOk (hd.heap_39 w.params) _ _ _ = true; kernel_rfl) (fun vals hv => by
    obtain ⟨v0, v1, v2, v3, rfl⟩ := vals4 hv
    show bindOk (hd.heap_39 w.params) prog w.params _ _ = _; kernel_rfl) (by decide +kernel) (by kernel_rfl) (by decide +kernel) ⟨rfl, by decide⟩
theorem at_law_longest (prog : Program) (w : World) (H0 : Heap) (G : Addr) : FnAt ⟨prog, w, hd.heap_39 w.params, H0, G⟩ f_law_longest 367 (stL ["sides", "place", "shortest"]) :=
  .of (by show fnOk (hd.heap_39 w.params) _ _ _ = true; kernel_rfl) (fun vals hv => by
    obtain ⟨v0, v1, v2, rfl⟩ := vals3 hv
    show bindOk (hd.heap_39 w.params) prog w.params _ _ = _; kernel_rfl) (by decide +kernel) (by kernel_rfl) (by decide +kernel) ⟨rfl, by decide⟩
theorem at_law_outwards (prog : Program) (w : World) (H0 : Heap) (G : Addr) : FnAt ⟨prog, w, hd.heap_39 w.params, H0, G⟩ f_law_outwards 372 (stL ["sides", "place", "shortest", "most"]) :=
  .of (by show fnOk (hd.heap_39 w.params) _ _ _ = true; kernel_rfl) (fun vals hv => by
    obtain ⟨v0, v1, v2, v3, rfl⟩ := vals4 hv
    show bindOk (hd.heap_39 w.params) prog w.params _ _ = _; kernel_rfl) (by decide +kernel) (by kernel_rfl) (by decide +kernel) ⟨rfl, by decide⟩
theorem at_law_pairs_right (prog : Program) (w : World) (H0 : Heap) (G : Addr) : FnAt ⟨prog, w, hd.heap_39 w.params, H0, G⟩ f_law_pairs_right 379 (stL ["finder", "order", "near", "most"]) :=
  .of (by show fnOk (hd.heap_39 w.params) _ _ _ = true; kernel_rfl) (fun vals hv => by
    obtain ⟨v0, v1, v2, v3, rfl⟩ := vals4 hv
    show bindOk (hd.heap_39 w.params) prog w.params _ _ = _; kernel_rfl) (by decide +kernel) (by kernel_rfl) (by decide +kernel) ⟨rfl, by decide⟩
theorem at_law_wide_right (prog : Program) (w : World) (H0 : Heap) (G : Addr) : FnAt ⟨prog, w, hd.heap_39 w.params, H0, G⟩ f_law_wide_right 384 (stL ["finder", "near", "sides", "shortest"]) :=
  .of (by show fnOk (hd.heap_39 w.params) _ _ _ = true; kernel_rfl) (fun vals hv => by
    obtain ⟨v0, v1, v2, v3, rfl⟩ := vals4 hv
    show bindOk (hd.heap_39 w.params) prog w.params _ _ = _; kernel_rfl) (by decide +kernel) (by kernel_rfl) (by decide +kernel) ⟨rfl, by decide⟩
theorem at_law_narrow_right (prog : Program) (w : World) (H0 : Heap) (G : Addr) : FnAt ⟨prog, w, hd.heap_39 w.params, H0, G⟩ f_law_narrow_right 389 (stL ["finder", "order", "near", "shape"]) :=
  .of (by show fnOk (hd.heap_39 w.params) _ _ _ = true; kernel_rfl) (fun vals hv => by
    obtain ⟨v0, v1, v2, v3, rfl⟩ := vals4 hv
    show bindOk (hd.heap_39 w.params) prog w.params _ _ = _; kernel_rfl) (by decide +kernel) (by kernel_rfl) (by decide +kernel) ⟨rfl, by decide⟩
theorem fns (prog : Program) (w : World) (H0 : Heap) (G : Addr) (B : Base ⟨prog, w, hd.heap_39 w.params, H0, G⟩) : Fns ⟨prog, w, hd.heap_39 w.params, H0, G⟩ where
  base := B
  PlaceRow_init := at_PlaceRow_init ..
  PlaceRow_key := at_PlaceRow_key ..
  PlaceRow_put := at_PlaceRow_put ..
  PlaceRow_newest := at_PlaceRow_newest ..
  Matcher_init := at_Matcher_init ..
  Matcher_put := at_Matcher_put ..
  Matcher_limit := at_Matcher_limit ..
  Matcher_length := at_Matcher_length ..
  Matcher_alike := at_Matcher_alike ..
  Matcher_is_near := at_Matcher_is_near ..
  Matcher_best := at_Matcher_best ..
  Finder_init := at_Finder_init ..
  Finder_enter := at_Finder_enter ..
  Finder_candidates := at_Finder_candidates ..
  Finder_every := at_Finder_every ..
  TreeFinder_init := at_TreeFinder_init ..
  TreeFinder_hang := at_TreeFinder_hang ..
  TreeFinder_enter := at_TreeFinder_enter ..
  TreeFinder_part := at_TreeFinder_part ..
  TreeFinder_every := at_TreeFinder_every ..
  LayeredFinder_init := at_LayeredFinder_init ..
  LayeredFinder_enter := at_LayeredFinder_enter ..
  LayeredFinder_every := at_LayeredFinder_every ..
  finder_for := at_finder_for ..
  law_box := at_law_box ..
  law_take := at_law_take ..
  law_text := at_law_text ..
  law_numbers := at_law_numbers ..
  law_common := at_law_common ..
  law_order := at_law_order ..
  law_sides := at_law_sides ..
  law_longest := at_law_longest ..
  law_outwards := at_law_outwards ..
  law_pairs_right := at_law_pairs_right ..
  law_wide_right := at_law_wide_right ..
  law_narrow_right := at_law_narrow_right ..
end Mine
end

section
open PySem PySem.Calls PyProof.Rows PySem.W
set_option maxRecDepth 20000
namespace Mine
theorem cells_ex {cm : PySem.Str → Option Value} {h0 h : Heap} {L : Addr} : ∀ {cs : List (PySem.Str × Addr)} {cells : List (Addr × Obj)}, CellsAre cm cs cells → News h0 L h cells → ∀ n c, (n, c) ∈ cs → h.IsCell c (cm n) ∧ h0.get? c = none
  | _, _, .nil, _, n, c, h => by cases h
  | _, _, .cons (n := m) (c := d) (o := o) e r, N, n, c, h => by
    rcases List.mem_cons.mp h with q | q
    · obtain ⟨q1, q2⟩ := Prod.mk.inj q
      rw [q1, q2]
      have := N (d, o) List.mem_cons_self
      exact ⟨⟨o, this.1, e⟩, this.2.2⟩
    · exact cells_ex r (fun p hp => N p (List.mem_cons_of_mem _ hp)) n c q
theorem ints_rel {σ : AHeap} {h h0 : Heap} {P : Params} : ∀ {ns : List Int} {vs : List Value}, IntsAre vs ns → VRels σ h (ns.map .int) vs
  | _, _, .nil => .nil
  | _, _, .cons n t r => .cons .int (ints_rel (h0 := h0) (P := P) r)
theorem law_body {prog : Program} {w : World} {s₁ : Shared} {h₁ : Heap} {tk₁ : Nat} {name : PySem.Str} {scope : Scope} {fa : Addr} {cd : Value} {l : Addr} {vals : List Value} {ns : List Int} {binds : List (PySem.Str × Value)} {cells : List (Addr × Obj)} {body : List Stmt}
    (KX : (hd.heap_39 w.params).In s₁.heap) (nl : s₁.heap.NoLimit) (sm : ∃ o, s₁.heap.get? sysModules = some o)
    (top : ∃ mg mb, s₁.heap.Ns mainGlobals mg ∧ s₁.heap.Ns builtinsNs mb ∧ ∀ x : PySem.Str, x ≠ "__name__" → mb x = bootBuiltins x)
    (hl : s₁.heap.get? l = some { cls := .type "list", data := .seq vals.toArray }) (hI : IntsAre vals ns) (hlen : ns.length ≤ 63)
    (F : Fr s₁.heap s₁.heap.objs.size h₁ (bindL (envOfC name scope s₁.heap.objs.size fa cd).kindOf binds fun _ => none))
    (N0 : News s₁.heap s₁.heap.objs.size h₁ cells)
    (X0 : CellsAre (bindC (envOfC name scope s₁.heap.objs.size fa cd).kindOf binds fun _ => none) (cellsFrom (s₁.heap.objs.size + 1) scope.names []) cells)
    (hm : matSs scope f_law.names f_law_b body = true) (hk : scope.kind = .function) (hfree : scope.names.all (fun y => y.2 != .free) = true) (hbinds : binds = [(PySem.Str.ofString "script", .ref l)]) (hkn : scope.names.lookup (PySem.Str.ofString "script") = some .local)
    (apart : (cellsFrom (s₁.heap.objs.size + 1) scope.names []).Pairwise fun x y => x.2 ≠ y.2) :
    wpAny (model prog w) (callerA.deeper (envOfC name scope s₁.heap.objs.size fa cd)) (execs body (envOfC name scope s₁.heap.objs.size fa cd))
      (fun f s' => f = .ret (.bool true) ∧ (∀ b o, s₁.heap.get? b = some o → s'.heap.get? b = some o) ∧ s'.os = s₁.os ∧ s'.gens = s₁.gens) NoE
      { heap := h₁, gens := s₁.gens, drawn := s₁.drawn, toks := tk₁, os := s₁.os } := by
  let X : Cx := ⟨prog, w, hd.heap_39 w.params, s₁.heap, s₁.heap.objs.size⟩
  have B : Base X := base prog w s₁.heap s₁.heap.objs.size KX nl sm top
  have FN : Fns X := fns prog w s₁.heap s₁.heap.objs.size B
  have hG : s₁.heap.get? s₁.heap.objs.size = none := get_ge_none (Nat.le_refl _)
  have S : St X (fun _ => none) (fun _ => none) { heap := h₁, gens := s₁.gens, drawn := s₁.drawn, toks := tk₁, os := s₁.os } :=
    ⟨F.keep, fun a o e => (by cases e), fun a o e => (by cases e), fun a o e => (by cases e), ⟨_, F.ns⟩, rfl, hG, fun a o e => (by cases e)⟩
  have vlen : vals.length = ns.length := by
    have := (ints_rel (σ := fun _ => none) (h := h₁) (h0 := h₁) (P := w.params) hI).length
    rw [List.length_map] at this
    omega
  have hscript : VRel (hid (fun _ => none) (fun _ => none)) h₁ (.list (ns.map .int)) (.ref l) :=
    .list (vs := vals.toArray) rfl ⟨_, F.keep _ _ hl⟩ (by simp; omega) (ints_rel (h0 := h₁) (P := w.params) hI)
  have R : Room 9 (callerA.deeper (envOfC name scope s₁.heap.objs.size fa cd)) := ⟨rfl, by show (1 + claimMargin) + 1 + 4 * 9 + 10 ≤ recursionLimit; decide +kernel, by show 4 + 3 + 20 * 9 + 200 ≤ cLine; decide +kernel⟩
  have slots0 : ∀ (i : Nat) v, (initR f_law [V.list (ns.map .int)])[i]? = some v → v ≠ .undef → i = 0 ∧ v = .list (ns.map .int) := fun i v hv hne => by
    cases i with
    | zero => simp [initR] at hv; exact ⟨rfl, hv.symm⟩
    | succ i =>
      unfold initR at hv
      rw [List.singleton_append, List.getElem?_cons_succ] at hv
      have := List.mem_of_getElem? hv
      rw [List.mem_replicate] at this
      exact absurd this.2 hne
  have nm0 : ∀ y, f_law.names.lookup y = some 0 → y = PySem.Str.ofString "script" := fun y hy =>
    snd_inj (l := f_law.names) (by decide +kernel) (lookup_mem hy) (show (PySem.Str.ofString "script", 0) ∈ f_law.names from List.mem_cons_self)
  have FR : FrOk X (fun _ => none) scope f_law.names (envOfC name scope s₁.heap.objs.size fa cd) (initR f_law [V.list (ns.map .int)]) (fun _ => none) h₁ := {
    scope := rfl
    kind := hk
    glob := rfl
    blt := rfl
    ns := ⟨_, F.ns, fun x i hx hkx v hv hne => by
      obtain ⟨rfl, rfl⟩ := slots0 i v hv hne
      have := nm0 x hx
      subst this
      refine ⟨.ref l, ?_, hscript⟩
      rw [hbinds]
      exact bindL_get (by show scope.names.lookup _ = _; exact hkn) (by simp) (by simp)⟩
    cell := fun x hx => by
      have hc' : scope.names.lookup x = some .cell := by
        rcases hx with h1 | h1
        · exact h1
        · have := List.all_eq_true.mp hfree _ (lookup_mem h1)
          simp at this
      obtain ⟨c, hc⟩ := cellsFrom_some (n := s₁.heap.objs.size + 1) (acc := []) (.inl (lookup_mem hc'))
      obtain ⟨g1, g2⟩ := cells_ex X0 N0 x c (lookup_mem hc)
      refine ⟨c, _, hc, g1, rfl, g2, fun i hi v hv hne => ?_⟩
      obtain ⟨rfl, rfl⟩ := slots0 i v hv hne
      have := nm0 x hi
      rw [this, hkn] at hc'
      cases hc'
    own := ⟨rfl, hG⟩
    inj := fun y z i hy hz => snd_inj (by decide +kernel) (lookup_mem hy) (lookup_mem hz)
    cinj := fun y z c hy hz => name_of_addr apart (lookup_mem hy) (lookup_mem hz) }
  have := soundSs (X := X) (k := 9) B f_law_b hm (law_ok (k := 0) FN ns) R S FR
  refine wpAny_mono this (fun f s' ⟨fl, ρ', σ', S', T', _, fr, hq⟩ => ?_) fun _ _ x => x
  subst hq
  cases fr with
  | ret v =>
    have := VRel.bool_inv v
    subst this
    obtain ⟨h', tk', e⟩ := T'.rest
    subst e
    exact ⟨rfl, S'.keep, rfl, rfl⟩
end Mine
end

section
open PySem PySem.Calls PyProof.Rows PySem.W
namespace Mine
theorem plain_of {P : Params} {h : Heap} {l : Addr} {vals : List Value} {xs : List WData} (W : Well P h (.ref l) (.list xs)) (L : h.IsList l vals.toArray) : h.get? l = some { cls := .type "list", data := .seq vals.toArray } := by
  obtain ⟨o, ho, _, n, hd⟩ := L
  cases W with
  | list e r =>
    rw [ho] at e
    cases e
    injection hd with e1 e2
    rw [ho]
    rw [e1]
theorem cellsFrom_apart : ∀ (names : List (PySem.Str × NameKind)) (n : Nat) (acc : List (PySem.Str × Addr)), (acc.Pairwise fun x y => x.2 ≠ y.2) → (∀ x ∈ acc, x.2 < n) → (cellsFrom n names acc).Pairwise fun x y => x.2 ≠ y.2
  | [], n, acc, h, _ => h
  | (name, kind) :: r, n, acc, h, hn => by
    unfold cellsFrom
    split
    · refine cellsFrom_apart r _ _ (List.pairwise_cons.mpr ⟨fun x hx e => absurd e (Nat.ne_of_gt (hn x hx)), h⟩) fun x hx => ?_
      · rcases List.mem_cons.mp hx with rfl | hx
        · exact Nat.lt_succ_self n
        · exact Nat.lt_succ_of_lt (hn x hx)
    · exact cellsFrom_apart r n acc h hn
set_option maxRecDepth 100000 in
set_option maxHeartbeats 8000000 in
theorem join : PySem.Challenge.rw_xm0992_01.Holds := by
  refine hd ?_
  k_go0
  all_goals (try k_fold)
  rename (hd.heap_39 _).In _ => KX
  rename Top _ _ _ _ _ _ => TT
  rename Fr _ _ _ _ => FF
  rename News _ _ _ _ => NN
  rename CellsAre _ _ _ => XX
  rename IntsAre _ _ => II
  rename Well _ _ _ _ => WW
  rename ¬ _ < _ => hlen
  rename Heap.IsList _ _ _ => LL
  rename _ = #[] => hgens
  have sm : ∃ o, Heap.get? _ sysModules = some o := let ⟨mm, ⟨o, _, _, e, _⟩, _⟩ := (TT.seer (by kernel_rfl)).mods; ⟨o, e⟩
  refine wpAny_mono (law_body KX TT.nolimit sm ⟨_, _, TT.g, TT.b, TT.builtins⟩ (plain_of WW LL) II (by omega) FF NN XX (by kernel_rfl) rfl (by kernel_rfl) rfl (by kernel_rfl) (cellsFrom_apart _ _ _ .nil (fun _ h => nomatch h))) ?ok ?err
  case err => exact fun _ _ h => h.elim
  case ok =>
    rintro f s' ⟨rfl, hk, hos, hg⟩
    refine ⟨.inl ⟨.bool true, .bool true, [], rfl, fun _ => ?_, .bool _, ?_, ?_⟩, hk, hos, hg.trans hgens⟩
    · kernel_rfl
    · kernel_rfl
    · exact fun _ => ⟨.nil, fun _ h => nomatch h⟩
end Mine
end

theorem PySem.Challenge.cw_xm0992_01_holds : PySem.Challenge.rw_xm0992_01.Holds := by
  exact Mine.join
