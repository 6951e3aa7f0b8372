import PyProof.Rows.All
import Wide.All
import OpenK.AllK
import Wide.FinOn
import Lean
import PySem.Challenge.RW_xm0992_01
set_option Elab.async false
set_option linter.unusedSimpArgs false
set_option linter.unusedVariables false
set_option linter.unnecessarySimpa false

section
open PySem PySem.Calls PyProof.Rows PySem.W
namespace Mine
set_option genSizeOf false
theorem nos {α : Type} {o : Option α} {x : α} (a : o = none) (b : o = some x) : False := nomatch a.symm.trans b
theorem none_of {α : Type} {o : Option α} (h : ∀ x, o = some x → False) : o = none := Option.eq_none_iff_forall_ne_some.mpr fun x e => h x e
theorem inj_some {α : Type} {o : Option α} {x y : α} (a : o = some x) (b : o = some y) : x = y := Option.some.inj (a.symm.trans b)
inductive V where
 | undef | none
 | bool (b : Bool) | int (i : Int) | str (x : PySem.Str) | bytes (l : List Nat)
 | tup (l : List V) | list (l : List V) | ref (a : Addr)
 deriving Inhabited
inductive AObj where
 | list (l : List V)
 | dict (n : Nat) (m : Int → Option V)
 | inst (C : Addr) (fs : List (Nat × V))
 | sub (a : Addr)
 | hidden
noncomputable abbrev AHeap := Addr → Option AObj
noncomputable def upd (σ : AHeap) (a : Addr) (o : AObj) : AHeap := fun b => if b = a then some o else σ b
noncomputable def del (σ : AHeap) (a : Addr) : AHeap := fun b => if b = a then none else σ b
theorem upd_self {σ : AHeap} {a : Addr} {o : AObj} : upd σ a o a = some o := by simp [upd]
theorem upd_ne {σ : AHeap} {a b : Addr} {o : AObj} (h : b ≠ a) : upd σ a o b = σ b := by simp [upd,h]
theorem del_ne {σ : AHeap} {a b : Addr} (h : b ≠ a) : del σ a b = σ b := by simp [del,h]
theorem del_self {σ : AHeap} {a : Addr} : del σ a a = none := by simp [del]
noncomputable abbrev Hid := Addr → Option Obj
noncomputable def hid (N : Hid) (σ : AHeap) : AHeap := fun a => match N a with | some _ => some .hidden | none => σ a
theorem hid_none {N : Hid} {σ : AHeap} {a : Addr} : hid N σ a = none ↔ N a = none ∧ σ a = none := by
 unfold hid
 cases N a <;> simp
theorem hid_of {N : Hid} {σ : AHeap} {a : Addr} (h : N a = none) : hid N σ a = σ a := by unfold hid; rw [h]
theorem hid_sub {N : Hid} {σ : AHeap} {a b : Addr} : hid N σ a = some (.sub b) ↔ N a = none ∧ σ a = some (.sub b) := by
 unfold hid
 cases N a <;> simp
mutual
inductive VRel (σ : AHeap) (h : Heap) : V → Value → Prop
 | undef {v} : VRel σ h .undef v
 | none : VRel σ h .none .none
 | bool {b} : VRel σ h (.bool b) (.bool b)
 | int {i t} : VRel σ h (.int i) (.int i t)
 | str {x t} : VRel σ h (.str x) (.str x t)
 | bytes {l b t} : b.toList.map UInt8.toNat = l → b.size ≤ 1000 → VRel σ h (.bytes l) (.bytes b t)
 | tup {l a vs} : σ a = none → IsTup h a vs → vs.size ≤ 1000 → VRels σ h l vs.toList → VRel σ h (.tup l) (.ref a)
 | list {l a vs} : σ a = none → h.PlainList a vs → vs.size ≤ 1000 → VRels σ h l vs.toList → VRel σ h (.list l) (.ref a)
 | ref {a} : VRel σ h (.ref a) (.ref a)
inductive VRels (σ : AHeap) (h : Heap) : List V → List Value → Prop
 | nil : VRels σ h [] []
 | cons {v val l vs} : VRel σ h v val → VRels σ h l vs → VRels σ h (v :: l) (val :: vs)
end
theorem VRels.ind {σ : AHeap} {h : Heap} {P : List V → List Value → Prop} (p0 : P [] []) (p1 : ∀ v val l vs, VRel σ h v val → VRels σ h l vs → P l vs → P (v :: l) (val :: vs)) {l : List V} {vs : List Value} (x : VRels σ h l vs) : P l vs :=
 VRels.rec (motive_1 := fun _ _ _ => True) (motive_2 := fun l vs _ => P l vs) trivial trivial trivial trivial trivial (fun _ _ => trivial) (fun _ _ _ _ _ => trivial) (fun _ _ _ _ _ => trivial) trivial p0 (fun y r _ z => p1 _ _ _ _ y r z) x
@[elab_as_elim] theorem VRels.zero {σ : AHeap} {h : Heap} {P : List Value → Prop} (vs : List Value) (x : VRels σ h [] vs) (k : P []) : P vs := by cases x; exact k
@[elab_as_elim] theorem VRels.uncons {σ : AHeap} {h : Heap} {P : List Value → Prop} {v : V} {l : List V} (vs : List Value) (x : VRels σ h (v :: l) vs) (k : ∀ val r, VRel σ h v val → VRels σ h l r → P (val :: r)) : P vs := by cases x with | cons a b => exact k _ _ a b
@[elab_as_elim] theorem VRels.one {σ : AHeap} {h : Heap} {P : List Value → Prop} {v : V} (vs : List Value) (x : VRels σ h [v] vs) (k : ∀ val, VRel σ h v val → P [val]) : P vs := x.uncons vs fun _ _ a b => b.zero _ (k _ a)
@[elab_as_elim] theorem VRels.two {σ : AHeap} {h : Heap} {P : List Value → Prop} {v w : V} (vs : List Value) (x : VRels σ h [v, w] vs) (k : ∀ a b, VRel σ h v a → VRel σ h w b → P [a, b]) : P vs := x.uncons vs fun _ _ a b => b.one _ fun _ c => k _ _ a c
@[elab_as_elim] theorem VRels.three {σ : AHeap} {h : Heap} {P : List Value → Prop} {v w z : V} (vs : List Value) (x : VRels σ h [v, w, z] vs) (k : ∀ a b c, VRel σ h v a → VRel σ h w b → VRel σ h z c → P [a, b, c]) : P vs := x.uncons vs fun _ _ a b => b.two _ fun _ _ c d => k _ _ _ a c d
theorem VRels.nil_r {σ : AHeap} {h : Heap} {l : List V} (x : VRels σ h l []) : l = [] := by cases x; rfl
theorem VRels.cons_r {σ : AHeap} {h : Heap} {l : List V} {val : Value} {vs : List Value} (x : VRels σ h l (val :: vs)) : ∃ v r, l = v :: r ∧ VRel σ h v val ∧ VRels σ h r vs := by cases x with | cons a b => exact ⟨_, _, rfl, a, b⟩
theorem VRels.length {σ : AHeap} {h : Heap} {l : List V} {vs : List Value} (x : VRels σ h l vs) : l.length = vs.length := x.ind (P := fun l vs => l.length = vs.length) rfl fun _ _ _ _ _ _ e => congrArg (· + 1) e
theorem VRels.get {σ : AHeap} {h : Heap} {l : List V} {vs : List Value} (x : VRels σ h l vs) : ∀ {i : Nat} {v : V}, l[i]? = some v → ∃ val, vs[i]? = some val ∧ VRel σ h v val :=
 x.ind (P := fun l vs => ∀ {i : Nat} {v : V}, l[i]? = some v → ∃ val, vs[i]? = some val ∧ VRel σ h v val) (fun e => nomatch e) fun v val l vs y _ ih i => Nat.casesOn (motive := fun i => ∀ {w : V}, (v :: l)[i]? = some w → ∃ u, (val :: vs)[i]? = some u ∧ VRel σ h w u) i (fun e => ⟨val, rfl, Option.some.inj e ▸ y⟩) fun _ _ e => ih e
theorem VRels.append {σ : AHeap} {h : Heap} {l l' : List V} {vs vs' : List Value} (x : VRels σ h l vs) (y : VRels σ h l' vs') : VRels σ h (l ++ l') (vs ++ vs') := x.ind (P := fun l vs => VRels σ h (l ++ l') (vs ++ vs')) y fun _ _ _ _ a _ r => .cons a r
theorem VRels.snoc {σ : AHeap} {h : Heap} {l : List V} {vs : List Value} {v : V} {val : Value} (x : VRels σ h l vs) (y : VRel σ h v val) : VRels σ h (l ++ [v]) (vs ++ [val]) := x.append (.cons y .nil)
theorem VRels.take {σ : AHeap} {h : Heap} {l : List V} {vs : List Value} (x : VRels σ h l vs) : ∀ n : Nat, VRels σ h (l.take n) (vs.take n) :=
 x.ind (P := fun l vs => ∀ n : Nat, VRels σ h (l.take n) (vs.take n)) (fun n => by rw [List.take_nil,List.take_nil]; exact .nil) fun v val l vs a _ r n => Nat.casesOn (motive := fun n => VRels σ h ((v :: l).take n) ((val :: vs).take n)) n .nil fun n => .cons a (r n)
theorem VRels.drop {σ : AHeap} {h : Heap} {l : List V} {vs : List Value} (x : VRels σ h l vs) : ∀ n : Nat, VRels σ h (l.drop n) (vs.drop n) :=
 x.ind (P := fun l vs => ∀ n : Nat, VRels σ h (l.drop n) (vs.drop n)) (fun n => by rw [List.drop_nil,List.drop_nil]; exact .nil) fun v val l vs a b r n => Nat.casesOn (motive := fun n => VRels σ h ((v :: l).drop n) ((val :: vs).drop n)) n (.cons a b) fun n => r n
theorem VRels.reverse {σ : AHeap} {h : Heap} {l : List V} {vs : List Value} (x : VRels σ h l vs) : VRels σ h l.reverse vs.reverse :=
 x.ind (P := fun l vs => VRels σ h l.reverse vs.reverse) .nil fun _ _ _ _ a _ r => by rw [List.reverse_cons,List.reverse_cons]; exact r.snoc a
noncomputable def clsL : List Nat := [92, 226, 274, 307]
noncomputable def anL : List String := ["octets", "size", "last", "before", "least", "window", "chain", "ahead", "row", "roots", "smaller", "greater", "rows", "tree",
 "key", "put", "newest", "enter", "limit", "length", "alike", "is_near", "every", "best", "candidates", "hang", "part", "__init__", "LAYERS", "TREE"]
noncomputable def an (k : Nat) : PySem.Str := PySem.Str.ofString (anL.getD k "")
structure Cx where
 prog : Program
 w : World
 K : Frag
 H0 : Heap
 G : Addr
noncomputable def NsAt (h : Heap) (G : Addr) : Prop := ∃ m, h.Ns G m
theorem NsAt.ne {h : Heap} {G a : Addr} {o : Obj} (x : NsAt h G) (e : h.get? a = some o) (hd : ∀ es ep, o.data ≠ .dict es ep) : a ≠ G := fun q => x.elim fun _ y => y.elim fun _ y => y.elim fun es y => y.elim fun ep y => hd es ep (inj_some e (q ▸ y.1) ▸ y.2.1)
structure Up (G : Addr) (σ : AHeap) (h : Heap) (σ' : AHeap) (h' : Heap) : Prop where
 at_ : ∀ b o, b ≠ G → h.get? b = some o → σ b = none → h'.get? b = some o ∧ σ' b = none
 ns : NsAt h G
noncomputable def Kept2 (σ : AHeap) (h : Heap) (σ' : AHeap) (h' : Heap) : Prop := ∀ a o xs n, σ a = none → h.get? a = some o → o.data = .seq xs n → σ' a = none ∧ h'.get? a = some o
theorem VRel.map {σ σ' : AHeap} {h h' : Heap} (f : Kept2 σ h σ' h') {v : V} {val : Value} (x : VRel σ h v val) : VRel σ' h' v val :=
 VRel.rec (motive_1 := fun v val _ => VRel σ' h' v val) (motive_2 := fun l vs _ => VRels σ' h' l vs) .undef .none .bool .int .str (fun e n => .bytes e n)
  (fun e t n _ y => t.elim fun o t => t.2.2.elim fun k d => .tup (f _ o _ k e t.1 d).1 ⟨o, (f _ o _ k e t.1 d).2, t.2⟩ n y) (fun e t n _ y => t.elim fun k t => .list (f _ _ _ k e t rfl).1 ⟨k, (f _ _ _ k e t rfl).2⟩ n y) .ref .nil (fun _ _ x y => .cons x y) x
theorem VRels.map {σ σ' : AHeap} {h h' : Heap} (f : Kept2 σ h σ' h') {l : List V} {vs : List Value} (x : VRels σ h l vs) : VRels σ' h' l vs := x.ind .nil fun _ _ _ _ a _ r => .cons (a.map f) r
theorem seq_ne_dict {o : Obj} {xs : Array Value} {n : Nat} (d : o.data = .seq xs n) (es ep) : o.data ≠ .dict es ep := fun e => nomatch d.symm.trans e
theorem Up.kept {G : Addr} {σ σ' : AHeap} {h h' : Heap} (u : Up G σ h σ' h') : Kept2 σ h σ' h' := fun a o _ _ e g d => (u.at_ a o (u.ns.ne g (seq_ne_dict d)) g e).symm
theorem VRel.up {G : Addr} {σ σ' : AHeap} {h h' : Heap} (u : Up G σ h σ' h') {v : V} {val : Value} (x : VRel σ h v val) : VRel σ' h' v val := x.map u.kept
theorem VRels.up {G : Addr} {σ σ' : AHeap} {h h' : Heap} (u : Up G σ h σ' h') {l : List V} {vs : List Value} (x : VRels σ h l vs) : VRels σ' h' l vs := x.map u.kept
noncomputable def ORelO (σ : AHeap) (h : Heap) : Option V → Option Value → Prop
 | none, none => True
 | some v, some val => VRel σ h v val
 | _, _ => False
inductive FRel (X : Cx) (σ : AHeap) (h : Heap) : List (Nat × V) → List DictEntry → Prop
 | nil : FRel X σ h [] []
 | cons {k v fs es t val} : VRel σ h v val → FRel X σ h fs es → FRel X σ h ((k, v) :: fs) (⟨PyData.keyHash X.w.params (an k), .str (an k) t, val⟩ :: es)
noncomputable def ORel (X : Cx) (σ : AHeap) (h : Heap) (a : Addr) : AObj → Prop
 | .list l => ∃ vs, h.PlainList a vs ∧ vs.size ≤ 1000 ∧ VRels σ h l vs.toList
 | .dict n m => ∃ f : Int → Option Value, h.MapOf (intKind X.prog X.w) a f ∧ (h.DictLe a n ∧ n ≤ 1000) ∧ ∀ k, ORelO σ h (m k) (f k)
 | .inst C fs => ∃ dx es n, h.get? a = some (instObj C dx) ∧ σ dx = some (.sub a) ∧ h.get? dx = some (dictOf es n) ∧ FRel X σ h fs es ∧ C ∈ clsL ∧ fs.length ≤ 100 ∧ ∀ p ∈ fs, p.1 < 14
 | .sub _ => True
 | .hidden => True
structure St (X : Cx) (N : Hid) (σ : AHeap) (s : Shared) : Prop where
 keep : ∀ b o, X.H0.get? b = some o → s.heap.get? b = some o
 fresh : ∀ a o, σ a = some o → X.H0.get? a = none
 objs : ∀ a o, σ a = some o → ORel X (hid N σ) s.heap a o
 live : ∀ a o, σ a = some o → ∃ ob, s.heap.get? a = some ob
 ns : NsAt s.heap X.G
 gfree : σ X.G = none
 gH0 : X.H0.get? X.G = none
 hids : ∀ a o, N a = some o → σ a = none ∧ (∃ ob, s.heap.get? a = some ob) ∧ X.H0.get? a = none ∧ a ≠ X.G
structure Step (X : Cx) (σ : AHeap) (s : Shared) (σ' : AHeap) (s' : Shared) : Prop where
 keep : ∀ b o, b ≠ X.G → s.heap.get? b = some o → σ b = none → s'.heap.get? b = some o
 sink : ∀ m, s.heap.Ns X.G m → s'.heap.Ns X.G m
 new : ∀ b o, σ b = none → σ' b = some o → s.heap.get? b = none
 live : ∀ b o, s.heap.get? b = some o → ∃ o', s'.heap.get? b = some o'
 rest : ∃ h' tk, s' = { s with heap := h', toks := tk }
theorem Step.refl (X : Cx) (σ : AHeap) (s : Shared) : Step X σ s σ s := ⟨fun _ _ _ e _ => e, fun _ n => n, fun _ _ e e' => (nos e e').elim, fun _ o e => ⟨o, e⟩, s.heap, s.toks, rfl⟩
theorem Step.up0 {X : Cx} {σ σ' : AHeap} {s s' : Shared} (x : Step X σ s σ' s') (b : Addr) (o : Obj) (n : b ≠ X.G) (e : s.heap.get? b = some o) (q : σ b = none) : s'.heap.get? b = some o ∧ σ' b = none := ⟨x.keep b o n e q, none_of fun o' q' => nos (x.new b o' q q') e⟩
theorem Step.up {X : Cx} {N : Hid} {σ σ' : AHeap} {s s' : Shared} (x : Step X σ s σ' s') (S : St X N σ s) : Up X.G (hid N σ) s.heap (hid N σ') s'.heap := ⟨fun b o n e q => by
 obtain ⟨q1, q2⟩ := hid_none.mp q
 exact ⟨(x.up0 b o n e q2).1, hid_none.mpr ⟨q1, (x.up0 b o n e q2).2⟩⟩, S.ns⟩
theorem Step.trans {X : Cx} {σ σ₁ σ₂ : AHeap} {s s₁ s₂ : Shared} (x : Step X σ s σ₁ s₁) (y : Step X σ₁ s₁ σ₂ s₂) (S : σ X.G = none) (S2 : σ₂ X.G = none) : Step X σ s σ₂ s₂ where
 keep := fun b o n e q => y.keep b o n (x.keep b o n e q) (x.up0 b o n e q).2
 sink := fun m n => y.sink m (x.sink m n)
 new := fun b o q q' => none_of fun o' e => have n : b ≠ X.G := fun z => nos S2 (z ▸ q'); nos (y.up0 b o' n (x.up0 b o' n e q).1 (x.up0 b o' n e q).2).2 q'
 live := fun b o e => (x.live b o e).elim fun o' e' => y.live b o' e'
 rest := x.rest.elim fun _ p => p.elim fun _ p => y.rest.elim fun h2 q => q.elim fun t2 q => ⟨h2, t2, q.trans (p ▸ rfl)⟩
theorem Step.tok {X : Cx} {σ : AHeap} {s : Shared} (tk : Nat) : Step X σ s σ { s with toks := tk } := ⟨fun _ _ _ e _ => e, fun _ n => n, fun _ _ e e' => (nos e e').elim, fun _ o e => ⟨o, e⟩, s.heap, tk, rfl⟩
theorem FRel.ind {X : Cx} {σ : AHeap} {h : Heap} {P : List (Nat × V) → List DictEntry → Prop} (p0 : P [] []) (p1 : ∀ k v fs es t val, VRel σ h v val → FRel X σ h fs es → P fs es → P ((k, v) :: fs) (⟨PyData.keyHash X.w.params (an k), .str (an k) t, val⟩ :: es)) {fs : List (Nat × V)} {es : List DictEntry} (x : FRel X σ h fs es) : P fs es :=
 FRel.rec (motive := fun fs es _ => P fs es) p0 (fun a b c => p1 _ _ _ _ _ _ a b c) x
theorem FRel.map {X : Cx} {σ σ' : AHeap} {h h' : Heap} (f : Kept2 σ h σ' h') {fs : List (Nat × V)} {es : List DictEntry} (x : FRel X σ h fs es) : FRel X σ' h' fs es := x.ind .nil fun _ _ _ _ _ _ a _ r => .cons (a.map f) r
theorem ORelO.map {σ σ' : AHeap} {h h' : Heap} (f : Kept2 σ h σ' h') {v : Option V} {val : Option Value} : ORelO σ h v val → ORelO σ' h' v val :=
 Option.casesOn (motive := fun v => ORelO σ h v val → ORelO σ' h' v val) v (Option.casesOn (motive := fun val => ORelO σ h none val → ORelO σ' h' none val) val id fun _ => id) fun _ => Option.casesOn (motive := fun val => ORelO σ h (some _) val → ORelO σ' h' (some _) val) val id fun _ x => VRel.map f x
theorem ORel.map {X : Cx} {σ σ' : AHeap} {h h' : Heap} {a : Addr} {o : AObj} (f : Kept2 σ h σ' h') (x : ORel X σ h a o) (ha : ∀ ob, h.get? a = some ob → h'.get? a = some ob)
  (hd : ∀ dx, σ dx = some (.sub a) → σ' dx = some (.sub a) ∧ ∀ ob, h.get? dx = some ob → h'.get? dx = some ob) : ORel X σ' h' a o :=
 AObj.casesOn (motive := fun o => ORel X σ h a o → ORel X σ' h' a o) o
  (fun _ x => x.elim fun vs x => x.1.elim fun k e => ⟨vs, ⟨k, ha _ e⟩, x.2.1, x.2.2.map f⟩)
  (fun _ _ x => x.elim fun g x => x.1.elim fun ob y => y.elim fun es y => y.elim fun ep e => ⟨g, ⟨ob, es, ep, ha _ e.1, e.2⟩, ⟨fun o' es' ep' e' => x.2.1.1 o' es' ep' (e.1.trans ((ha _ e.1).symm.trans e')), x.2.1.2⟩, fun k => (x.2.2 k).map f⟩)
  (fun _ _ x => x.elim fun dx x => x.elim fun es x => x.elim fun n x => ⟨dx, es, n, ha _ x.1, (hd dx x.2.1).1, (hd dx x.2.1).2 _ x.2.2.1, x.2.2.2.1.map f, x.2.2.2.2⟩)
  (fun _ _ => trivial) (fun _ => trivial) x
theorem ORel.up {X : Cx} {σ σ' : AHeap} {h h' : Heap} {a : Addr} {o : AObj} (u : Up X.G σ h σ' h') (x : ORel X σ h a o) (ha : ∀ ob, h.get? a = some ob → h'.get? a = some ob)
  (hd : ∀ dx, σ dx = some (.sub a) → σ' dx = some (.sub a) ∧ ∀ ob, h.get? dx = some ob → h'.get? dx = some ob) : ORel X σ' h' a o := x.map u.kept ha hd
theorem St.tok {X : Cx} {N : Hid} {σ : AHeap} {s : Shared} (x : St X N σ s) (tk : Nat) : St X N σ { s with toks := tk } := ⟨x.keep, x.fresh, x.objs, x.live, x.ns, x.gfree, x.gH0, x.hids⟩
theorem St.hid_fresh {X : Cx} {N : Hid} {σ : AHeap} {s : Shared} (x : St X N σ s) {a : Addr} (e : s.heap.get? a = none) : N a = none := none_of fun o q => (x.hids a o q).2.1.elim fun _ y => nos e y
theorem St.hid_tracked {X : Cx} {N : Hid} {σ : AHeap} {s : Shared} (x : St X N σ s) {a : Addr} {o : AObj} (e : σ a = some o) : N a = none := none_of fun o' q => nos (x.hids a o' q).1 e
theorem St.hid_H0 {X : Cx} {N : Hid} {σ : AHeap} {s : Shared} (x : St X N σ s) {a : Addr} {o : Obj} (e : X.H0.get? a = some o) : N a = none := none_of fun o' q => nos (x.hids a o' q).2.2.1 e
theorem St.hid_G {X : Cx} {N : Hid} {σ : AHeap} {s : Shared} (x : St X N σ s) : N X.G = none := none_of fun o' q => (x.hids X.G o' q).2.2.2 rfl
theorem St.hid_eq {X : Cx} {N : Hid} {σ : AHeap} {s : Shared} (x : St X N σ s) {a : Addr} {o : AObj} (e : σ a = some o) : Mine.hid N σ a = some o := by rw [hid_of (x.hid_tracked e)]; exact e
theorem St.none_of_H0 {X : Cx} {N : Hid} {σ : AHeap} {s : Shared} (x : St X N σ s) {a : Addr} {o : Obj} (e : X.H0.get? a = some o) : σ a = none := none_of fun o' q => nos (x.fresh a o' q) e
theorem get_ge_none {h : Heap} {a : Addr} (ha : h.objs.size ≤ a) : h.get? a = none := none_of fun _ e => Nat.not_lt.mpr ha (Heap.lt_size e)
theorem St.free_of_none {X : Cx} {N : Hid} {σ : AHeap} {s : Shared} (x : St X N σ s) {a : Addr} (e : s.heap.get? a = none) : σ a = none := none_of fun o' q => (x.live _ _ q).elim fun _ y => nos e y
theorem St.H0_of_none {X : Cx} {N : Hid} {σ : AHeap} {s : Shared} (x : St X N σ s) {a : Addr} (e : s.heap.get? a = none) : X.H0.get? a = none := none_of fun _ q => nos e (x.keep _ _ q)
theorem NsAt.lt {h : Heap} {G : Addr} (x : NsAt h G) : G < h.objs.size := x.elim fun _ n => n.lt
structure Grow (X : Cx) (h h' : Heap) : Prop where
 at_ : ∀ b o, b ≠ X.G → h.get? b = some o → h'.get? b = some o
 sink : ∀ m, h.Ns X.G m → h'.Ns X.G m
 live : ∀ b o, h.get? b = some o → ∃ o', h'.get? b = some o'
theorem Grow.of_all {X : Cx} {h h' : Heap} (k : ∀ b o, h.get? b = some o → h'.get? b = some o) : Grow X h h' := ⟨fun b o _ e => k b o e, fun _ n => n.keeps k, fun b o e => ⟨o, k b o e⟩⟩
theorem Grow.up {X : Cx} {N : Hid} {σ : AHeap} {s : Shared} {h' : Heap} (g : Grow X s.heap h') (S : St X N σ s) : Up X.G (hid N σ) s.heap (hid N σ) h' := ⟨fun b o n e q => ⟨g.at_ b o n e, q⟩, S.ns⟩
theorem St.hfree_of_none {X : Cx} {N : Hid} {σ : AHeap} {s : Shared} (x : St X N σ s) {a : Addr} (e : s.heap.get? a = none) : hid N σ a = none := hid_none.mpr ⟨x.hid_fresh e, x.free_of_none e⟩
theorem St.hnone_of_H0 {X : Cx} {N : Hid} {σ : AHeap} {s : Shared} (x : St X N σ s) {a : Addr} {o : Obj} (e : X.H0.get? a = some o) : hid N σ a = none := hid_none.mpr ⟨x.hid_H0 e, x.none_of_H0 e⟩
theorem St.ne_G {X : Cx} {N : Hid} {σ : AHeap} {s : Shared} (x : St X N σ s) {a : Addr} {o : AObj} (e : σ a = some o) : a ≠ X.G := fun z => nos x.gfree (z ▸ e)
theorem St.grow {X : Cx} {N : Hid} {σ : AHeap} {s : Shared} (x : St X N σ s) {h' : Heap} {tk : Nat} (g : Grow X s.heap h') : St X N σ { s with heap := h', toks := tk } where
 keep := fun b o e => g.at_ b o (fun z => nos x.gH0 (z ▸ e)) (x.keep b o e)
 fresh := x.fresh
 objs := fun a o q => (x.objs a o q).up (g.up x) (fun ob e => g.at_ a ob (x.ne_G q) e) (fun dx z => ⟨z, fun ob e => g.at_ dx ob (x.ne_G (hid_sub.mp z).2) e⟩)
 live := fun a o q => (x.live a o q).elim fun ob e => ⟨ob, g.at_ a ob (x.ne_G q) e⟩
 ns := x.ns.elim fun m n => ⟨m, g.sink m n⟩
 gfree := x.gfree
 gH0 := x.gH0
 hids := fun a o q => ⟨(x.hids a o q).1, (x.hids a o q).2.1.elim fun ob e => ⟨ob, g.at_ a ob (x.hids a o q).2.2.2 e⟩, (x.hids a o q).2.2⟩
theorem Step.grow {X : Cx} {σ : AHeap} {s : Shared} {h' : Heap} {tk : Nat} (g : Grow X s.heap h') : Step X σ s σ { s with heap := h', toks := tk } :=
 ⟨fun b o n e _ => g.at_ b o n e, g.sink, fun _ _ e e' => (nos e e').elim, g.live, h', tk, rfl⟩
structure Poke (X : Cx) (N : Hid) (σ : AHeap) (s : Shared) (p : Addr) (h' : Heap) : Prop where
 free : σ p = none
 h0 : X.H0.get? p = none
 ns : NsAt h' X.G
 kind : (∀ o xs n, s.heap.get? p = some o → o.data ≠ .seq xs n) ∨ (∃ o, N p = some o)
 at_ : ∀ b o, b ≠ p → s.heap.get? b = some o → h'.get? b = some o
 live : (∃ o, N p = some o) → ∃ o', h'.get? p = some o'
theorem Poke.kept {X : Cx} {N : Hid} {σ : AHeap} {s : Shared} {p : Addr} {h' : Heap} (u : Poke X N σ s p h') : Kept2 (hid N σ) s.heap (hid N σ) h' := fun a o xs n e g d =>
 ⟨e, u.at_ a o (fun q => u.kind.elim (fun f => f o xs n (q ▸ g) d) fun z => z.elim fun _ e' => nos (hid_none.mp e).1 (q ▸ e')) g⟩
theorem VRel.poke {X : Cx} {N : Hid} {σ : AHeap} {s : Shared} {p : Addr} {h' : Heap} (u : Poke X N σ s p h') {v : V} {val : Value} (x : VRel (hid N σ) s.heap v val) : VRel (hid N σ) h' v val := x.map u.kept
theorem VRels.poke {X : Cx} {N : Hid} {σ : AHeap} {s : Shared} {p : Addr} {h' : Heap} (u : Poke X N σ s p h') {l : List V} {vs : List Value} (x : VRels (hid N σ) s.heap l vs) : VRels (hid N σ) h' l vs := x.map u.kept
theorem St.poke {X : Cx} {N : Hid} {σ : AHeap} {s : Shared} {p : Addr} {h' : Heap} {tk : Nat} (S : St X N σ s) (u : Poke X N σ s p h') : St X N σ { s with heap := h', toks := tk } where
 keep := fun b o e => u.at_ b o (fun z => nos u.h0 (z ▸ e)) (S.keep b o e)
 fresh := S.fresh
 objs := fun a o q => (S.objs a o q).map u.kept (fun ob e => u.at_ a ob (fun z => nos u.free (z ▸ q)) e) fun dx z => ⟨z, fun ob e => u.at_ dx ob (fun y => nos u.free (y ▸ (hid_sub.mp z).2)) e⟩
 live := fun a o q => (S.live a o q).elim fun ob e => ⟨ob, u.at_ _ _ (fun z => nos u.free (z ▸ q)) e⟩
 ns := u.ns
 gfree := S.gfree
 gH0 := S.gH0
 hids := fun a o q => ⟨(S.hids a o q).1, (S.hids a o q).2.1.elim fun ob e => (Decidable.em (a = p)).elim (fun z => z ▸ u.live ⟨o, z ▸ q⟩) fun z => ⟨ob, u.at_ _ _ z e⟩, (S.hids a o q).2.2⟩
theorem ns_at {h h' : Heap} {G : Addr} (m) (n : h.Ns G m) (k : ∀ o, h.get? G = some o → h'.get? G = some o) : h'.Ns G m := n.elim fun o y => y.elim fun es y => y.elim fun ep y => ⟨o, es, ep, k o y.1, y.2⟩
theorem ns_get {h : Heap} {G : Addr} {m} (n : h.Ns G m) : ∃ o, h.get? G = some o := n.elim fun o y => y.elim fun _ y => y.elim fun _ y => ⟨o, y.1⟩
theorem Step.poke {X : Cx} {N : Hid} {σ₀ σ : AHeap} {s₀ s : Shared} {p : Addr} {h' : Heap} {tk : Nat} (T : Step X σ₀ s₀ σ s) (u : Poke X N σ s p h') (hp : s₀.heap.get? p = none) : Step X σ₀ s₀ σ { s with heap := h', toks := tk } where
 keep := fun b o n e q => u.at_ b o (fun z => nos hp (z ▸ e)) (T.keep b o n e q)
 sink := fun m n => ns_at m (T.sink m n) fun o e => u.at_ _ o (fun z => (ns_get n).elim fun _ e' => nos hp (z ▸ e')) e
 new := T.new
 live := fun b o e => (T.live b o e).elim fun o' e' => ⟨o', u.at_ _ _ (fun z => nos hp (z ▸ e)) e'⟩
 rest := T.rest.elim fun _ q => q.elim fun _ q => ⟨h', tk, q ▸ rfl⟩
theorem Step.fresh {X : Cx} {σ₀ σ : AHeap} {s₀ s : Shared} (T : Step X σ₀ s₀ σ s) {p : Addr} (h : s.heap.get? p = none) : s₀.heap.get? p = none := none_of fun o e => (T.live p o e).elim fun _ y => nos h y
theorem Poke.mk' {X : Cx} {N : Hid} {σ : AHeap} {s : Shared} {p : Addr} {h' : Heap} (S : St X N σ s) (free : σ p = none) (h0 : X.H0.get? p = none) (neG : p ≠ X.G) (kind : (∀ o xs n, s.heap.get? p = some o → o.data ≠ .seq xs n) ∨ (∃ o, N p = some o))
  (at_ : ∀ b o, b ≠ p → s.heap.get? b = some o → h'.get? b = some o) (live : (∃ o, N p = some o) → ∃ o', h'.get? p = some o') : Poke X N σ s p h' :=
 ⟨free, h0, S.ns.elim fun m n => ⟨m, ns_at m n fun _ e => at_ _ _ (Ne.symm neG) e⟩, kind, at_, live⟩
theorem VRel.light {τ τ' : AHeap} {h : Heap} (k : ∀ a, τ a = Option.none → τ' a = Option.none) {v : V} {val : Value} (x : VRel τ h v val) : VRel τ' h v val := x.map fun a _ _ _ e g _ => ⟨k a e, g⟩
theorem VRels.light {τ τ' : AHeap} {h : Heap} (k : ∀ a, τ a = none → τ' a = none) {l : List V} {vs : List Value} (x : VRels τ h l vs) : VRels τ' h l vs := x.map fun a _ _ _ e g _ => ⟨k a e, g⟩
end Mine
end

section
open PySem PySem.Calls PyProof.Rows PySem.W
namespace Mine
set_option genSizeOf false
noncomputable def gnL : List String := ["PlaceRow", "Matcher", "Finder", "TreeFinder", "LayeredFinder", "finder_for", "_law_box", "_law_take", "_law_text", "_law_numbers", "_law_common", "_law_order", "_law_sides", "_law_longest", "_law_outwards", "_law_pairs_right", "_law_wide_right", "_law_narrow_right"]
noncomputable def gn (k : Nat) : PySem.Str := PySem.Str.ofString (gnL.getD k "")
noncomputable def gaL : List Nat := [92, 183, 226, 274, 307, 317, 324, 331, 336, 343, 350, 355, 362, 367, 372, 379, 384, 389]
noncomputable def ga (k : Nat) : Addr := gaL.getD k 0
noncomputable def methL : List (Nat × Nat × Nat) := [(92, 27, 68), (92, 14, 75), (92, 15, 82), (92, 16, 89),
 (183, 27, 110), 
 (226, 27, 202), (226, 15, 117), (226, 17, 209), (226, 18, 138), (226, 19, 145), (226, 20, 152), (226, 21, 159), (226, 22, 223), (226, 23, 180), (226, 24, 216),
 (274, 27, 243), (274, 15, 117), (274, 17, 257), (274, 18, 138), (274, 19, 145), (274, 20, 152), (274, 21, 159), (274, 22, 271), (274, 23, 180), (274, 25, 250), (274, 26, 264),
 (307, 27, 290), (307, 15, 117), (307, 17, 297), (307, 18, 138), (307, 19, 145), (307, 20, 152), (307, 21, 159), (307, 22, 304), (307, 23, 180)]
noncomputable def meth (C m : Nat) : Option Nat := (methL.find? fun p => p.1 == C && p.2.1 == m).map (·.2.2)
set_option genInjectivity false
inductive Bop where | add | sub | mul | fdiv | mod | pow deriving DecidableEq
inductive Cop where | lt | le | gt | ge | eq | ne deriving DecidableEq
inductive Tg where | v (i : Nat) | tup (is : List Nat)
noncomputable def Tg.slots : Tg → List Nat | .v i => [i] | .tup is => is
mutual
inductive E where
 | v (i : Nat) | int (n : Int) | bool (b : Bool) | str (x : String) | none
 | neg (n : Int)
 | nowhere
 | bin (op : Bop) (a b : E)
 | cmp (a : E) (op : Cop) (b : E)
 | cmp2 (a : E) (op : Cop) (b : E) (op2 : Cop) (c : E)
 | isnone (neg : Bool) (a : E)
 | and (a b : E) | or (a b : E) | not (a : E)
 | ite (c a b : E)
 | idx (a i : E)
 | last (a : E)
 | slice (a lo hi : E)
 | rev (a : E)
 | attr (a : E) (n : Nat)
 | layers (a : E) | treesize (a : E)
 | tup (es : Es) | lst (es : Es) | nlst (es : Es)
 | ndict
 | frz (a : E)
 | callf (f : Nat) (es : Es)
 | meth (o : E) (m : Nat) (es : Es)
 | cmeth (f m : Nat) (es : Es)
 | len (a : E) | min2 (a b : E) | max2 (a b : E) | max1 (a : E) | bytes (a : E) | tuple (a : E) | sorted (a : E)
 | listr (it : It)
 | lappend (o x : E) | dget (o k d : E) | lindex (o x : E)
 | nrep (x n : E)
 | ncat (a b : E)
 | comp (new : Bool) (elt : E) (gs : Gs)
inductive Es where | nil | cons (e : E) (r : Es)
inductive It where | e (a : E) | r1 (a : E) | r2 (a b : E) | r3 (a b c : E)
inductive Gs where | nil | cons (t : Tg) (it : It) (c : E) (r : Gs)
end
mutual
inductive S where
 | asg (t : Tg) (e : E)
 | setattr (o : E) (n : Nat) (e : E)
 | setidx (o i e : E)
 | aug (i : Nat) (op : Bop) (e : E)
 | ife (c : E) (a b : Ss)
 | forr (t : Tg) (it : It) (body : Ss)
 | wh (c : E) (body : Ss)
 | ret (e : E) | retn
 | brk | pass | raise
 | expr (e : E)
inductive Ss where | nil | cons (s : S) (r : Ss) | fz (i : Nat) (r : Ss)
end
inductive Fl where | next | brk | ret (v : V)
noncomputable def asList (σ : AHeap) : V → Option (List V)
 | .list l => some l
 | .ref a => match σ a with | some (.list l) => some l | _ => none
 | _ => none
noncomputable def isDict (σ : AHeap) : V → Bool
 | .ref a => match σ a with | some (.dict ..) => true | _ => false
 | _ => false
noncomputable def asItems (σ : AHeap) : V → Option (List V)
 | .tup l => some l
 | .bytes l => some (l.map fun (n : Nat) => .int (n : Int))
 | v => asList σ v
noncomputable def asFrozen : V → Option (List V)
 | .tup l => some l
 | .bytes l => some (l.map fun (n : Nat) => .int (n : Int))
 | .list l => some l
 | _ => none
noncomputable def thaw (σ : AHeap) : V → V
 | .ref a => match σ a with | some (.list l) => .list l | _ => .ref a
 | v => v
noncomputable def V.dataN : Nat → V → Bool
 | _, .int _ => true
 | n + 1, .tup l => l.all (V.dataN n)
 | n + 1, .list l => l.all (V.dataN n)
 | _, _ => false
noncomputable abbrev V.data (v : V) : Bool := v.dataN 8
mutual
noncomputable def V.py : V → PyData
 | .int i => .int i
 | .tup l => .tuple (V.pys l)
 | .list l => .list (V.pys l)
 | _ => .none
noncomputable def V.pys : List V → List PyData
 | [] => []
 | v :: r => v.py :: V.pys r
end
noncomputable def V.beq (u v : V) : Bool := PyData.eqv u.py v.py
noncomputable def V.beqs (l l' : List V) : Bool := PyData.eqvAll (V.pys l) (V.pys l')
noncomputable def V.isNone : V → Bool
 | .none => true
 | _ => false
noncomputable def intsOf : List V → Option (List Int)
 | [] => some []
 | .int i :: r => (intsOf r).map (i :: ·)
 | _ => none
noncomputable def intQ : V → Option Int
 | .int i => some i
 | _ => none
noncomputable def two? : List V → Option (Int × Int)
 | [a, b] => (intQ a).bind fun i => (intQ b).map fun j => (i, j)
 | _ => none
noncomputable def isP : V → Option (Int × Int)
 | .tup l => two? l
 | _ => none
noncomputable def pairsOf : List V → Option (List (Int × Int))
 | [] => some []
 | v :: r => (isP v).bind fun p => (pairsOf r).map (p :: ·)
noncomputable def pairV (p : Int × Int) : V := .tup [.int p.1, .int p.2]
noncomputable def pairLe (p q : Int × Int) : Prop := p.1 < q.1 ∨ (p.1 = q.1 ∧ p.2 ≤ q.2)
noncomputable def ipow (a : Int) (b : Int) : Int := a ^ b.toNat
noncomputable def copI (op : Cop) (a b : Int) : Bool := match op with
 | .lt => decide (a < b) | .le => decide (a ≤ b) | .gt => decide (b < a) | .ge => decide (b ≤ a) | .eq => decide (a = b) | .ne => !decide (a = b)
noncomputable def mkList (new : Bool) (l : List V) (σ : AHeap) (Q : V → AHeap → Prop) : Prop :=
 l.length ≤ 1000 ∧ if new then ∀ a, σ a = none → Q (.ref a) (upd σ a (.list l)) else Q (.list l) σ
noncomputable def binI (op : Bop) (a b : Int) (Q : Int → Prop) : Prop := match op with
 | .add => Q (a + b)
 | .sub => Q (a - b)
 | .mul => IntMulOk a b ∧ Q (a * b)
 | .fdiv => b ≠ 0 ∧ Builtin.divisionGoesByPylong a b = false ∧ Q (a.fdiv b)
 | .mod => b ≠ 0 ∧ Q (a.fmod b)
 | .pow => 0 ≤ b ∧ (Builtin.Int.intBits a : Int) * b ≤ 2 ^ 27 ∧ Q (ipow a b)
noncomputable def intP (u : V) (f : Int → Prop) : Prop := match u with | .int a => f a | _ => False
noncomputable def tupP (u : V) (f : List V → Prop) : Prop := match u with | .tup a => f a | _ => False
noncomputable def refP (u : V) (f : Addr → Prop) : Prop := match u with | .ref a => f a | _ => False
noncomputable def lisP (o : Option (List V)) (f : List V → Prop) : Prop := match o with | some l => f l | none => False
noncomputable def lsP (o : Option AObj) (f : List V → Prop) : Prop := match o with | some (.list l) => f l | _ => False
noncomputable def diP (o : Option AObj) (f : Nat → (Int → Option V) → Prop) : Prop := match o with | some (.dict n m) => f n m | _ => False
noncomputable def insP (o : Option AObj) (f : Addr → List (Nat × V) → Prop) : Prop := match o with | some (.inst C fs) => f C fs | _ => False
noncomputable def addP (op : Bop) (P : Prop) : Prop := match op with | .add => P | _ => False
@[elab_as_elim] theorem intP.inv {P : V → Prop} {f} (u : V) (h : intP u f) (k : ∀ a, f a → P (.int a)) : P u := V.casesOn (motive_1 := fun u => intP u f → P u) u False.elim False.elim (fun _ => False.elim) k (fun _ => False.elim) (fun _ => False.elim) (fun _ => False.elim) (fun _ => False.elim) (fun _ => False.elim) h
@[elab_as_elim] theorem refP.inv {P : V → Prop} {f} (u : V) (h : refP u f) (k : ∀ a, f a → P (.ref a)) : P u := V.casesOn (motive_1 := fun u => refP u f → P u) u False.elim False.elim (fun _ => False.elim) (fun _ => False.elim) (fun _ => False.elim) (fun _ => False.elim) (fun _ => False.elim) (fun _ => False.elim) k h
noncomputable def byP (u : V) (f : List Nat → Prop) (g : Prop) : Prop := match u with | .bytes l => f l | _ => g
theorem byP.inv {P : V → Prop} {f g} (u : V) (h : byP u f g) (k : ∀ l, f l → P (.bytes l)) (k' : ∀ u, g → P u) : P u := V.casesOn (motive_1 := fun u => byP u f g → P u) u (k' _) (k' _) (fun _ => k' _) (fun _ => k' _) (fun _ => k' _) k (fun _ => k' _) (fun _ => k' _) (fun _ => k' _) h
@[elab_as_elim] theorem tupP.inv {P : V → Prop} {f} (u : V) (h : tupP u f) (k : ∀ a, f a → P (.tup a)) : P u := V.casesOn (motive_1 := fun u => tupP u f → P u) u False.elim False.elim (fun _ => False.elim) (fun _ => False.elim) (fun _ => False.elim) (fun _ => False.elim) k (fun _ => False.elim) (fun _ => False.elim) h
theorem lisP.inv {P : Prop} {o f} (h : lisP o f) (k : ∀ l, o = some l → f l → P) : P := Option.casesOn (motive := fun o' => o = o' → lisP o' f → P) o (fun _ => False.elim) (fun l => k l) rfl h
theorem lsP.inv {P : Prop} {o f} (h : lsP o f) (k : ∀ l, o = some (.list l) → f l → P) : P := Option.casesOn (motive := fun o' => o = o' → lsP o' f → P) o (fun _ => False.elim) (fun x => AObj.casesOn (motive := fun x => o = some x → lsP (some x) f → P) x (fun l => k l) (fun _ _ _ => False.elim) (fun _ _ _ => False.elim) (fun _ _ => False.elim) (fun _ => False.elim)) rfl h
theorem diP.inv {P : Prop} {o f} (h : diP o f) (k : ∀ n m, o = some (.dict n m) → f n m → P) : P := Option.casesOn (motive := fun o' => o = o' → diP o' f → P) o (fun _ => False.elim) (fun x => AObj.casesOn (motive := fun x => o = some x → diP (some x) f → P) x (fun _ _ => False.elim) (fun n m => k n m) (fun _ _ _ => False.elim) (fun _ _ => False.elim) (fun _ => False.elim)) rfl h
theorem insP.inv {P : Prop} {o f} (h : insP o f) (k : ∀ C fs, o = some (.inst C fs) → f C fs → P) : P := Option.casesOn (motive := fun o' => o = o' → insP o' f → P) o (fun _ => False.elim) (fun x => AObj.casesOn (motive := fun x => o = some x → insP (some x) f → P) x (fun _ _ => False.elim) (fun _ _ _ => False.elim) (fun C fs => k C fs) (fun _ _ => False.elim) (fun _ => False.elim)) rfl h
@[elab_as_elim] theorem addP.inv {P : Bop → Prop} {f : Prop} (op : Bop) (h : addP op f) (k : f → P .add) : P op := Bop.casesOn (motive := fun op => addP op f → P op) op k False.elim False.elim False.elim False.elim False.elim h
theorem ls_ref {o : Option AObj} {f : List V → Prop} : lisP (match o with | some (.list l) => some l | _ => none) f = lsP o f := by rcases o with _ | (_ | _ | _ | _ | _) <;> rfl
noncomputable def binP (op : Bop) (u v : V) (σ : AHeap) (Q : V → AHeap → Prop) : Prop :=
 match u with
 | .int a => intP v fun b => binI op a b fun r => Q (.int r) σ
 | u => addP op (lisP (asList σ u) fun l => lisP (asList σ v) fun l' => (l ++ l').length ≤ 1000 ∧ Q (.list (l ++ l')) σ)
noncomputable def ncatP (u v : V) (σ : AHeap) (Q : V → AHeap → Prop) : Prop := lisP (asList σ u) fun l => lisP (asList σ v) fun l' => mkList true (l ++ l') σ Q
noncomputable def cmpP (op : Cop) (u v : V) (σ : AHeap) (Q : Bool → Prop) : Prop :=
 match u, v with
 | .int a, .int b => Q (copI op a b)
 | .str a, .str b => match op with | .eq => Q (a == b) | _ => False
 | u, v => (thaw σ u).data = true ∧ (thaw σ v).data = true ∧ match op with
  | .eq => Q ((thaw σ u).beq (thaw σ v))
  | .ne => Q (!(thaw σ u).beq (thaw σ v))
  | _ => False
noncomputable def truthP (v : V) (Q : Bool → Prop) : Prop := match v with | .bool b => Q b | _ => False
noncomputable def idxP (u i : V) (σ : AHeap) (Q : V → Prop) : Prop := lisP (asItems σ u) fun l => intP i fun k => 0 ≤ k ∧ ∃ x, l[k.toNat]? = some x ∧ Q x
noncomputable def lastP (u : V) (σ : AHeap) (Q : V → Prop) : Prop := lisP (asList σ u) fun l => ∃ x, l.getLast? = some x ∧ Q x
noncomputable def bndP (lo hi : V) (Q : Nat → Option Nat → Prop) : Prop := match lo, hi with
 | .none, .none => Q 0 none
 | .int a, .none => 0 ≤ a ∧ Q a.toNat none
 | .none, .int b => 0 ≤ b ∧ Q 0 (some b.toNat)
 | .int a, .int b => 0 ≤ a ∧ 0 ≤ b ∧ Q a.toNat (some b.toNat)
 | _, _ => False
noncomputable def cut {α : Type} (l : List α) (a : Nat) (b : Option Nat) : List α := match b with
 | none => l.drop a
 | some b => (l.take b).drop a
noncomputable def sliceP (u lo hi : V) (σ : AHeap) (Q : V → Prop) : Prop := bndP lo hi fun a b => byP u (fun l => Q (.bytes (cut l a b))) (lisP (asList σ u) fun l => Q (.list (cut l a b)))
noncomputable def revP (u : V) (σ : AHeap) (Q : V → Prop) : Prop := byP u (fun l => Q (.bytes l.reverse)) (lisP (asList σ u) fun l => Q (.list l.reverse))
noncomputable def lenP (u : V) (σ : AHeap) (Q : Int → Prop) : Prop := lisP (asItems σ u) fun l => Q l.length
noncomputable def max1P (u : V) (σ : AHeap) (Q : V → Prop) : Prop := lisP (asList σ u) fun l => match intsOf l with
  | some x => 0 < x.length ∧ ∀ m, m ∈ x → (∀ a ∈ x, a ≤ m) → Q (.int m)
  | none => match pairsOf l with
   | some x => 0 < x.length ∧ ∀ p, p ∈ x → (∀ q ∈ x, pairLe q p) → Q (pairV p)
   | none => False
noncomputable def sortP (u : V) (σ : AHeap) (Q : V → Prop) : Prop := lisP (asList σ u) fun l => l.length < 64 ∧ match intsOf l with
  | some x => ∀ y : List Int, y.Perm x → y.Pairwise (· ≤ ·) → Q (.list (y.map .int))
  | none => match pairsOf l with
   | some x => 2 ≤ l.length ∧ x.Nodup ∧ ∀ y : List (Int × Int), y.Perm x → y.Pairwise pairLe → Q (.list (y.map pairV))
   | none => False
noncomputable def bytesP (u : V) (σ : AHeap) (Q : V → Prop) : Prop := byP u (fun l => Q (.bytes l)) <| lisP (asList σ u) fun l => ∃ ns : List Nat, l = ns.map (fun (n : Nat) => V.int (n : Int)) ∧ (∀ n ∈ ns, n < 256) ∧ ns.length ≤ 1000 ∧ Q (.bytes ns)
noncomputable def dgetP (u key d : V) (σ : AHeap) (Q : V → Prop) : Prop := refP u fun a => intP key fun k => diP (σ a) fun _ m => Q ((m k).getD d)
noncomputable def indexP (u x : V) (σ : AHeap) (Q : Int → Prop) : Prop := lisP (asList σ u) fun l => intP x fun k => match intsOf l with
  | some ns => k ∈ ns ∧ Q (ns.idxOf k : Nat)
  | none => False
noncomputable def appendP (u x : V) (σ : AHeap) (Q : V → AHeap → Prop) : Prop := refP u fun a => lsP (σ a) fun l => l.length < 1000 ∧ Q .none (upd σ a (.list (l ++ [x])))
noncomputable def getP : Option V → (V → Prop) → Prop
 | some .undef, _ => False
 | some .none, Q => Q .none
 | some (.bool b), Q => Q (.bool b)
 | some (.int i), Q => Q (.int i)
 | some (.str x), Q => Q (.str x)
 | some (.bytes l), Q => Q (.bytes l)
 | some (.tup l), Q => Q (.tup l)
 | some (.list l), Q => Q (.list l)
 | some (.ref a), Q => Q (.ref a)
 | none, _ => False
theorem getP_inv {o : Option V} {Q : V → Prop} (h : getP o Q) : ∃ v, o = some v ∧ v ≠ .undef ∧ Q v :=
 Option.casesOn (motive := fun o => getP o Q → ∃ v, o = some v ∧ v ≠ .undef ∧ Q v) o False.elim (fun v => V.casesOn (motive_1 := fun v => getP (some v) Q → ∃ w, some v = some w ∧ w ≠ .undef ∧ Q w) v False.elim
  (fun h => ⟨_, rfl, (V.noConfusion ·), h⟩) (fun _ h => ⟨_, rfl, (V.noConfusion ·), h⟩) (fun _ h => ⟨_, rfl, (V.noConfusion ·), h⟩) (fun _ h => ⟨_, rfl, (V.noConfusion ·), h⟩) (fun _ h => ⟨_, rfl, (V.noConfusion ·), h⟩) (fun _ h => ⟨_, rfl, (V.noConfusion ·), h⟩) (fun _ h => ⟨_, rfl, (V.noConfusion ·), h⟩) (fun _ h => ⟨_, rfl, (V.noConfusion ·), h⟩)) h
noncomputable def attrP (u : V) (n : Nat) (σ : AHeap) (Q : V → Prop) : Prop := refP u fun a => insP (σ a) fun _ fs => getP (fs.lookup n) Q
noncomputable def cattrP (u : V) (n : Nat) (w : V) (σ : AHeap) (Q : V → Prop) : Prop := refP u fun a => insP (σ a) fun C fs => C = 307 ∧ fs.lookup n = none ∧ Q w
noncomputable def methP (u : V) (m : Nat) (σ : AHeap) (Q : Addr → Addr → Prop) : Prop := refP u fun a => insP (σ a) fun C fs => fs.lookup m = none ∧ ∃ f, meth C m = some f ∧ Q a f
noncomputable def frzP (u : V) (σ : AHeap) (Q : V → AHeap → Prop) : Prop := refP u fun a => lsP (σ a) fun l => Q (.list l) (del σ a)
noncomputable def small (i : Int) : Prop := -1000 ≤ i ∧ i ≤ 1000
noncomputable def range1P (a : V) (Q : List V → Prop) : Prop := intP a fun n => small n ∧ Q ((List.range n.toNat).map fun (i : Nat) => V.int (i : Int))
noncomputable def range2P (a b : V) (Q : List V → Prop) : Prop := intP a fun x => intP b fun y => small x ∧ small y ∧ Q ((List.range (y - x).toNat).map fun (i : Nat) => V.int (x + (i : Int)))
noncomputable def range3P (a b c : V) (Q : List V → Prop) : Prop := intP a fun x => intP b fun y => intP c fun z => small x ∧ small y ∧ z = -1 ∧ Q ((List.range (x - y).toNat).map fun (i : Nat) => V.int (x - (i : Int)))
noncomputable def setAll : List V → List Nat → List V → List V
 | ρ, i :: is, v :: vs => setAll (ρ.set i v) is vs
 | ρ, _, _ => ρ
noncomputable def asgP (t : Tg) (v : V) (ρ : List V) (Q : List V → Prop) : Prop := match t with
 | .v i => Q (ρ.set i v)
 | .tup is => match v with
  | .tup l => l.length = is.length ∧ Q (setAll ρ is l)
  | .list l => l.length = is.length ∧ Q (setAll ρ is l)
  | _ => False
noncomputable def clr (ρ : List V) (is : List Nat) : List V := is.foldl (fun r i => r.set i .undef) ρ
noncomputable def Gs.slots : Gs → List Nat
 | .nil => []
 | .cons t _ _ r => t.slots ++ r.slots
noncomputable def Room (k : Nat) (A : Around) : Prop := A.handled = none ∧ A.depth + 4 * k + 10 ≤ recursionLimit ∧ A.units + 20 * k + 200 ≤ cLine
inductive PostE (X : Cx) (N : Hid) (σ : AHeap) (s : Shared) (Q : V → AHeap → Prop) (val : Value) (s' : Shared) : Prop
 | mk (v : V) (σ' : AHeap) (st : St X N σ' s') (step : Step X σ s σ' s') (rel : VRel (hid N σ') s'.heap v val) (q : Q v σ') : PostE X N σ s Q val s'
noncomputable def WC (X : Cx) (k : Nat) (f : Value) (args : List V) (σ : AHeap) (Q : V → AHeap → Prop) : Prop :=
 ∀ N A s vals, Room k A → St X N σ s → VRels (hid N σ) s.heap args vals → wpAny (model X.prog X.w) A (call f vals) (PostE X N σ s Q) (fun _ _ => False) s
theorem WC.mono {X : Cx} {k : Nat} {f : Value} {args : List V} {σ : AHeap} {Q Q' : V → AHeap → Prop} (h : WC X k f args σ Q) (hQ : ∀ v σ', Q v σ' → Q' v σ') : WC X k f args σ Q' :=
 fun N A s vals R S V => wpAny_mono (h N A s vals R S V) (fun _ _ p => p.rec fun v σ' a b c d => ⟨v, σ', a, b, c, hQ v σ' d⟩) fun _ _ x => x
mutual
noncomputable def wpE (X : Cx) (k : Nat) : E → List V → AHeap → (V → AHeap → Prop) → Prop
 | .v i, ρ, σ, Q => getP (ρ[i]?) fun v => Q v σ
 | .int n, _, σ, Q => Q (.int n) σ
 | .bool b, _, σ, Q => Q (.bool b) σ
 | .str x, _, σ, Q => Q (.str (PySem.Str.ofString x)) σ
 | .none, _, σ, Q => Q .none σ
 | .neg n, _, σ, Q => Q (.int (-n)) σ
 | .nowhere, _, σ, Q => Q (.int (-1)) σ
 | .bin op a b, ρ, σ, Q => wpE X k a ρ σ fun u σ₁ => wpE X k b ρ σ₁ fun v σ₂ => binP op u v σ₂ Q
 | .cmp a op b, ρ, σ, Q => wpE X k a ρ σ fun u σ₁ => wpE X k b ρ σ₁ fun v σ₂ => cmpP op u v σ₂ fun r => Q (.bool r) σ₂
 | .cmp2 a op b op2 c, ρ, σ, Q => wpE X k a ρ σ fun u σ₁ => wpE X k b ρ σ₁ fun v σ₂ => cmpP op u v σ₂ fun r => if r = true then wpE X k c ρ σ₂ fun w σ₃ => cmpP op2 v w σ₃ fun r2 => Q (.bool r2) σ₃ else Q (.bool false) σ₂
 | .isnone neg a, ρ, σ, Q => wpE X k a ρ σ fun u σ₁ => u ≠ .undef ∧ Q (.bool (u.isNone != neg)) σ₁
 | .and a b, ρ, σ, Q => wpE X k a ρ σ fun u σ₁ => truthP u fun r => if r = true then wpE X k b ρ σ₁ Q else Q (.bool false) σ₁
 | .or a b, ρ, σ, Q => wpE X k a ρ σ fun u σ₁ => truthP u fun r => if r = true then Q (.bool true) σ₁ else wpE X k b ρ σ₁ Q
 | .not a, ρ, σ, Q => wpE X k a ρ σ fun u σ₁ => truthP u fun r => Q (.bool (!r)) σ₁
 | .ite c a b, ρ, σ, Q => wpE X k c ρ σ fun u σ₁ => truthP u fun r => if r = true then wpE X k a ρ σ₁ Q else wpE X k b ρ σ₁ Q
 | .idx a i, ρ, σ, Q => wpE X k a ρ σ fun u σ₁ => wpE X k i ρ σ₁ fun v σ₂ => idxP u v σ₂ fun x => Q x σ₂
 | .last a, ρ, σ, Q => wpE X k a ρ σ fun u σ₁ => lastP u σ₁ fun x => Q x σ₁
 | .slice a lo hi, ρ, σ, Q => wpE X k a ρ σ fun u σ₁ => wpE X k lo ρ σ₁ fun x σ₂ => wpE X k hi ρ σ₂ fun y σ₃ => sliceP u x y σ₃ fun r => Q r σ₃
 | .rev a, ρ, σ, Q => wpE X k a ρ σ fun u σ₁ => revP u σ₁ fun r => Q r σ₁
 | .attr a n, ρ, σ, Q => wpE X k a ρ σ fun u σ₁ => attrP u n σ₁ fun r => Q r σ₁
 | .layers a, ρ, σ, Q => wpE X k a ρ σ fun u σ₁ => cattrP u 28 (.tup [.int 2, .int 3]) σ₁ fun r => Q r σ₁
 | .treesize a, ρ, σ, Q => wpE X k a ρ σ fun u σ₁ => cattrP u 29 (.int 4) σ₁ fun r => Q r σ₁
 | .tup es, ρ, σ, Q => wpEs X k es ρ σ fun l σ₁ => l.length ≤ 1000 ∧ Q (.tup l) σ₁
 | .lst es, ρ, σ, Q => wpEs X k es ρ σ fun l σ₁ => mkList false l σ₁ Q
 | .nlst es, ρ, σ, Q => wpEs X k es ρ σ fun l σ₁ => mkList true l σ₁ Q
 | .ndict, _, σ, Q => ∀ a, σ a = none → Q (.ref a) (upd σ a (.dict 0 fun _ => none))
 | .frz a, ρ, σ, Q => wpE X k a ρ σ fun u σ₁ => frzP u σ₁ Q
 | .callf f es, ρ, σ, Q => wpEs X k es ρ σ fun l σ₁ => WC X k (.ref (ga f)) l σ₁ Q
 | .meth o m es, ρ, σ, Q => wpE X k o ρ σ fun u σ₁ => methP u m σ₁ fun a f => wpEs X k es ρ σ₁ fun l σ₂ => WC X k (.ref f) (.ref a :: l) σ₂ Q
 | .cmeth c m es, ρ, σ, Q => ∃ f, meth (ga c) m = some f ∧ wpEs X k es ρ σ fun l σ₁ => WC X k (.ref f) l σ₁ Q
 | .len a, ρ, σ, Q => wpE X k a ρ σ fun u σ₁ => lenP u σ₁ fun r => Q (.int r) σ₁
 | .min2 a b, ρ, σ, Q => wpE X k a ρ σ fun u σ₁ => wpE X k b ρ σ₁ fun v σ₂ => intP u fun x => intP v fun y => Q (.int (min x y)) σ₂
 | .max2 a b, ρ, σ, Q => wpE X k a ρ σ fun u σ₁ => wpE X k b ρ σ₁ fun v σ₂ => intP u fun x => intP v fun y => Q (.int (max x y)) σ₂
 | .max1 a, ρ, σ, Q => wpE X k a ρ σ fun u σ₁ => max1P u σ₁ fun r => Q r σ₁
 | .bytes a, ρ, σ, Q => wpE X k a ρ σ fun u σ₁ => bytesP u σ₁ fun r => Q r σ₁
 | .tuple a, ρ, σ, Q => wpE X k a ρ σ fun u σ₁ => tupP u fun l => Q (.tup l) σ₁
 | .sorted a, ρ, σ, Q => wpE X k a ρ σ fun u σ₁ => sortP u σ₁ fun r => Q r σ₁
 | .listr it, ρ, σ, Q => wpI X k it ρ σ fun l σ₁ => mkList false l σ₁ Q
 | .lappend o x, ρ, σ, Q => wpE X k o ρ σ fun u σ₁ => (asList σ₁ u).isSome = true ∧ wpE X k x ρ σ₁ fun v σ₂ => appendP u v σ₂ Q
 | .dget o key d, ρ, σ, Q => wpE X k o ρ σ fun u σ₁ => isDict σ₁ u = true ∧ wpE X k key ρ σ₁ fun v σ₂ => wpE X k d ρ σ₂ fun z σ₃ => dgetP u v z σ₃ fun r => Q r σ₃
 | .lindex o x, ρ, σ, Q => wpE X k o ρ σ fun u σ₁ => (asList σ₁ u).isSome = true ∧ wpE X k x ρ σ₁ fun v σ₂ => indexP u v σ₂ fun r => Q (.int r) σ₂
 | .nrep x n, ρ, σ, Q => wpE X k x ρ σ fun u σ₁ => wpE X k n ρ σ₁ fun v σ₂ => intP u fun i => intP v fun m => 0 ≤ m ∧ mkList true (List.replicate m.toNat (.int i)) σ₂ Q
 | .ncat a b, ρ, σ, Q => wpE X k a ρ σ fun u σ₁ => wpE X k b ρ σ₁ fun v σ₂ => ncatP u v σ₂ Q
 | .comp new elt gs, ρ, σ, Q => wpG X k (fun ρ σ Q => wpE X k elt ρ σ Q) gs (some ρ) (clr ρ gs.slots) σ [] fun l σ₁ => mkList new l σ₁ Q
noncomputable def wpEs (X : Cx) (k : Nat) : Es → List V → AHeap → (List V → AHeap → Prop) → Prop
 | .nil, _, σ, Q => Q [] σ
 | .cons e r, ρ, σ, Q => wpE X k e ρ σ fun v σ₁ => wpEs X k r ρ σ₁ fun l σ₂ => Q (v :: l) σ₂
noncomputable def wpI (X : Cx) (k : Nat) : It → List V → AHeap → (List V → AHeap → Prop) → Prop
 | .e a, ρ, σ, Q => wpE X k a ρ σ fun u σ₁ => lisP (asFrozen u) fun l => Q l σ₁
 | .r1 a, ρ, σ, Q => wpE X k a ρ σ fun u σ₁ => range1P u fun l => Q l σ₁
 | .r2 a b, ρ, σ, Q => wpE X k a ρ σ fun u σ₁ => wpE X k b ρ σ₁ fun v σ₂ => range2P u v fun l => Q l σ₂
 | .r3 a b c, ρ, σ, Q => wpE X k a ρ σ fun u σ₁ => wpE X k b ρ σ₁ fun v σ₂ => wpE X k c ρ σ₂ fun z σ₃ => range3P u v z fun l => Q l σ₃
noncomputable def wpG (X : Cx) (k : Nat) (elt : List V → AHeap → (V → AHeap → Prop) → Prop) : Gs → Option (List V) → List V → AHeap → List V → (List V → AHeap → Prop) → Prop
 | .nil, _, ρ, σ, acc, Q => elt ρ σ fun v σ₁ => Q (acc ++ [v]) σ₁
 | .cons t it c r, first, ρ, σ, acc, Q => wpI X k it (first.getD ρ) σ fun items σ₁ =>
   items.foldr (fun x (K : List V → AHeap → Prop) acc σ => asgP t x ρ fun ρ' => wpE X k c ρ' σ fun u σ₂ => truthP u fun b => if b = true then acc.length < 1000 ∧ wpG X k elt r none ρ' σ₂ acc K else K acc σ₂) Q acc σ₁
end
end Mine
end

section
open PySem PySem.Calls PyProof.Rows PySem.W
namespace Mine
set_option genSizeOf false
set_option genInjectivity false
noncomputable def setidxP (u i x : V) (σ : AHeap) (Q : AHeap → Prop) : Prop := refP u fun a => intP i fun k => match σ a with
  | some (.list l) => 0 ≤ k ∧ k < l.length ∧ Q (upd σ a (.list (l.set k.toNat x)))
  | o => diP o fun n m => n < 1000 ∧ Q (upd σ a (.dict (n + 1) fun j => if j = k then some x else m j))
noncomputable def putF (n : Nat) (v : V) : List (Nat × V) → List (Nat × V)
 | [] => [(n, v)]
 | (k, w) :: r => if k = n then (k, v) :: r else (k, w) :: putF n v r
noncomputable def setattrP (u : V) (n : Nat) (x : V) (σ : AHeap) (Q : AHeap → Prop) : Prop := refP u fun a => insP (σ a) fun C fs => n < 14 ∧ fs.length < 100 ∧ Q (upd σ a (.inst C (putF n x fs)))
noncomputable def fzP (i : Nat) (ρ : List V) (σ : AHeap) (Q : List V → AHeap → Prop) : Prop := getP (ρ[i]?) fun u => refP u fun a => lsP (σ a) fun l => Q (ρ.set i (.list l)) (del σ a)
noncomputable def whileP (test : List V → AHeap → (Bool → AHeap → Prop) → Prop) (body : List V → AHeap → (Fl → List V → AHeap → Prop) → Prop) (Q : Fl → List V → AHeap → Prop) : Nat → List V → AHeap → Prop
 | 0, _, _ => False
 | n + 1, ρ, σ => test ρ σ fun b σ₁ => if b = true then body ρ σ₁ (fun fl ρ' σ' => match fl with
   | .next => whileP test body Q n ρ' σ'
   | .brk => Q .next ρ' σ'
   | .ret v => Q (.ret v) ρ' σ') else Q .next ρ σ₁
noncomputable def forP (t : Tg) (body : List V → AHeap → (Fl → List V → AHeap → Prop) → Prop) (Q : Fl → List V → AHeap → Prop) : List V → List V → AHeap → Prop
 | [], ρ, σ => Q .next ρ σ
 | x :: r, ρ, σ => asgP t x ρ fun ρ₁ => body ρ₁ σ (fun fl ρ' σ' => match fl with
   | .next => forP t body Q r ρ' σ'
   | .brk => Q .next ρ' σ'
   | .ret v => Q (.ret v) ρ' σ')
mutual
noncomputable def wpS (X : Cx) (k : Nat) : S → List V → AHeap → (Fl → List V → AHeap → Prop) → Prop
 | .asg t e, ρ, σ, Q => wpE X k e ρ σ fun v σ₁ => asgP t v ρ fun ρ' => Q .next ρ' σ₁
 | .setattr o n e, ρ, σ, Q => wpE X k e ρ σ fun v σ₁ => wpE X k o ρ σ₁ fun u σ₂ => setattrP u n v σ₂ fun σ₃ => Q .next ρ σ₃
 | .setidx o i e, ρ, σ, Q => wpE X k e ρ σ fun v σ₁ => wpE X k o ρ σ₁ fun u σ₂ => wpE X k i ρ σ₂ fun j σ₃ => setidxP u j v σ₃ fun σ₄ => Q .next ρ σ₄
 | .aug i op e, ρ, σ, Q => getP (ρ[i]?) fun u => wpE X k e ρ σ fun v σ₁ => intP u fun a => intP v fun b => op = .add ∧ Q .next (ρ.set i (.int (a + b))) σ₁
 | .ife c a b, ρ, σ, Q => wpE X k c ρ σ fun u σ₁ => truthP u fun r => if r = true then wpSs X k a ρ σ₁ Q else wpSs X k b ρ σ₁ Q
 | .forr t it body, ρ, σ, Q => wpI X k it ρ σ fun items σ₁ => forP t (fun ρ σ Q => wpSs X k body ρ σ Q) Q items ρ σ₁
 | .wh c body, ρ, σ, Q => ∃ n, whileP (fun ρ σ Q => wpE X k c ρ σ fun u σ₁ => truthP u fun b => Q b σ₁) (fun ρ σ Q => wpSs X k body ρ σ Q) Q n ρ σ
 | .ret e, ρ, σ, Q => wpE X k e ρ σ fun v σ₁ => Q (.ret v) ρ σ₁
 | .retn, ρ, σ, Q => Q (.ret .none) ρ σ
 | .brk, ρ, σ, Q => Q .brk ρ σ
 | .pass, ρ, σ, Q => Q .next ρ σ
 | .raise, _, _, _ => False
 | .expr e, ρ, σ, Q => wpE X k e ρ σ fun _ σ₁ => Q .next ρ σ₁
noncomputable def wpSs (X : Cx) (k : Nat) : Ss → List V → AHeap → (Fl → List V → AHeap → Prop) → Prop
 | .nil, ρ, σ, Q => Q .next ρ σ
 | .cons s r, ρ, σ, Q => wpS X k s ρ σ fun fl ρ' σ' => match fl with
   | .next => wpSs X k r ρ' σ' Q
   | .brk => Q .brk ρ' σ'
   | .ret v => Q (.ret v) ρ' σ'
 | .fz i r, ρ, σ, Q => fzP i ρ σ fun ρ' σ' => wpSs X k r ρ' σ' Q
end
theorem no_else {c : Prop} [Decidable c] {f : c → Bool} (e : ¬ c) (h : (if h : c then f h else false) = true) : False := Bool.false_ne_true ((dif_neg e).symm.trans h)
noncomputable def vName (f : PySem.Str → Bool) (x : PySem.Expr) : Bool := if h : x.ctorIdx = 23 then PySem.Expr.Name.elim (motive_1 := fun _ => Bool) x h (fun id _ => f id) else false
@[elab_as_elim] theorem vName_inv {f} {P : PySem.Expr → Prop} (x : PySem.Expr) (h : vName f x = true) (k : ∀ (id : PySem.Str) (p : Pos), f id = true → P (.Name id p)) : P x := if e : x.ctorIdx = 23 then PySem.Expr.Name.elim (motive_1 := fun x => vName f x = true → P x) x e k h else (no_else e h).elim
noncomputable def vConst (f : PySem.Const → Bool) (x : PySem.Expr) : Bool := if h : x.ctorIdx = 19 then PySem.Expr.Constant.elim (motive_1 := fun _ => Bool) x h (fun c _ _ => f c) else false
@[elab_as_elim] theorem vConst_inv {f} {P : PySem.Expr → Prop} (x : PySem.Expr) (h : vConst f x = true) (k : ∀ (c : PySem.Const) (n : Nat) (p : Pos), f c = true → P (.Constant c n p)) : P x := if e : x.ctorIdx = 19 then PySem.Expr.Constant.elim (motive_1 := fun x => vConst f x = true → P x) x e k h else (no_else e h).elim
noncomputable def vUn (f : UnaryOp → PySem.Expr → Bool) (x : PySem.Expr) : Bool := if h : x.ctorIdx = 3 then PySem.Expr.UnaryOp.elim (motive_1 := fun _ => Bool) x h (fun o e _ => f o e) else false
@[elab_as_elim] theorem vUn_inv {f} {P : PySem.Expr → Prop} (x : PySem.Expr) (h : vUn f x = true) (k : ∀ (o : UnaryOp) (e : PySem.Expr) (p : Pos), f o e = true → P (.UnaryOp o e p)) : P x := if e : x.ctorIdx = 3 then PySem.Expr.UnaryOp.elim (motive_1 := fun x => vUn f x = true → P x) x e k h else (no_else e h).elim
noncomputable def vBin (f : PySem.Expr → Operator → PySem.Expr → Bool) (x : PySem.Expr) : Bool := if h : x.ctorIdx = 2 then PySem.Expr.BinOp.elim (motive_1 := fun _ => Bool) x h (fun l o r _ => f l o r) else false
@[elab_as_elim] theorem vBin_inv {f} {P : PySem.Expr → Prop} (x : PySem.Expr) (h : vBin f x = true) (k : ∀ (l : PySem.Expr) (o : Operator) (r : PySem.Expr) (p : Pos), f l o r = true → P (.BinOp l o r p)) : P x := if e : x.ctorIdx = 2 then PySem.Expr.BinOp.elim (motive_1 := fun x => vBin f x = true → P x) x e k h else (no_else e h).elim
noncomputable def vCmp (f : PySem.Expr → (List CmpOp) → (List PySem.Expr) → Bool) (x : PySem.Expr) : Bool := if h : x.ctorIdx = 15 then PySem.Expr.Compare.elim (motive_1 := fun _ => Bool) x h (fun l os rs _ => f l os rs) else false
@[elab_as_elim] theorem vCmp_inv {f} {P : PySem.Expr → Prop} (x : PySem.Expr) (h : vCmp f x = true) (k : ∀ (l : PySem.Expr) (os : List CmpOp) (rs : List PySem.Expr) (p : Pos), f l os rs = true → P (.Compare l os rs p)) : P x := if e : x.ctorIdx = 15 then PySem.Expr.Compare.elim (motive_1 := fun x => vCmp f x = true → P x) x e k h else (no_else e h).elim
noncomputable def vBool (f : BoolOp → (List PySem.Expr) → Pos → Bool) (x : PySem.Expr) : Bool := if h : x.ctorIdx = 0 then PySem.Expr.BoolOp.elim (motive_1 := fun _ => Bool) x h (fun o es p => f o es p) else false
@[elab_as_elim] theorem vBool_inv {f} {P : PySem.Expr → Prop} (x : PySem.Expr) (h : vBool f x = true) (k : ∀ (o : BoolOp) (es : List PySem.Expr) (p : Pos), f o es p = true → P (.BoolOp o es p)) : P x := if e : x.ctorIdx = 0 then PySem.Expr.BoolOp.elim (motive_1 := fun x => vBool f x = true → P x) x e k h else (no_else e h).elim
noncomputable def vIf (f : PySem.Expr → PySem.Expr → PySem.Expr → Bool) (x : PySem.Expr) : Bool := if h : x.ctorIdx = 5 then PySem.Expr.IfExp.elim (motive_1 := fun _ => Bool) x h (fun t l r _ => f t l r) else false
@[elab_as_elim] theorem vIf_inv {f} {P : PySem.Expr → Prop} (x : PySem.Expr) (h : vIf f x = true) (k : ∀ (t : PySem.Expr) (l : PySem.Expr) (r : PySem.Expr) (p : Pos), f t l r = true → P (.IfExp t l r p)) : P x := if e : x.ctorIdx = 5 then PySem.Expr.IfExp.elim (motive_1 := fun x => vIf f x = true → P x) x e k h else (no_else e h).elim
noncomputable def vSub (f : PySem.Expr → PySem.Expr → Bool) (x : PySem.Expr) : Bool := if h : x.ctorIdx = 21 then PySem.Expr.Subscript.elim (motive_1 := fun _ => Bool) x h (fun l s _ => f l s) else false
@[elab_as_elim] theorem vSub_inv {f} {P : PySem.Expr → Prop} (x : PySem.Expr) (h : vSub f x = true) (k : ∀ (l : PySem.Expr) (s : PySem.Expr) (p : Pos), f l s = true → P (.Subscript l s p)) : P x := if e : x.ctorIdx = 21 then PySem.Expr.Subscript.elim (motive_1 := fun x => vSub f x = true → P x) x e k h else (no_else e h).elim
noncomputable def vSlice (f : (Option PySem.Expr) → (Option PySem.Expr) → (Option PySem.Expr) → Bool) (x : PySem.Expr) : Bool := if h : x.ctorIdx = 26 then PySem.Expr.Slice.elim (motive_1 := fun _ => Bool) x h (fun lo hi st _ => f lo hi st) else false
@[elab_as_elim] theorem vSlice_inv {f} {P : PySem.Expr → Prop} (x : PySem.Expr) (h : vSlice f x = true) (k : ∀ (lo : Option PySem.Expr) (hi : Option PySem.Expr) (st : Option PySem.Expr) (p : Pos), f lo hi st = true → P (.Slice lo hi st p)) : P x := if e : x.ctorIdx = 26 then PySem.Expr.Slice.elim (motive_1 := fun x => vSlice f x = true → P x) x e k h else (no_else e h).elim
noncomputable def vAttr (f : PySem.Expr → PySem.Str → Pos → Bool) (x : PySem.Expr) : Bool := if h : x.ctorIdx = 20 then PySem.Expr.Attribute.elim (motive_1 := fun _ => Bool) x h (fun l t p => f l t p) else false
@[elab_as_elim] theorem vAttr_inv {f} {P : PySem.Expr → Prop} (x : PySem.Expr) (h : vAttr f x = true) (k : ∀ (l : PySem.Expr) (t : PySem.Str) (p : Pos), f l t p = true → P (.Attribute l t p)) : P x := if e : x.ctorIdx = 20 then PySem.Expr.Attribute.elim (motive_1 := fun x => vAttr f x = true → P x) x e k h else (no_else e h).elim
noncomputable def vTup (f : (List PySem.Expr) → Bool) (x : PySem.Expr) : Bool := if h : x.ctorIdx = 25 then PySem.Expr.Tuple.elim (motive_1 := fun _ => Bool) x h (fun es _ _ => f es) else false
@[elab_as_elim] theorem vTup_inv {f} {P : PySem.Expr → Prop} (x : PySem.Expr) (h : vTup f x = true) (k : ∀ (es : List PySem.Expr) (n : Nat) (p : Pos), f es = true → P (.Tuple es n p)) : P x := if e : x.ctorIdx = 25 then PySem.Expr.Tuple.elim (motive_1 := fun x => vTup f x = true → P x) x e k h else (no_else e h).elim
noncomputable def vList (f : (List PySem.Expr) → Bool) (x : PySem.Expr) : Bool := if h : x.ctorIdx = 24 then PySem.Expr.List.elim (motive_1 := fun _ => Bool) x h (fun es _ => f es) else false
@[elab_as_elim] theorem vList_inv {f} {P : PySem.Expr → Prop} (x : PySem.Expr) (h : vList f x = true) (k : ∀ (es : List PySem.Expr) (p : Pos), f es = true → P (.List es p)) : P x := if e : x.ctorIdx = 24 then PySem.Expr.List.elim (motive_1 := fun x => vList f x = true → P x) x e k h else (no_else e h).elim
noncomputable def vDict (f : (List (Option PySem.Expr)) → (List PySem.Expr) → Bool) (x : PySem.Expr) : Bool := if h : x.ctorIdx = 6 then PySem.Expr.Dict.elim (motive_1 := fun _ => Bool) x h (fun ks vs _ => f ks vs) else false
@[elab_as_elim] theorem vDict_inv {f} {P : PySem.Expr → Prop} (x : PySem.Expr) (h : vDict f x = true) (k : ∀ (ks : List (Option PySem.Expr)) (vs : List PySem.Expr) (p : Pos), f ks vs = true → P (.Dict ks vs p)) : P x := if e : x.ctorIdx = 6 then PySem.Expr.Dict.elim (motive_1 := fun x => vDict f x = true → P x) x e k h else (no_else e h).elim
noncomputable def vCall (f : PySem.Expr → (List PySem.Expr) → (List Keyword) → Pos → Bool) (x : PySem.Expr) : Bool := if h : x.ctorIdx = 16 then PySem.Expr.Call.elim (motive_1 := fun _ => Bool) x h (fun g as ks p => f g as ks p) else false
@[elab_as_elim] theorem vCall_inv {f} {P : PySem.Expr → Prop} (x : PySem.Expr) (h : vCall f x = true) (k : ∀ (g : PySem.Expr) (as : List PySem.Expr) (ks : List Keyword) (p : Pos), f g as ks p = true → P (.Call g as ks p)) : P x := if e : x.ctorIdx = 16 then PySem.Expr.Call.elim (motive_1 := fun x => vCall f x = true → P x) x e k h else (no_else e h).elim
noncomputable def vComp (f : PySem.Expr → (List Comprehension) → Scope → Bool) (x : PySem.Expr) : Bool := if h : x.ctorIdx = 8 then PySem.Expr.ListComp.elim (motive_1 := fun _ => Bool) x h (fun l gs sc _ => f l gs sc) else false
@[elab_as_elim] theorem vComp_inv {f} {P : PySem.Expr → Prop} (x : PySem.Expr) (h : vComp f x = true) (k : ∀ (l : PySem.Expr) (gs : List Comprehension) (sc : Scope) (p : Pos), f l gs sc = true → P (.ListComp l gs sc p)) : P x := if e : x.ctorIdx = 8 then PySem.Expr.ListComp.elim (motive_1 := fun x => vComp f x = true → P x) x e k h else (no_else e h).elim
noncomputable def vAssign (f : (List PySem.Expr) → PySem.Expr → Bool) (x : Stmt) : Bool := if h : x.ctorIdx = 5 then Stmt.Assign.elim (motive_2 := fun _ => Bool) x h (fun ts v _ => f ts v) else false
@[elab_as_elim] theorem vAssign_inv {f} {P : Stmt → Prop} (x : Stmt) (h : vAssign f x = true) (k : ∀ (ts : List PySem.Expr) (v : PySem.Expr) (p : Pos), f ts v = true → P (.Assign ts v p)) : P x := if e : x.ctorIdx = 5 then Stmt.Assign.elim (motive_2 := fun x => vAssign f x = true → P x) x e k h else (no_else e h).elim
noncomputable def vAug (f : PySem.Expr → Operator → PySem.Expr → Bool) (x : Stmt) : Bool := if h : x.ctorIdx = 7 then Stmt.AugAssign.elim (motive_2 := fun _ => Bool) x h (fun t o v _ => f t o v) else false
@[elab_as_elim] theorem vAug_inv {f} {P : Stmt → Prop} (x : Stmt) (h : vAug f x = true) (k : ∀ (t : PySem.Expr) (o : Operator) (v : PySem.Expr) (p : Pos), f t o v = true → P (.AugAssign t o v p)) : P x := if e : x.ctorIdx = 7 then Stmt.AugAssign.elim (motive_2 := fun x => vAug f x = true → P x) x e k h else (no_else e h).elim
noncomputable def vIfS (f : PySem.Expr → (List Stmt) → (List Stmt) → Bool) (x : Stmt) : Bool := if h : x.ctorIdx = 12 then Stmt.If.elim (motive_2 := fun _ => Bool) x h (fun t l r _ => f t l r) else false
@[elab_as_elim] theorem vIfS_inv {f} {P : Stmt → Prop} (x : Stmt) (h : vIfS f x = true) (k : ∀ (t : PySem.Expr) (l : List Stmt) (r : List Stmt) (p : Pos), f t l r = true → P (.If t l r p)) : P x := if e : x.ctorIdx = 12 then Stmt.If.elim (motive_2 := fun x => vIfS f x = true → P x) x e k h else (no_else e h).elim
noncomputable def vFor (f : PySem.Expr → PySem.Expr → (List Stmt) → (List Stmt) → Bool) (x : Stmt) : Bool := if h : x.ctorIdx = 9 then Stmt.For.elim (motive_2 := fun _ => Bool) x h (fun t i b e _ => f t i b e) else false
@[elab_as_elim] theorem vFor_inv {f} {P : Stmt → Prop} (x : Stmt) (h : vFor f x = true) (k : ∀ (t : PySem.Expr) (i : PySem.Expr) (b : List Stmt) (e : List Stmt) (p : Pos), f t i b e = true → P (.For t i b e p)) : P x := if e : x.ctorIdx = 9 then Stmt.For.elim (motive_2 := fun x => vFor f x = true → P x) x e k h else (no_else e h).elim
noncomputable def vWhile (f : PySem.Expr → (List Stmt) → (List Stmt) → Bool) (x : Stmt) : Bool := if h : x.ctorIdx = 11 then Stmt.While.elim (motive_2 := fun _ => Bool) x h (fun t b e _ => f t b e) else false
@[elab_as_elim] theorem vWhile_inv {f} {P : Stmt → Prop} (x : Stmt) (h : vWhile f x = true) (k : ∀ (t : PySem.Expr) (b : List Stmt) (e : List Stmt) (p : Pos), f t b e = true → P (.While t b e p)) : P x := if e : x.ctorIdx = 11 then Stmt.While.elim (motive_2 := fun x => vWhile f x = true → P x) x e k h else (no_else e h).elim
noncomputable def vRet (f : (Option PySem.Expr) → Bool) (x : Stmt) : Bool := if h : x.ctorIdx = 3 then Stmt.Return.elim (motive_2 := fun _ => Bool) x h (fun o _ => f o) else false
@[elab_as_elim] theorem vRet_inv {f} {P : Stmt → Prop} (x : Stmt) (h : vRet f x = true) (k : ∀ (o : Option PySem.Expr) (p : Pos), f o = true → P (.Return o p)) : P x := if e : x.ctorIdx = 3 then Stmt.Return.elim (motive_2 := fun x => vRet f x = true → P x) x e k h else (no_else e h).elim
noncomputable def vExpr (f : PySem.Expr → Bool) (x : Stmt) : Bool := if h : x.ctorIdx = 24 then Stmt.Expr.elim (motive_2 := fun _ => Bool) x h (fun e _ => f e) else false
@[elab_as_elim] theorem vExpr_inv {f} {P : Stmt → Prop} (x : Stmt) (h : vExpr f x = true) (k : ∀ (e : PySem.Expr) (p : Pos), f e = true → P (.Expr e p)) : P x := if e : x.ctorIdx = 24 then Stmt.Expr.elim (motive_2 := fun x => vExpr f x = true → P x) x e k h else (no_else e h).elim
noncomputable def vPass (f : Bool) (x : Stmt) : Bool := if h : x.ctorIdx = 25 then Stmt.Pass.elim (motive_2 := fun _ => Bool) x h (fun _ => f) else false
@[elab_as_elim] theorem vPass_inv {f} {P : Stmt → Prop} (x : Stmt) (h : vPass f x = true) (k : ∀ (p : Pos), f = true → P (.Pass p)) : P x := if e : x.ctorIdx = 25 then Stmt.Pass.elim (motive_2 := fun x => vPass f x = true → P x) x e k h else (no_else e h).elim
noncomputable def vBrk (f : Bool) (x : Stmt) : Bool := if h : x.ctorIdx = 26 then Stmt.Break.elim (motive_2 := fun _ => Bool) x h (fun _ => f) else false
@[elab_as_elim] theorem vBrk_inv {f} {P : Stmt → Prop} (x : Stmt) (h : vBrk f x = true) (k : ∀ (p : Pos), f = true → P (.Break p)) : P x := if e : x.ctorIdx = 26 then Stmt.Break.elim (motive_2 := fun x => vBrk f x = true → P x) x e k h else (no_else e h).elim
noncomputable def vInt (f : Int → Bool) (x : PySem.Const) : Bool := if h : x.ctorIdx = 2 then PySem.Const.int.elim (motive := fun _ => Bool) x h (fun i => f i) else false
@[elab_as_elim] theorem vInt_inv {f} {P : PySem.Const → Prop} (x : PySem.Const) (h : vInt f x = true) (k : ∀ (i : Int), f i = true → P (.int i)) : P x := if e : x.ctorIdx = 2 then PySem.Const.int.elim (motive := fun x => vInt f x = true → P x) x e k h else (no_else e h).elim
noncomputable def vBl (f : Bool → Bool) (x : PySem.Const) : Bool := if h : x.ctorIdx = 1 then PySem.Const.bool.elim (motive := fun _ => Bool) x h (fun b => f b) else false
@[elab_as_elim] theorem vBl_inv {f} {P : PySem.Const → Prop} (x : PySem.Const) (h : vBl f x = true) (k : ∀ (b : Bool), f b = true → P (.bool b)) : P x := if e : x.ctorIdx = 1 then PySem.Const.bool.elim (motive := fun x => vBl f x = true → P x) x e k h else (no_else e h).elim
noncomputable def vStr (f : PySem.Str → Bool) (x : PySem.Const) : Bool := if h : x.ctorIdx = 5 then PySem.Const.str.elim (motive := fun _ => Bool) x h (fun t => f t) else false
@[elab_as_elim] theorem vStr_inv {f} {P : PySem.Const → Prop} (x : PySem.Const) (h : vStr f x = true) (k : ∀ (t : PySem.Str), f t = true → P (.str t)) : P x := if e : x.ctorIdx = 5 then PySem.Const.str.elim (motive := fun x => vStr f x = true → P x) x e k h else (no_else e h).elim
noncomputable def vNo (f : Bool) (x : PySem.Const) : Bool := if h : x.ctorIdx = 0 then PySem.Const.none.elim (motive := fun _ => Bool) x h (f) else false
@[elab_as_elim] theorem vNo_inv {f} {P : PySem.Const → Prop} (x : PySem.Const) (h : vNo f x = true) (k : f = true → P (.none)) : P x := if e : x.ctorIdx = 0 then PySem.Const.none.elim (motive := fun x => vNo f x = true → P x) x e k h else (no_else e h).elim
noncomputable def v0 {α : Type} : List α → Bool | [] => true | _ :: _ => false
noncomputable def v1 {α : Type} (f : α → Bool) : List α → Bool | [] => false | a :: l => v0 l && f a
noncomputable def v2 {α : Type} (f : α → α → Bool) : List α → Bool | [] => false | a :: l => v1 (f a) l
noncomputable def v3 {α : Type} (f : α → α → α → Bool) : List α → Bool | [] => false | a :: l => v2 (f a) l
theorem o2 {a b : Bool} (h : (a || b) = true) : a = true ∨ b = true := (Bool.or_eq_true a b).mp h
theorem a2 {a b : Bool} (h : (a && b) = true) : a = true ∧ b = true := Bool.and_eq_true_iff.mp h
@[elab_as_elim] theorem v0_inv {α : Type} {P : List α → Prop} (x : List α) (h : v0 x = true) (k : P []) : P x := List.casesOn (motive := fun x => v0 x = true → P x) x (fun _ => k) (fun _ _ h => (Bool.false_ne_true h).elim) h
@[elab_as_elim] theorem v1_inv {α : Type} {f} {P : List α → Prop} (x : List α) (h : v1 f x = true) (k : ∀ a, f a = true → P [a]) : P x := List.casesOn (motive := fun x => v1 f x = true → P x) x (fun h => (Bool.false_ne_true h).elim) (fun a l h => v0_inv l (a2 h).1 (k a (a2 h).2)) h
@[elab_as_elim] theorem v2_inv {α : Type} {f} {P : List α → Prop} (x : List α) (h : v2 f x = true) (k : ∀ a b, f a b = true → P [a, b]) : P x := List.casesOn (motive := fun x => v2 f x = true → P x) x (fun h => (Bool.false_ne_true h).elim) (fun a l h => v1_inv l h (k a)) h
@[elab_as_elim] theorem v3_inv {α : Type} {f} {P : List α → Prop} (x : List α) (h : v3 f x = true) (k : ∀ a b c, f a b c = true → P [a, b, c]) : P x := List.casesOn (motive := fun x => v3 f x = true → P x) x (fun h => (Bool.false_ne_true h).elim) (fun a l h => v2_inv l h (k a)) h
noncomputable def nmD : PySem.Str := PySem.Str.ofString "__debug__"
noncomputable def nmC : PySem.Str := PySem.Str.ofString "__classdict__"
noncomputable def isVar (sc : Scope) (nm : List (PySem.Str × Nat)) (id : PySem.Str) (i : Nat) : Bool :=
 nm.lookup id == some i && (sc.names.lookup id == some .local || (sc.names.lookup id == some .cell || sc.names.lookup id == some .free)) && !(id == nmD) && !(id == nmC)
noncomputable def isGlob (sc : Scope) (id n : PySem.Str) : Bool := id == n && sc.names.lookup id == some .globalImplicit && !(id == nmD)
noncomputable def bopOf : Bop → Operator | .add => .Add | .sub => .Sub | .mul => .Mult | .fdiv => .FloorDiv | .mod => .Mod | .pow => .Pow
noncomputable def copOf : Cop → CmpOp | .lt => .Lt | .le => .LtE | .gt => .Gt | .ge => .GtE | .eq => .Eq | .ne => .NotEq
noncomputable def nameOf (x : PySem.Expr) : PySem.Str := if h : x.ctorIdx = 23 then PySem.Expr.Name.elim (motive_1 := fun _ => PySem.Str) x h (fun id _ => id) else nmD
noncomputable def tgNm (t : Tg) (x : PySem.Expr) : List (PySem.Str × Nat) := match t with
 | .v i => [(nameOf x, i)]
 | .tup is => if h : x.ctorIdx = 25 then PySem.Expr.Tuple.elim (motive_1 := fun _ => List (PySem.Str × Nat)) x h (fun r _ _ => (r.map nameOf).zip is) else []
noncomputable def gsNm : Gs → List Comprehension → List (PySem.Str × Nat)
 | .nil, _ => []
 | .cons t _ _ r, gs => (gs.head?.elim [] fun g => tgNm t g.target) ++ gsNm r gs.tail
noncomputable def relabelS (sc' sc : Scope) : Scope :=
 { sc' with names := sc'.names.map fun (n, k) => if (k == .free && sc.kind == .function && sc.names.lookup n == some .cell) then (n, .cell) else (n, k) }
noncomputable def blockOk (sc' sc : Scope) : Bool :=
 sc'.kind == .function && sc'.names.all (fun y => y.2 != .cell) && sc'.names.all (fun y => y.2 != .local || sc'.names.lookup y.1 == some .local) &&
 sc'.names.all (fun y => y.2 != .free || sc.names.lookup y.1 == some .cell || sc.names.lookup y.1 == some .free)
noncomputable def vc {α : Type} (f : α → List α → Bool) : List α → Bool | [] => false | a :: l => f a l
@[elab_as_elim] theorem vc_inv {α : Type} {f} {P : List α → Prop} (x : List α) (h : vc f x = true) (k : ∀ a l, f a l = true → P (a :: l)) : P x := List.casesOn (motive := fun x => vc f x = true → P x) x (fun h => (Bool.false_ne_true h).elim) (fun a l h => k a l h) h
noncomputable def tgId (sc : Scope) (nm : List (PySem.Str × Nat)) (loc : Bool) (i : Nat) (id : PySem.Str) : Bool := nm.lookup id == some i && (sc.names.lookup id == some .local || (!loc && sc.names.lookup id == some .cell))
noncomputable def matTgs (sc : Scope) (nm : List (PySem.Str × Nat)) (loc : Bool) : List Nat → List PySem.Expr → Bool
 | [], l => v0 l
 | i :: is, l => vc (fun x es => vName (tgId sc nm loc i) x && matTgs sc nm loc is es) l
noncomputable def matTg (sc : Scope) (nm : List (PySem.Str × Nat)) (loc : Bool) : Tg → PySem.Expr → Bool
 | .v i, x => vName (tgId sc nm loc i) x
 | .tup is, x => vTup (matTgs sc nm loc is) x
noncomputable def notSlice (x : PySem.Expr) : Bool := x.ctorIdx != 26
noncomputable def notComp (x : PySem.Expr) : Bool := x.ctorIdx != 8
noncomputable def isCall (x : PySem.Expr) : Bool := x.ctorIdx == 16
noncomputable def notE : It → Bool
 | .e _ => false
 | _ => true
noncomputable def isNoneE (e : E) : Bool := e.ctorIdx == 4
noncomputable def isTrueE (e : E) : Bool := if h : e.ctorIdx = 2 then E.bool.elim (motive_1 := fun _ => Bool) e h (fun b => b) else false
noncomputable def tst : E → Bool
 | .frz _ => false
 | .not a => tst a
 | .and a b => tst a && tst b
 | .or a b => tst a && tst b
 | .ite c a b => tst c && tst a && tst b
 | _ => true
noncomputable def optE (f : PySem.Expr → Bool) (n : Bool) : Option PySem.Expr → Bool
 | some e => f e
 | none => n
noncomputable def ifsE (t : Bool) (f : PySem.Expr → Bool) (n : Bool) : List PySem.Expr → Bool
 | [] => n
 | [e] => t && f e
 | _ => false
noncomputable def baseOk (x : PySem.Expr) : Bool := x.ctorIdx == 23 || x.ctorIdx == 20
noncomputable abbrev gs (sc : Scope) (id : PySem.Str) (t : String) : Bool := isGlob sc id (PySem.Str.ofString t)
noncomputable def vB1 (sc : Scope) (t : String) (f : PySem.Expr → Bool) : PySem.Expr → Bool := vCall fun g as ks _ => v0 ks && vName (fun id => gs sc id t && v1 f as) g
noncomputable def vB2 (sc : Scope) (t : String) (f : PySem.Expr → PySem.Expr → Bool) : PySem.Expr → Bool := vCall fun g as ks _ => v0 ks && vName (fun id => gs sc id t && v2 f as) g
noncomputable def vB3 (sc : Scope) (t : String) (f : PySem.Expr → PySem.Expr → PySem.Expr → Bool) : PySem.Expr → Bool := vCall fun g as ks _ => v0 ks && vName (fun id => gs sc id t && v3 f as) g
noncomputable def vMeth (f : PySem.Expr → PySem.Str → List PySem.Expr → Bool) : PySem.Expr → Bool := vCall fun g as ks p => v0 ks && vAttr (fun b t ap => baseOk b && (ap.endLine == p.line && f b t as)) g
noncomputable def vNeg (f : Int → Bool) : PySem.Expr → Bool := vUn fun o e => o == UnaryOp.USub && vConst (vInt f) e
noncomputable def vNoneOpt {α : Type} : Option α → Bool | none => true | _ => false
noncomputable def vSomeOpt {α : Type} (f : α → Bool) : Option α → Bool | none => false | some a => f a
noncomputable def vAnd {α : Type} (f : α → α → Bool) (g : α → α → α → Bool) : List α → Bool | [] => false | a :: l => vc (fun b l => (v0 l && f a b) || v1 (g a b) l) l
noncomputable def compOk (sc sc' : Scope) (nm gm : List (PySem.Str × Nat)) (sl : List Nat) : Bool :=
 blockOk sc' sc && (gm.all (fun y => sc'.names.lookup y.1 == some .local) && (decide ((gm.map (·.1)).Nodup) && (decide ((gm.map (·.2)).Nodup) && (gm.all (fun y => nm.all fun z => z.2 != y.2) &&
   (decide (gm.map (·.2) = sl) && sc'.names.all (fun y => y.2 != .local || gm.any (·.1 == y.1) || (nm.lookup y.1).isNone))))))
mutual
noncomputable def matE (sc : Scope) (nm : List (PySem.Str × Nat)) : E → PySem.Expr → Bool
 | .v i, x => vName (fun id => isVar sc nm id i) x
 | .int n, x => vConst (vInt fun i => i == n) x
 | .bool b, x => vConst (vBl fun c => c == b) x
 | .str t, x => vConst (vStr fun u => u == PySem.Str.ofString t) x
 | .none, x => vConst (vNo true) x
 | .neg n, x => vNeg (fun i => i == n) x
 | .nowhere, x => vName (fun id => gs sc id "NOWHERE") x
 | .bin op a b, x => vBin (fun l o r => o == bopOf op && (matE sc nm a l && matE sc nm b r)) x
 | .cmp a op b, x => vCmp (fun l os rs => v1 (fun o => v1 (fun r => o == copOf op && (matE sc nm a l && matE sc nm b r)) rs) os) x
 | .cmp2 a op b op2 c, x => vCmp (fun l os rs => v2 (fun o o2 => v2 (fun r r2 => o == copOf op && (o2 == copOf op2 && (matE sc nm a l && (matE sc nm b r && matE sc nm c r2)))) rs) os) x
 | .isnone neg a, x => vCmp (fun l os rs => v1 (fun o => v1 (fun r => o == (if neg then .IsNot else .Is) && vConst (vNo (matE sc nm a l)) r) rs) os) x
 | .and a b, x => vBool (fun o es p => o == BoolOp.And && vAnd (fun l r => matE sc nm a l && matE sc nm b r) (fun l r r2 => matE sc nm a l && matE sc nm b (.BoolOp .And [r, r2] p)) es) x
 | .or a b, x => vBool (fun o es _ => o == BoolOp.Or && v2 (fun l r => matE sc nm a l && matE sc nm b r) es) x
 | .not a, x => vUn (fun o l => o == UnaryOp.Not && matE sc nm a l) x
 | .ite c a b, x => vIf (fun t l r => tst c && (matE sc nm c t && (matE sc nm a l && matE sc nm b r))) x
 | .idx a i, x => vSub (fun l s => notSlice s && (matE sc nm a l && matE sc nm i s)) x
 | .last a, x => vSub (fun l s => vNeg (fun i => i == 1 && matE sc nm a l) s) x
 | .slice a lo hi, x => vSub (fun l s => vSlice (fun lo' hi' st => vNoneOpt st && (matE sc nm a l && (optE (matE sc nm lo) (isNoneE lo) lo' && optE (matE sc nm hi) (isNoneE hi) hi'))) s) x
 | .rev a, x => vSub (fun l s => vSlice (fun lo' hi' st => vNoneOpt lo' && (vNoneOpt hi' && vSomeOpt (vNeg fun i => i == 1 && matE sc nm a l) st)) s) x
 | .attr a n, x => vAttr (fun l t _ => t == an n && (decide (n < 14) && (baseOk l && matE sc nm a l))) x
 | .layers a, x => vAttr (fun l t _ => t == an 28 && (baseOk l && matE sc nm a l)) x
 | .treesize a, x => vAttr (fun l t _ => t == an 29 && (baseOk l && matE sc nm a l)) x
 | .tup es, x => vTup (fun l => matEs sc nm es l) x
 | .lst es, x => vList (fun l => matEs sc nm es l) x
 | .nlst es, x => vList (fun l => matEs sc nm es l) x
 | .ndict, x => vDict (fun ks vs => v0 ks && v0 vs) x
 | .frz a, x => matE sc nm a x
 | .callf f es, x => vCall (fun g as ks _ => v0 ks && vName (fun id => isGlob sc id (gn f) && (decide (f < 18) && matEs sc nm es as)) g) x
 | .meth o m es, x => vMeth (fun b t as => t == an m && (decide (as.length < 30) && (matE sc nm o b && matEs sc nm es as))) x
 | .cmeth c m es, x => vMeth (fun b t as => vName (fun id => c == 1 && (m == 27 && (isGlob sc id (gn 1) && (t == an 27 && (decide (as.length < 30) && matEs sc nm es as))))) b) x
 | .len a, x => vB1 sc "len" (fun l => matE sc nm a l) x
 | .min2 a b, x => vB2 sc "min" (fun l r => matE sc nm a l && matE sc nm b r) x
 | .max2 a b, x => vB2 sc "max" (fun l r => matE sc nm a l && matE sc nm b r) x
 | .max1 a, x => vB1 sc "max" (fun l => matE sc nm a l) x
 | .bytes a, x => vB1 sc "bytes" (fun l => matE sc nm a l) x
 | .tuple a, x => vB1 sc "tuple" (fun l => matE sc nm a l) x
 | .sorted a, x => vB1 sc "sorted" (fun l => matE sc nm a l) x
 | .listr it, x => vB1 sc "list" (fun l => notE it && matI sc nm it l) x
 | .lappend o e, x => vMeth (fun b t as => t == PySem.Str.ofString "append" && v1 (fun l => matE sc nm o b && matE sc nm e l) as) x
 | .dget o key d, x => vMeth (fun b t as => t == PySem.Str.ofString "get" && v2 (fun l r => matE sc nm o b && (matE sc nm key l && matE sc nm d r)) as) x
 | .lindex o e, x => vMeth (fun b t as => t == PySem.Str.ofString "index" && v1 (fun l => matE sc nm o b && matE sc nm e l) as) x
 | .nrep e n, x => vBin (fun l o r => o == Operator.Mult && vList (fun es => v1 (fun l => matE sc nm e l && matE sc nm n r) es) l) x
 | .ncat a b, x => vBin (fun l o r => o == Operator.Add && (matE sc nm a l && matE sc nm b r)) x
 | .comp _ elt gs, x => vComp (fun l gens sc' => compOk sc sc' nm (gsNm gs gens) gs.slots && (!gens.isEmpty && (matG sc nm (relabelS sc' sc) (gsNm gs gens ++ nm) gs gens && matE (relabelS sc' sc) (gsNm gs gens ++ nm) elt l))) x
noncomputable def matEs (sc : Scope) (nm : List (PySem.Str × Nat)) : Es → List PySem.Expr → Bool
 | .nil, l => v0 l
 | .cons e r, l => vc (fun x xs => matE sc nm e x && matEs sc nm r xs) l
noncomputable def matI (sc : Scope) (nm : List (PySem.Str × Nat)) : It → PySem.Expr → Bool
 | .e a, x => matE sc nm a x
 | .r1 a, x => vB1 sc "range" (fun l => matE sc nm a l) x
 | .r2 a b, x => vB2 sc "range" (fun l r => matE sc nm a l && matE sc nm b r) x
 | .r3 a b c, x => vB3 sc "range" (fun l r t => matE sc nm a l && (matE sc nm b r && matE sc nm c t)) x
noncomputable def matG (sc₁ : Scope) (nm₁ : List (PySem.Str × Nat)) (sc : Scope) (nm : List (PySem.Str × Nat)) : Gs → List Comprehension → Bool
 | .nil, l => v0 l
 | .cons t it c r, l => vc (fun g rest => g.is_async == 0 && (matTg sc nm true t g.target && (matI sc₁ nm₁ it g.iter && (ifsE (tst c && !isTrueE c) (matE sc nm c) (isTrueE c) g.ifs && matG sc nm sc nm r rest)))) l
end
noncomputable def isCompE (e : E) : Bool := e.ctorIdx == 43
noncomputable def isRaise (x : Stmt) : Bool := x.ctorIdx == 16
noncomputable def swapOk (x : PySem.Expr) : Bool := if h : x.ctorIdx = 25 then PySem.Expr.Tuple.elim (motive_1 := fun _ => Bool) x h (fun vs _ _ => !(vs.all (constantsAlone 8)) || vs.all (foldedForSure 8)) else !(x.ctorIdx == 9) && !(x.ctorIdx == 10)
mutual
noncomputable def matS (sc : Scope) (nm : List (PySem.Str × Nat)) : S → Stmt → Bool
 | .asg t e, x => vAssign (fun ts v => v1 (fun tg => matTg sc nm false t tg && (decide t.slots.Nodup && (swapOk v && ((notComp v || isCompE e) && matE sc nm e v)))) ts) x
 | .setattr o n e, x => vAssign (fun ts v => v1 (vAttr fun b t _ => t == an n && (matE sc nm o b && matE sc nm e v)) ts) x
 | .setidx o i e, x => vAssign (fun ts v => v1 (vSub fun b s => notSlice s && (matE sc nm o b && (matE sc nm i s && matE sc nm e v))) ts) x
 | .aug i op e, x => vAug (fun t o v => vName (fun id => isVar sc nm id i && (o == bopOf op && (sc.names.lookup id != some .free && matE sc nm e v))) t) x
 | .ife c a b, x => vIfS (fun t l r => tst c && (matE sc nm c t && (matSs sc nm a l && matSs sc nm b r))) x
 | .forr t it body, x => vFor (fun tg i l els => v0 els && (matTg sc nm false t tg && (decide t.slots.Nodup && (matI sc nm it i && matSs sc nm body l)))) x
 | .wh c body, x => vWhile (fun t l els => v0 els && (tst c && (matE sc nm c t && matSs sc nm body l))) x
 | .ret e, x => vRet (vSomeOpt fun v => matE sc nm e v) x
 | .retn, x => vRet vNoneOpt x
 | .brk, x => vBrk true x
 | .pass, x => vPass true x
 | .raise, x => isRaise x
 | .expr e, x => vExpr (fun v => isCall v && matE sc nm e v) x
noncomputable def matSs (sc : Scope) (nm : List (PySem.Str × Nat)) : Ss → List Stmt → Bool
 | .nil, l => v0 l
 | .cons s r, l => vc (fun x xs => matS sc nm s x && matSs sc nm r xs) l
 | .fz _ r, l => matSs sc nm r l
end
structure Fn where
 nm : List (String × Nat)
 np : Nat
 ns : Nat
 body : Ss
noncomputable def Fn.names (f : Fn) : List (PySem.Str × Nat) := f.nm.map fun p => (PySem.Str.ofString p.1, p.2)
end Mine
end

section
open PySem PySem.Calls PyProof.Rows PySem.W
set_option maxRecDepth 20000
namespace Mine
variable {N : Hid}
noncomputable abbrev NoE : Value → Shared → Prop := fun _ _ => False
structure Base (X : Cx) : Prop where
 inK : X.K.In X.H0
 nolimit : X.H0.NoLimit
 sysm : ∃ o, X.H0.get? sysModules = some o
 top : ∃ mg mb, X.H0.Ns mainGlobals mg ∧ X.H0.Ns builtinsNs mb ∧ ∀ x : PySem.Str, x ≠ "__name__" → mb x = bootBuiltins x
 gl : ∀ f, f < 18 → nsIn X.K mainGlobals (gn f) = some (some (.ref (ga f))) ∧ keepIn X.K (.ref (ga f)) = true
 nowhere : ∃ t, nsIn X.K mainGlobals (PySem.Str.ofString "NOWHERE") = some (some (.int (-1) t))
 blt : ∀ x ∈ (["len", "range", "min", "max", "list", "tuple", "bytes", "sorted"] : List String), nsIn X.K mainGlobals (PySem.Str.ofString x) = some none
 meths : ∀ C m f, meth C m = some f → findIn X.K (.ref C) (an m) = some (some (.ref f)) ∧ isFn X.K (.ref f) = true ∧ keepIn X.K (.ref f) = true
 cls : ∀ C ∈ clsL, hasDictIn X.K C = true ∧ plainGet X.K C (an 0) = true ∧ findIn X.K (.ref C) "__setattr__" = some (some (.builtin "object.__setattr__")) ∧ plainOver X.K C = true ∧ makesIn X.K C = true
 attrs : ∀ C ∈ clsL, ∀ n, n < 14 → findIn X.K (.ref C) (an n) = some none ∧ takerIn X.K C (an n) = some none
 minit : specialIn X.K (.ref 183) "__getattribute__" = some (some (.builtin "type.__getattribute__")) ∧ (∃ mc, readsIn X.K 183 mc = true ∧ findCls X.K (.ref 183) mc (an 27) = some (.val (.ref 110)))
 layers : ∃ o : Obj, X.K.lookup 284 = some o ∧ o.cls = .type "tuple" ∧ (∃ n t u, o.data = .seq #[.int 2 t, .int 3 u] n) ∧ findIn X.K (.ref 307) (an 28) = some (some (.ref 284)) ∧ specialIn X.K (.ref 284) "__get__" = some none
 treesize : ∃ t, findIn X.K (.ref 307) (an 29) = some (some (.int 4 t)) ∧ specialIn X.K (.int 4 t) "__get__" = some none
inductive NsOk (N : Hid) (sc : Scope) (nm : List (PySem.Str × Nat)) (ρ : List V) (σ : AHeap) (h : Heap) (a : Addr) : Prop
 | mk (m : PySem.Str → Option Value) (n : h.Ns a m) (r : ∀ x i, nm.lookup x = some i → sc.names.lookup x = some .local → ∀ v, ρ[i]? = some v → v ≠ .undef → ∃ val, m x = some val ∧ VRel (hid N σ) h v val) : NsOk N sc nm ρ σ h a
inductive CellOk (X : Cx) (N : Hid) (nm : List (PySem.Str × Nat)) (env : Env) (ρ : List V) (σ : AHeap) (h : Heap) (x : PySem.Str) : Prop
 | mk (c : Addr) (ov : Option Value) (a : env.cells.lookup x = some c) (b : h.IsCell c ov) (d : hid N σ c = none) (e : X.H0.get? c = none)
  (r : ∀ i, nm.lookup x = some i → ∀ v, ρ[i]? = some v → v ≠ .undef → ∃ val, ov = some val ∧ VRel (hid N σ) h v val) : CellOk X N nm env ρ σ h x
structure FrOk (X : Cx) (N : Hid) (sc : Scope) (nm : List (PySem.Str × Nat)) (env : Env) (ρ : List V) (σ : AHeap) (h : Heap) : Prop where
 scope : env.scope = sc
 kind : sc.kind = .function
 glob : env.globals = mainGlobals
 blt : env.builtins = builtinsNs
 ns : NsOk N sc nm ρ σ h env.locals
 cell : ∀ x, sc.names.lookup x = some .cell ∨ sc.names.lookup x = some .free → CellOk X N nm env ρ σ h x
 own : hid N σ env.locals = none ∧ X.H0.get? env.locals = none
 inj : ∀ x y i, nm.lookup x = some i → nm.lookup y = some i → x = y
 cinj : ∀ x y c, env.cells.lookup x = some c → env.cells.lookup y = some c → x = y
theorem FrOk.map {X : Cx} {sc : Scope} {nm : List (PySem.Str × Nat)} {env : Env} {ρ ρ' : List V} {σ σ' : AHeap} {h h' : Heap} (F : FrOk X N sc nm env ρ σ h) (n : ∀ m, h.Ns env.locals m → h'.Ns env.locals m)
  (c : ∀ x c ov, (sc.names.lookup x = some .cell ∨ sc.names.lookup x = some .free) → env.cells.lookup x = some c → h.IsCell c ov → hid N σ c = none → h'.IsCell c ov ∧ hid N σ' c = none) (o : hid N σ' env.locals = none)
  (le : ∀ (i : Nat) (v : V), ρ'[i]? = some v → v ≠ .undef → ρ[i]? = some v) (f : ∀ v val, VRel (hid N σ) h v val → VRel (hid N σ') h' v val) : FrOk X N sc nm env ρ' σ' h' where
 scope := F.scope
 kind := F.kind
 glob := F.glob
 blt := F.blt
 ns := F.ns.rec fun m y r => ⟨m, n m y, fun x i e k v q z => (r x i e k v (le i v q z) z).elim fun val w => ⟨val, w.1, f _ _ w.2⟩⟩
 cell := fun x k => (F.cell x k).rec fun c' ov a b d e r => have w := c x c' ov k a b d
  ⟨c', ov, a, w.1, w.2, e, fun i e v q z => (r i e v (le i v q z) z).elim fun val w => ⟨val, w.1, f _ _ w.2⟩⟩
 own := ⟨o, F.own.2⟩
 inj := F.inj
 cinj := F.cinj
theorem ns_dict {h : Heap} {a : Addr} {m} (n : h.Ns a m) : ∃ o es ep, h.get? a = some o ∧ o.data = .dict es ep := n.elim fun o y => y.elim fun es y => y.elim fun ep y => ⟨o, es, ep, y.1, y.2.1⟩
theorem ns_up {G : Addr} {σ σ' : AHeap} {h h' : Heap} (u : Up G σ h σ' h') (uG : ∀ m, h.Ns G m → h'.Ns G m) {a : Addr} {m} (n : h.Ns a m) (e : σ a = none) : h'.Ns a m :=
 (Decidable.em (a = G)).elim (fun q => q ▸ uG m (q ▸ n)) fun q => ns_at m n fun o g => (u.at_ a o q g e).1
theorem cell_up {G : Addr} {σ σ' : AHeap} {h h' : Heap} (u : Up G σ h σ' h') {c : Addr} {ov} (n : h.IsCell c ov) (e : σ c = none) : h'.IsCell c ov ∧ σ' c = none :=
 n.elim fun o y => have z := u.at_ c o (u.ns.ne y.1 fun _ _ q => nomatch y.2.symm.trans q) y.1 e; ⟨⟨o, z.1, y.2⟩, z.2⟩
theorem FrOk.up {X : Cx} {sc : Scope} {nm : List (PySem.Str × Nat)} {env : Env} {ρ : List V} {σ σ' : AHeap} {h h' : Heap} (F : FrOk X N sc nm env ρ σ h) (u : Up X.G (hid N σ) h (hid N σ') h') (uG : ∀ m, h.Ns X.G m → h'.Ns X.G m) (g : hid N σ' X.G = none) :
  FrOk X N sc nm env ρ σ' h' :=
 F.map (fun _ n => ns_up u uG n F.own.1) (fun _ _ _ _ _ a b => cell_up u a b) ((Decidable.em (env.locals = X.G)).elim (fun q => q ▸ g) fun q => F.ns.rec fun _ n _ => (ns_get n).elim fun o e => (u.at_ _ o q e F.own.1).2) (fun _ _ e _ => e) fun _ _ x => x.up u
theorem FrOk.step {X : Cx} {sc : Scope} {nm : List (PySem.Str × Nat)} {env : Env} {ρ : List V} {σ σ' : AHeap} {s s' : Shared} (F : FrOk X N sc nm env ρ σ s.heap) (S : St X N σ s) (S' : St X N σ' s') (T : Step X σ s σ' s') : FrOk X N sc nm env ρ σ' s'.heap :=
 F.up (T.up S) T.sink (hid_none.mpr ⟨S'.hid_G, S'.gfree⟩)
theorem PostE.up {X : Cx} {σ σ₁ : AHeap} {s s₁ : Shared} {Q : V → AHeap → Prop} {val : Value} {s' : Shared} (S : St X N σ s) (T : Step X σ s σ₁ s₁) (p : PostE X N σ₁ s₁ Q val s') : PostE X N σ s Q val s' :=
 p.rec fun v σ' a b c d => ⟨v, σ', a, T.trans b S.gfree a.gfree, c, d⟩
theorem seqE {M : Model} {A : Around} {t : Sem Value} {X : Cx} {σ : AHeap} {s : Shared} {Q : V → AHeap → Prop} {G : Value → Shared → Prop} (h : wpAny M A t (PostE X N σ s Q) NoE s)
  (k : ∀ val s₁ v σ₁, St X N σ₁ s₁ → Step X σ s σ₁ s₁ → VRel (hid N σ₁) s₁.heap v val → Q v σ₁ → G val s₁) : wpAny M A t G NoE s :=
 wpAny_mono h (fun val s₁ p => p.rec fun v σ₁ a b c d => k val s₁ v σ₁ a b c d) fun _ _ x => x
theorem PostE.here {X : Cx} {σ : AHeap} {s : Shared} {Q : V → AHeap → Prop} {val : Value} {v : V} (S : St X N σ s) (c : VRel (hid N σ) s.heap v val) (d : Q v σ) : PostE X N σ s Q val s := ⟨v, σ, S, .refl .., c, d⟩
theorem PostE.tok {X : Cx} {σ : AHeap} {s : Shared} {Q : V → AHeap → Prop} {val : Value} {v : V} {tk : Nat} (S : St X N σ s) (c : VRel (hid N σ) s.heap v val) (d : Q v σ) : PostE X N σ s Q val { s with toks := tk } := ⟨v, σ, S.tok tk, .tok tk, c, d⟩
inductive PostB (X : Cx) (N : Hid) (σ : AHeap) (s : Shared) (Q : Bool → AHeap → Prop) (b : Bool) (s' : Shared) : Prop
 | mk (σ' : AHeap) (st : St X N σ' s') (step : Step X σ s σ' s') (q : Q b σ') : PostB X N σ s Q b s'
inductive PostL (X : Cx) (N : Hid) (σ : AHeap) (s : Shared) (Q : List V → AHeap → Prop) (vals : List Value) (s' : Shared) : Prop
 | mk (l : List V) (σ' : AHeap) (st : St X N σ' s') (step : Step X σ s σ' s') (rel : VRels (hid N σ') s'.heap l vals) (q : Q l σ') : PostL X N σ s Q vals s'
noncomputable def ET (X : Cx) (k : Nat) (e : E) : Prop := ∀ {N : Hid} {sc : Scope} {nm : List (PySem.Str × Nat)} {env : Env} {x : PySem.Expr} {ρ : List V} {σ : AHeap} {Q : V → AHeap → Prop} {A : Around} {s : Shared},
 matE sc nm e x = true → wpE X k e ρ σ Q → Room k A → St X N σ s → FrOk X N sc nm env ρ σ s.heap → wpAny (model X.prog X.w) A (eval x env) (PostE X N σ s Q) NoE s
noncomputable def BT (X : Cx) (k : Nat) (e : E) : Prop := tst e = true → ∀ {N : Hid} {sc : Scope} {nm : List (PySem.Str × Nat)} {env : Env} {x : PySem.Expr} {ρ : List V} {σ : AHeap} {Q : Bool → AHeap → Prop} {A : Around} {s : Shared},
 matE sc nm e x = true → wpE X k e ρ σ (fun u σ₁ => truthP u fun b => Q b σ₁) → Room k A → St X N σ s → FrOk X N sc nm env ρ σ s.heap → wpAny (model X.prog X.w) A (isTrue x env (eval x env)) (PostB X N σ s Q) NoE s
noncomputable def EsT (X : Cx) (k : Nat) (es : Es) : Prop := ∀ {N : Hid} {sc : Scope} {nm : List (PySem.Str × Nat)} {env : Env} {xs : List PySem.Expr} {pos : Pos} {ρ : List V} {σ : AHeap} {Q : List V → AHeap → Prop} {A : Around} {s : Shared},
 matEs sc nm es xs = true → wpEs X k es ρ σ Q → Room k A → St X N σ s → FrOk X N sc nm env ρ σ s.heap → wpAny (model X.prog X.w) A (spliced (backTo pos (starEach xs env))) (PostL X N σ s Q) NoE s
noncomputable def VInv (σ : AHeap) (h : Heap) : V → Value → Prop
 | .int i, w => ∃ t, w = .int i t
 | .bool b, w => w = .bool b
 | .str x, w => ∃ t, w = .str x t
 | .ref a, w => w = .ref a
 | .none, w => w = .none
 | .bytes l, w => ∃ b t, w = .bytes b t ∧ b.toList.map UInt8.toNat = l ∧ b.size ≤ 1000
 | .tup l, w => ∃ a vs, w = .ref a ∧ σ a = none ∧ IsTup h a vs ∧ vs.size ≤ 1000 ∧ VRels σ h l vs.toList
 | .list l, w => ∃ a vs, w = .ref a ∧ σ a = none ∧ h.PlainList a vs ∧ vs.size ≤ 1000 ∧ VRels σ h l vs.toList
 | .undef, _ => True
theorem VRel.inv {σ : AHeap} {h : Heap} {v : V} {val : Value} (x : VRel σ h v val) : VInv σ h v val := VRel.casesOn (motive_1 := fun v val _ => VInv σ h v val) x trivial rfl rfl ⟨_, rfl⟩ ⟨_, rfl⟩ (fun a b => ⟨_, _, rfl, a, b⟩) (fun a b c d => ⟨_, _, rfl, a, b, c, d⟩) (fun a b c d => ⟨_, _, rfl, a, b, c, d⟩) rfl
theorem VRel.tup_inv {τ : AHeap} {h : Heap} {l : List V} {val : Value} (x : VRel τ h (.tup l) val) : ∃ a vs, val = .ref a ∧ τ a = Option.none ∧ IsTup h a vs ∧ vs.size ≤ 1000 ∧ VRels τ h l vs.toList := x.inv
theorem VRel.list_inv {τ : AHeap} {h : Heap} {l : List V} {val : Value} (x : VRel τ h (.list l) val) : ∃ a vs, val = .ref a ∧ τ a = Option.none ∧ h.PlainList a vs ∧ vs.size ≤ 1000 ∧ VRels τ h l vs.toList := x.inv
theorem VRel.int_inv {σ : AHeap} {h : Heap} {i : Int} {val : Value} (x : VRel (hid N σ) h (.int i) val) : ∃ t, val = .int i t := x.inv
theorem VRel.bool_inv {σ : AHeap} {h : Heap} {b : Bool} {val : Value} (x : VRel (hid N σ) h (.bool b) val) : val = .bool b := x.inv
theorem VRel.str_inv {σ : AHeap} {h : Heap} {y : PySem.Str} {val : Value} (x : VRel (hid N σ) h (.str y) val) : ∃ t, val = .str y t := x.inv
theorem VRel.ref_inv {σ : AHeap} {h : Heap} {a : Addr} {val : Value} (x : VRel (hid N σ) h (.ref a) val) : val = .ref a := x.inv
theorem VRel.bytes_inv {σ : AHeap} {h : Heap} {l : List Nat} {val : Value} (x : VRel (hid N σ) h (.bytes l) val) : ∃ b t, val = .bytes b t ∧ b.toList.map UInt8.toNat = l ∧ b.size ≤ 1000 := x.inv
theorem VRel.none_inv {σ : AHeap} {h : Heap} {val : Value} (x : VRel (hid N σ) h .none val) : val = .none := x.inv
@[elab_as_elim] theorem VRel.toInt {P : Value → Prop} {σ : AHeap} {h : Heap} {i : Int} (val : Value) (x : VRel (hid N σ) h (.int i) val) (k : ∀ t, P (.int i t)) : P val := x.int_inv.elim fun t e => e ▸ k t
@[elab_as_elim] theorem VRel.toBool {P : Value → Prop} {σ : AHeap} {h : Heap} {b : Bool} (val : Value) (x : VRel (hid N σ) h (.bool b) val) (k : P (.bool b)) : P val := x.bool_inv ▸ k
@[elab_as_elim] theorem VRel.toRef {P : Value → Prop} {σ : AHeap} {h : Heap} {a : Addr} (val : Value) (x : VRel (hid N σ) h (.ref a) val) (k : P (.ref a)) : P val := x.ref_inv ▸ k
section
variable {X : Cx} {k : Nat}
theorem isVar_inv {sc : Scope} {nm : List (PySem.Str × Nat)} {id : PySem.Str} {i : Nat} (h : isVar sc nm id i = true) :
  nm.lookup id = some i ∧ (sc.names.lookup id = some .local ∨ sc.names.lookup id = some .cell ∨ sc.names.lookup id = some .free) ∧ (id == ("__debug__" : PySem.Str)) = false ∧ (id == ("__classdict__" : PySem.Str)) = false :=
 have h1 := a2 h; have h2 := a2 h1.1; have h3 := a2 h2.1
 ⟨eq_of_beq h3.1, (o2 h3.2).imp eq_of_beq fun z => (o2 z).imp eq_of_beq eq_of_beq, (Bool.not_eq_true' _).mp h2.2, (Bool.not_eq_true' _).mp h1.2⟩
theorem isGlob_inv {sc : Scope} {id n : PySem.Str} (h : isGlob sc id n = true) : id = n ∧ sc.names.lookup id = some .globalImplicit ∧ (id == ("__debug__" : PySem.Str)) = false :=
 have h1 := a2 h; have h2 := a2 h1.1
 ⟨eq_of_beq h2.1, eq_of_beq h2.2, (Bool.not_eq_true' _).mp h1.2⟩
theorem FrOk.fn {sc : Scope} {nm : List (PySem.Str × Nat)} {env : Env} {ρ : List V} {σ : AHeap} {h : Heap} (F : FrOk X N sc nm env ρ σ h) : env.scope.kind = .function := F.scope ▸ F.kind
theorem FrOk.of {sc : Scope} {nm : List (PySem.Str × Nat)} {env : Env} {ρ : List V} {σ : AHeap} {h : Heap} (F : FrOk X N sc nm env ρ σ h) (id : PySem.Str) : env.kindOf id = sc.names.lookup id := F.scope ▸ rfl
theorem load_var {sc : Scope} {nm : List (PySem.Str × Nat)} {env : Env} {ρ : List V} {σ : AHeap} {A : Around} {s : Shared} {id : PySem.Str} {i : Nat} {v : V} {G : Value → Shared → Prop} (F : FrOk X N sc nm env ρ σ s.heap)
  (hm : nm.lookup id = some i) (hk : sc.names.lookup id = some .local ∨ sc.names.lookup id = some .cell ∨ sc.names.lookup id = some .free) (hv : ρ[i]? = some v) (hu : v ≠ .undef)
  (h : ∀ val, VRel (hid N σ) s.heap v val → G val s) (hcd : (id == ("__classdict__" : PySem.Str)) = false) : wpAny (model X.prog X.w) A (loadName env id) G NoE s :=
 hk.elim (fun hk => F.ns.rec fun _ n r => (r id i hm hk v hv hu).elim fun val y => wpAny_loadName_local F.fn ((F.of id).trans hk) n y.1 (h val y.2))
  fun hk' => (F.cell id hk').rec fun _ _ a b _ _ r => (r i hm v hv hu).elim fun val q => have b := q.1 ▸ b
   hk'.elim (fun hk => wpAny_loadName_cell F.fn ((F.of id).trans hk) a b (h val q.2)) fun hk => wpAny_loadName_free F.fn ((F.of id).trans hk) a b (h val q.2) hcd
theorem load_glob (B : Base X) {sc : Scope} {nm : List (PySem.Str × Nat)} {env : Env} {ρ : List V} {σ : AHeap} {A : Around} {s : Shared} {id : PySem.Str} {pos : Pos} {val : Value} {G : Value → Shared → Prop} (S : St X N σ s) (F : FrOk X N sc nm env ρ σ s.heap)
  (hk : sc.names.lookup id = some .globalImplicit) (hd : (id == ("__debug__" : PySem.Str)) = false) (e : nsIn X.K mainGlobals id = some (some val)) (h : G val s) : wpAny (model X.prog X.w) A (eval (.Name id pos) env) G NoE s :=
 B.top.elim fun mg y => y.elim fun _ y => Name_function_global F.fn ((F.of id).trans hk) (loadGlobal_global (mg := mg) (F.glob ▸ y.1.keeps S.keep) (mg_of B.inK y.1 e) h) hd
theorem load_blt (B : Base X) {sc : Scope} {nm : List (PySem.Str × Nat)} {env : Env} {ρ : List V} {σ : AHeap} {A : Around} {s : Shared} {id : PySem.Str} {pos : Pos} {val : Value} {G : Value → Shared → Prop} (S : St X N σ s) (F : FrOk X N sc nm env ρ σ s.heap)
  (hk : sc.names.lookup id = some .globalImplicit) (hd : (id == ("__debug__" : PySem.Str)) = false) (e : nsIn X.K mainGlobals id = some none) (hb : bootBuiltins id = some val) (hn : id ≠ "__name__") (h : G val s) :
  wpAny (model X.prog X.w) A (eval (.Name id pos) env) G NoE s :=
 B.top.elim fun mg y => y.elim fun mb y => Name_function_global F.fn ((F.of id).trans hk)
  (loadGlobal_builtin (mg := mg) (mb := mb) (F.glob ▸ y.1.keeps S.keep) (mg_none_of B.inK y.1 e) (F.blt ▸ y.2.1.keeps S.keep) ((y.2.2 id hn).trans hb) h) hd
end
end Mine
end

section
open PySem PySem.Calls PyProof.Rows PySem.W
set_option maxRecDepth 20000
namespace Mine
variable {N : Hid}
section
variable {X : Cx} {k : Nat}
theorem Ns.unique {h : Heap} {a : Addr} {m m' : PySem.Str → Option Value} (x : h.Ns a m) (y : h.Ns a m') : m = m' := by
 obtain ⟨o, es, ep, ho, hd, _, hf⟩ := x
 obtain ⟨o', es', ep', ho', hd', _, hf'⟩ := y
 cases inj_some ho ho'
 cases hd.symm.trans hd'
 exact funext fun n => (hf n).symm.trans (hf' n)
theorem ledger {σ : AHeap} {s : Shared} (S : St X N σ s) : ∃ m news, Fr ({} : Heap) X.G s.heap m ∧ News ({} : Heap) X.G s.heap news ∧ ∀ b o, b ≠ X.G → s.heap.get? b = some o → (b, o) ∈ news :=
 have no : ∀ b, ({} : Heap).get? b = none := fun b => get_ge_none (Nat.zero_le _)
 S.ns.elim fun m n => ⟨m, (List.range s.heap.objs.size).filterMap (fun b => if b = X.G then none else (s.heap.get? b).map fun o => (b, o)), ⟨n, fun b _ e => (nos (no b) e).elim, Nat.zero_le _⟩,
  fun p hp => (List.mem_filterMap.mp hp).elim fun b hb => by
   have hb := hb.2
   split at hb
   ·cases hb
   ·rename_i q
    obtain ⟨o, ho, rfl⟩ := Option.map_eq_some_iff.mp hb
    exact ⟨ho, q, no _⟩,
  fun b o q e => List.mem_filterMap.mpr ⟨b, List.mem_range.mpr (Heap.lt_size e), by rw [if_neg q,e]; rfl⟩⟩
theorem Grow.of_news {h h' : Heap} {m : PySem.Str → Option Value} {news news' : List (Addr × Obj)} (F : Fr ({} : Heap) X.G h m) (all : ∀ b o, b ≠ X.G → h.get? b = some o → (b, o) ∈ news) (F' : Fr ({} : Heap) X.G h' m) (N' : News ({} : Heap) X.G h' news')
  (sub : ∀ p ∈ news, p ∈ news') : Grow X h h' :=
 ⟨fun b o q e => (N' _ (sub _ (all b o q e))).1, fun _ n => Ns.unique F.ns n ▸ F'.ns, fun b o e => (Decidable.em (b = X.G)).elim (fun q => q ▸ ns_get F'.ns) fun q => ⟨o, (N' _ (sub _ (all b o q e))).1⟩⟩
theorem asList_ref {σ : AHeap} {c : Addr} {l : List V} (e : asList σ (.ref c) = some l) : σ c = some (.list l) :=
 have h : lsP (σ c) (· = l) := ls_ref (f := (· = l)) ▸ (show lisP (asList σ (.ref c)) (· = l) from e ▸ rfl)
 h.inv fun _ e h => h ▸ e
theorem asList_inv {σ : AHeap} {s : Shared} (S : St X N σ s) {v : V} {l : List V} {val : Value} (e : asList σ v = some l) (x : VRel (hid N σ) s.heap v val) :
  ∃ a vs, val = .ref a ∧ s.heap.PlainList a vs ∧ vs.size ≤ 1000 ∧ VRels (hid N σ) s.heap l vs.toList :=
 VRel.casesOn (motive_1 := fun v val _ => asList σ v = some l → ∃ a vs, val = .ref a ∧ s.heap.PlainList a vs ∧ vs.size ≤ 1000 ∧ VRels (hid N σ) s.heap l vs.toList) x
  (fun e => (nos rfl e).elim) (fun e => (nos rfl e).elim) (fun e => (nos rfl e).elim) (fun e => (nos rfl e).elim) (fun e => (nos rfl e).elim) (fun _ _ e => (nos rfl e).elim) (fun _ _ _ _ e => (nos rfl e).elim)
  (fun _ h2 h3 h4 e => Option.some.inj e ▸ ⟨_, _, rfl, h2, h3, h4⟩) (fun e => (S.objs _ _ (asList_ref e)).elim fun vs y => ⟨_, vs, rfl, y⟩) e
@[elab_as_elim] theorem St.aslist {σ : AHeap} {s : Shared} {P : Value → Prop} (S : St X N σ s) {v : V} {l : List V} (val : Value) (e : asList σ v = some l) (x : VRel (hid N σ) s.heap v val)
  (k : ∀ a vs, s.heap.PlainList a vs → vs.size ≤ 1000 → VRels (hid N σ) s.heap l vs.toList → P (.ref a)) : P val :=
 (asList_inv S e x).elim fun a y => y.elim fun vs y => y.1 ▸ k a vs y.2.1 y.2.2.1 y.2.2.2
theorem St.neG_none {σ : AHeap} {s : Shared} (S : St X N σ s) {a : Addr} (ha : s.heap.get? a = none) : a ≠ X.G := fun q => S.ns.elim fun _ n => (ns_get n).elim fun _ e => nos ha (q ▸ e)
theorem St.up_add {σ : AHeap} {s : Shared} (S : St X N σ s) {h' : Heap} {a : Addr} {o : AObj} (g : Grow X s.heap h') (ha : s.heap.get? a = none) : Up X.G (hid N σ) s.heap (hid N (upd σ a o)) h' :=
 ⟨fun b o' n e q => ⟨g.at_ b o' n e, hid_none.mpr ⟨(hid_none.mp q).1, (upd_ne fun z => nos ha (z ▸ e)).trans (hid_none.mp q).2⟩⟩, S.ns⟩
theorem upd_elim {P : Addr → AObj → Prop} {σ : AHeap} {a : Addr} {o : AObj} (h1 : P a o) (h2 : ∀ b o', b ≠ a → σ b = some o' → P b o') (b : Addr) (o' : AObj) (q : upd σ a o b = some o') : P b o' :=
 (Decidable.em (b = a)).elim (fun z => by subst z; exact inj_some upd_self q ▸ h1) fun z => h2 b o' z ((upd_ne z).symm.trans q)
theorem St.add {σ : AHeap} {s₁ : Shared} (S : St X N σ s₁) {h' : Heap} {tk : Nat} {a : Addr} {o : AObj} {ob : Obj} (g : Grow X s₁.heap h') (ha : s₁.heap.get? a = none) (ho : h'.get? a = some ob) (hr : ORel X (hid N (upd σ a o)) h' a o) :
  St X N (upd σ a o) { s₁ with heap := h', toks := tk } ∧ Step X σ s₁ (upd σ a o) { s₁ with heap := h', toks := tk } :=
 have S' := S.grow g (tk := tk)
 have fa := S.free_of_none ha
 ⟨⟨S'.keep, upd_elim (S.H0_of_none ha) fun b o' _ q => S.fresh b o' q, upd_elim hr fun b o' _ q => (S.objs b o' q).up (S.up_add g ha) (fun ob e => g.at_ b ob (S.ne_G q) e) (fun dx z =>
   ⟨hid_sub.mpr ⟨(hid_sub.mp z).1, (upd_ne fun y => nos fa (y ▸ (hid_sub.mp z).2)).trans (hid_sub.mp z).2⟩, fun ob e => g.at_ dx ob (S.ne_G (hid_sub.mp z).2) e⟩),
  upd_elim ⟨ob, ho⟩ fun b o' _ q => (S.live b o' q).elim fun ob e => ⟨ob, g.at_ b ob (S.ne_G q) e⟩, S'.ns, (upd_ne (Ne.symm (S.neG_none ha))).trans S.gfree, S.gH0,
  fun b o' q => ⟨(upd_ne fun z => nos (S.hid_fresh ha) (z ▸ q)).trans (S'.hids b o' q).1, (S'.hids b o' q).2⟩⟩,
  ⟨fun b o' n e _ => g.at_ b o' n e, g.sink, fun b o' e e' => upd_elim (P := fun b _ => σ b = none → s₁.heap.get? b = none) (fun _ => ha) (fun _ _ _ q e => (nos e q).elim) b o' e' e, g.live, h', tk, rfl⟩⟩
theorem newList_end {σ : AHeap} {s₁ : Shared} (S : St X N σ s₁) {h' : Heap} {tk : Nat} {a : Addr} {vs : Array Value} {l : List V} {new : Bool} {Q : V → AHeap → Prop} (g : Grow X s₁.heap h') (ha : s₁.heap.get? a = none) (hl : h'.PlainList a vs)
  (R : VRels (hid N σ) s₁.heap l vs.toList) (hq : mkList new l σ Q) : PostE X N σ s₁ Q (.ref a) { s₁ with heap := h', toks := tk } :=
 have hsz : vs.size ≤ 1000 := Nat.le_trans (Nat.le_of_eq R.length.symm) hq.1
 Bool.casesOn (motive := fun new => (if new = true then ∀ a, σ a = none → Q (.ref a) (upd σ a (.list l)) else Q (.list l) σ) → PostE X N σ s₁ Q (.ref a) { s₁ with heap := h', toks := tk }) new
  (fun hq => ⟨.list l, σ, S.grow g, .grow g, .list (S.hfree_of_none ha) hl hsz (R.up (g.up S)), hq⟩)
  (fun hq => hl.elim fun _ hob => have y := S.add (tk := tk) g ha hob (o := .list l) ⟨vs, hl, hsz, R.up (S.up_add g ha)⟩; ⟨.ref a, _, y.1, y.2, .ref, hq a (S.free_of_none ha)⟩) hq.2
theorem size_line (n : Nat) (h : n ≤ 1000) : n ≤ sizeLine := Nat.le_trans h (by decide)
theorem ET.v (i : Nat) : ET X k (.v i) := fun {_ _ _ _ x _ _ _ _ _} hm hq _ S F => vName_inv x hm fun _ _ hm => have h := isVar_inv hm
 (getP_inv hq).elim fun _ y => wpAny_Name (load_var F h.1 h.2.1 y.1 y.2.1 (fun _ r => .here S r y.2.2) h.2.2.2) h.2.2.1
theorem ET.int (n : Int) : ET X k (.int n) := fun {_ _ _ _ x _ _ _ _ _} hm hq _ S _ => vConst_inv x hm fun c _ _ hm => vInt_inv c hm fun _ hm => wpAny_Constant_int (PostE.tok S .int (eq_of_beq hm ▸ hq))
theorem ET.bool (n : Bool) : ET X k (.bool n) := fun {_ _ _ _ x _ _ _ _ _} hm hq _ S _ => vConst_inv x hm fun c _ _ hm => vBl_inv c hm fun _ hm => wpAny_Constant_bool (.here S .bool (eq_of_beq hm ▸ hq))
theorem ET.str (n : String) : ET X k (.str n) := fun {_ _ _ _ x _ _ _ _ _} hm hq _ S _ => vConst_inv x hm fun c _ _ hm => vStr_inv c hm fun _ hm => wpAny_Constant_str (PostE.tok S .str (eq_of_beq hm ▸ hq))
theorem ET.none : ET X k .none := fun {_ _ _ _ x _ _ _ _ _} hm hq _ S _ => vConst_inv x hm fun c _ _ hm => vNo_inv c hm fun _ => wpAny_Constant_none (.here S .none hq)
@[elab_as_elim] theorem vNeg_inv {f} {P : PySem.Expr → Prop} (x : PySem.Expr) (h : vNeg f x = true) (k : ∀ i n p q, f i = true → P (.UnaryOp .USub (.Constant (.int i) n p) q)) : P x :=
 vUn_inv x h fun o e q h => (eq_of_beq (a2 h).1 : o = .USub).symm ▸ vConst_inv e (a2 h).2 fun c n p h => vInt_inv c h fun i h => k i n p q h
theorem ET.neg (n : Int) : ET X k (.neg n) := fun {_ _ _ _ x _ _ _ _ _} hm hq _ S _ => vNeg_inv x hm fun _ _ _ _ hm => wpAny_UnaryOp (wpAny_Constant_int (neg_int (PostE.tok (tk := _) S .int (eq_of_beq hm ▸ hq))))
theorem ET.nowhere (B : Base X) : ET X k .nowhere := fun {_ _ _ _ x _ _ _ _ _} hm hq _ S F => vName_inv x hm fun _ _ hm => have h := isGlob_inv hm
 B.nowhere.elim fun _ e => load_glob B S F h.2.1 h.2.2 (h.1 ▸ e) (.here S .int hq)
theorem bin_ints {op : Bop} {a b : Int} {t u : Tok} {σ : AHeap} {s : Shared} {A : Around} {Q : V → AHeap → Prop} (S : St X N σ s) (h : binI op a b fun r => Q (.int r) σ) :
  wpAny (model X.prog X.w) A (binaryOp (bopOf op) (.int a t) (.int b u)) (PostE X N σ s Q) NoE s :=
 Bop.casesOn (motive := fun op => (binI op a b fun r => Q (.int r) σ) → wpAny (model X.prog X.w) A (binaryOp (bopOf op) (.int a t) (.int b u)) (PostE X N σ s Q) NoE s) op
  (fun h : Q (.int (a + b)) σ => ((by with_reducible exact PyProof.Rows.add_int (.tok S .int h)) : wpAny (model X.prog X.w) A (binaryOp .Add (.int a t) (.int b u)) (PostE X N σ s Q) NoE s))
  (fun h : Q (.int (a - b)) σ => ((by with_reducible exact PyProof.Rows.sub_int (.tok S .int h)) : wpAny (model X.prog X.w) A (binaryOp .Sub (.int a t) (.int b u)) (PostE X N σ s Q) NoE s))
  (fun h : IntMulOk a b ∧ Q (.int (a * b)) σ => ((by with_reducible exact PyProof.Rows.mul_int (.tok S .int h.2) h.1) : wpAny (model X.prog X.w) A (binaryOp .Mult (.int a t) (.int b u)) (PostE X N σ s Q) NoE s))
  (fun h : b ≠ 0 ∧ Builtin.divisionGoesByPylong a b = false ∧ Q (.int (a.fdiv b)) σ => ((by with_reducible exact floordiv_int h.1 (.tok S .int h.2.2) (.inl h.2.1)) : wpAny (model X.prog X.w) A (binaryOp .FloorDiv (.int a t) (.int b u)) (PostE X N σ s Q) NoE s))
  (fun h : b ≠ 0 ∧ Q (.int (a.fmod b)) σ => ((by with_reducible exact PyProof.Rows.mod_int h.1 (.tok S .int h.2)) : wpAny (model X.prog X.w) A (binaryOp .Mod (.int a t) (.int b u)) (PostE X N σ s Q) NoE s))
  (fun h : 0 ≤ b ∧ (Builtin.Int.intBits a : Int) * b ≤ 2 ^ 27 ∧ Q (.int (a ^ b.toNat)) σ => ((by with_reducible exact pow_int h.1 h.2.1 (.tok S .int h.2.2)) : wpAny (model X.prog X.w) A (binaryOp .Pow (.int a t) (.int b u)) (PostE X N σ s Q) NoE s)) h
theorem bin_lists {new : Bool} {l l' : List V} {u v : V} {a b : Value} {σ : AHeap} {s : Shared} {A : Around} {Q : V → AHeap → Prop} (S : St X N σ s) (e1 : asList σ u = some l) (e2 : asList σ v = some l') (x : VRel (hid N σ) s.heap u a) (y : VRel (hid N σ) s.heap v b)
  (h : mkList new (l ++ l') σ Q) : wpAny (model X.prog X.w) A (binaryOp .Add a b) (PostE X N σ s Q) NoE s := by
 refine S.aslist a e1 x fun c vs i1 i2 i3 => S.aslist b e2 y fun d ws j1 j2 j3 => (ledger S).elim fun m L => L.elim fun news L => ?_
 have hsz : vs.size + ws.size ≤ sizeLine := Nat.le_trans (Nat.add_le_add i2 j2) (by decide)
 refine add_arrays L.1 L.2.1 i1.isList j1.isList (fun h' F' N' => ?_) hsz
 have il : h'.PlainList s.heap.objs.size (vs.toList ++ ws.toList).toArray := ⟨_, (N' _ List.mem_cons_self).1⟩
 exact newList_end (new := new) S (tk := s.toks) (Q := Q) (Grow.of_news L.1 L.2.2 F' N' fun p hp => List.mem_cons_of_mem _ hp) (get_ge_none (Nat.le_refl _)) il (i3.append j3) h
theorem binP_inv {P : Bop → V → V → Prop} {op : Bop} {u v : V} {σ : AHeap} {Q : V → AHeap → Prop} (h : binP op u v σ Q) (k1 : ∀ a b, (binI op a b fun r => Q (.int r) σ) → P op (.int a) (.int b))
  (k2 : ∀ u l l', asList σ u = some l → asList σ v = some l' → (l ++ l').length ≤ 1000 → Q (.list (l ++ l')) σ → P .add u v) : P op u v :=
 have g : ∀ u, addP op (lisP (asList σ u) fun l => lisP (asList σ v) fun l' => (l ++ l').length ≤ 1000 ∧ Q (.list (l ++ l')) σ) → P op u v := fun u h => addP.inv (P := fun op => P op u v) op h fun h => h.inv fun l e h => h.inv fun l' e' h => k2 u l l' e e' h.1 h.2
 V.casesOn (motive_1 := fun u => binP op u v σ Q → P op u v) u (g _) (g _) (fun _ => g _) (fun a h => intP.inv (P := fun v => P op (.int a) v) v h (k1 a)) (fun _ => g _) (fun _ => g _) (fun _ => g _) (fun _ => g _) (fun _ => g _) h
theorem bin_any {op : Bop} {u v : V} {a b : Value} {σ : AHeap} {s : Shared} {A : Around} {Q : V → AHeap → Prop} (S : St X N σ s) (x : VRel (hid N σ) s.heap u a) (y : VRel (hid N σ) s.heap v b) (h : binP op u v σ Q) :
  wpAny (model X.prog X.w) A (binaryOp (bopOf op) a b) (PostE X N σ s Q) NoE s :=
 binP_inv (P := fun op u v => VRel (hid N σ) s.heap u a → VRel (hid N σ) s.heap v b → wpAny (model X.prog X.w) A (binaryOp (bopOf op) a b) (PostE X N σ s Q) NoE s) h
  (fun _ _ h x y => x.toInt a fun _ => y.toInt b fun _ => bin_ints S h) (fun _ _ _ e1 e2 h1 h2 x y => bin_lists (new := false) S e1 e2 x y ⟨h1, h2⟩) x y
theorem upE {M : Model} {A : Around} {t : Sem Value} {X : Cx} {σ σ₁ : AHeap} {s s₁ s₀ : Shared} {Q : V → AHeap → Prop} (S : St X N σ s) (T : Step X σ s σ₁ s₁) (h : wpAny M A t (PostE X N σ₁ s₁ Q) NoE s₀) : wpAny M A t (PostE X N σ s Q) NoE s₀ :=
 wpAny_mono h (fun _ _ p => p.up S T) fun _ _ x => x
theorem seq2 {a b : E} (ha : ET X k a) (hb : ET X k b) {N : Hid} {sc : Scope} {nm : List (PySem.Str × Nat)} {env : Env} {l r : PySem.Expr} {ρ : List V} {σ : AHeap} {P : V → V → AHeap → Prop} {A : Around} {s : Shared} {G : Value → Value → Shared → Prop}
  (m : (matE sc nm a l && matE sc nm b r) = true) (hq : wpE X k a ρ σ fun u σ₁ => wpE X k b ρ σ₁ fun v σ₂ => P u v σ₂) (R : Room k A) (S : St X N σ s) (F : FrOk X N sc nm env ρ σ s.heap)
  (g : ∀ val₁ val₂ s₂ u v σ₂, St X N σ₂ s₂ → Step X σ s σ₂ s₂ → VRel (hid N σ₂) s₂.heap u val₁ → VRel (hid N σ₂) s₂.heap v val₂ → P u v σ₂ → G val₁ val₂ s₂) : wpAny (model X.prog X.w) A (eval l env) (fun val s₁ => wpAny (model X.prog X.w) A (eval r env) (fun val' s₂ => G val val' s₂) NoE s₁) NoE s :=
 seqE (ha (a2 m).1 hq R S F) fun _ _ _ _ S₁ T₁ V₁ h₁ => seqE (hb (a2 m).2 h₁ R S₁ (F.step S S₁ T₁)) fun _ _ _ _ S₂ T₂ V₂ h₂ => g _ _ _ _ _ _ S₂ (T₁.trans T₂ S.gfree S₂.gfree) (V₁.up (T₂.up S₁)) V₂ h₂
theorem ET.bin {op : Bop} {a b : E} (ha : ET X k a) (hb : ET X k b) : ET X k (.bin op a b) := fun {_ _ _ _ x _ _ _ _ _} hm hq R S F => vBin_inv x hm fun _ _ _ _ hm => (eq_of_beq (a2 hm).1).symm ▸
 wpAny_BinOp (seq2 ha hb (a2 hm).2 hq R S F fun _ _ _ _ _ _ S₂ T V₁ V₂ h₂ => upE S T (bin_any S₂ V₁ V₂ h₂))
end
end Mine
end

section
open PySem PySem.Calls PyProof.Rows PySem.W
set_option maxRecDepth 20000
namespace Mine
variable {N : Hid}
section
variable {X : Cx} {k : Nat}
noncomputable def V.isData : V → Bool
 | .int _ => true
 | .tup _ => true
 | .list _ => true
 | _ => false
theorem V.dataN_is {n : Nat} {v : V} (h : v.dataN n = true) : v.isData = true := by
 rcases v with _ | _ | _ | _ | _ | _ | _ | _ | _ <;> first | rfl | (rcases n with _ | _ <;> exact h)
structure RD (h : Heap) (v : V) (val : Value) (n : Nat) : Prop where
 ex : ∃ as, Reads h val v.py as
 lay : v.py.canLay0 = true
 dep : v.py.depth ≤ n
structure RDs (h : Heap) (l : List V) (vals : List Value) (n : Nat) : Prop where
 ex : ∃ as, ReadsAll h vals (V.pys l) as
 lay : PyData.canLayAll0 (V.pys l) = true
 dep : PyData.depthAll (V.pys l) ≤ n
theorem rds_cons {h : Heap} {v : V} {val : Value} {l : List V} {vals : List Value} {n : Nat} (x : RD h v val n) (y : RDs h l vals n) : RDs h (v :: l) (val :: vals) n :=
 x.ex.elim fun _ a => y.ex.elim fun _ b => ⟨⟨_, .cons a b⟩, Bool.and_eq_true_iff.mpr ⟨x.lay, y.lay⟩, Nat.max_le.mpr ⟨x.dep, y.dep⟩⟩
theorem all_cons {α : Type} {p : α → Bool} {a : α} {l : List α} (h : (a :: l).all p = true) : p a = true ∧ l.all p = true := a2 h
theorem rd_tup {h : Heap} {l : List V} {a : Addr} {vs : Array Value} {n : Nat} (t : IsTup h a vs) (y : RDs h l vs.toList n) : RD h (.tup l) (.ref a) (n + 1) :=
 t.elim fun _ t => t.2.2.elim fun _ d => y.ex.elim fun _ r => ⟨⟨_, .tuple t.1 t.2.1 d r⟩, y.lay, Nat.succ_le_succ y.dep⟩
theorem rd_list {h : Heap} {l : List V} {a : Addr} {vs : Array Value} {n : Nat} (t : h.PlainList a vs) (y : RDs h l vs.toList n) : RD h (.list l) (.ref a) (n + 1) :=
 t.elim fun _ t => y.ex.elim fun _ r => ⟨⟨_, .list t rfl rfl r⟩, y.lay, Nat.succ_le_succ y.dep⟩
theorem reads_of {σ : AHeap} {h : Heap} {v : V} {val : Value} (x : VRel σ h v val) : ∀ n, v.dataN n = true → RD h v val n :=
 VRel.rec (motive_1 := fun v val _ => ∀ n, v.dataN n = true → RD h v val n) (motive_2 := fun l vals _ => ∀ n, l.all (V.dataN n) = true → RDs h l vals n)
  (fun _ e => nomatch V.dataN_is e) (fun _ e => nomatch V.dataN_is e) (fun _ e => nomatch V.dataN_is e) (fun _ _ => ⟨⟨_, .int _ _⟩, rfl, Nat.zero_le _⟩) (fun _ e => nomatch V.dataN_is e) (fun _ _ _ e => nomatch V.dataN_is e)
  (fun {l a vs} _ t _ _ ih n => Nat.casesOn (motive := fun n => (V.tup l).dataN n = true → RD h (.tup l) (.ref a) n) n (fun e => nomatch e) fun n e => rd_tup t (ih n e))
  (fun {l a vs} _ t _ _ ih n => Nat.casesOn (motive := fun n => (V.list l).dataN n = true → RD h (.list l) (.ref a) n) n (fun e => nomatch e) fun n e => rd_list t (ih n e))
  (fun _ e => nomatch V.dataN_is e) (fun _ _ => ⟨⟨_, .nil⟩, rfl, Nat.zero_le _⟩) (fun _ _ ih1 ih2 n e => rds_cons (ih1 n (all_cons e).1) (ih2 n (all_cons e).2)) x
theorem reads_all {σ : AHeap} {h : Heap} {l : List V} {vals : List Value} {n : Nat} (x : VRels σ h l vals) : l.all (V.dataN n) = true → RDs h l vals n :=
 x.ind (P := fun l vals => l.all (V.dataN n) = true → RDs h l vals n) (fun _ => ⟨⟨_, .nil⟩, rfl, Nat.zero_le _⟩) fun _ _ _ _ a _ ih e => rds_cons (reads_of a n (all_cons e).1) (ih (all_cons e).2)
theorem thaw_ref {σ : AHeap} {a : Addr} {P : V → Prop} (h1 : ∀ l, σ a = some (.list l) → P (.list l)) (h2 : P (.ref a)) : P (thaw σ (.ref a)) := by
 show P (match σ a with | some (.list l) => .list l | _ => .ref a)
 rcases e : σ a with _ | (_ | _ | _ | _ | _) <;> first | exact h2 | exact h1 _ e
theorem reads_thaw {σ : AHeap} {s : Shared} (S : St X N σ s) {v : V} {val : Value} (hd : (thaw σ v).data = true) (x : VRel (hid N σ) s.heap v val) : RD s.heap (thaw σ v) val 8 :=
 V.casesOn (motive_1 := fun v => (thaw σ v).data = true → VRel (hid N σ) s.heap v val → RD s.heap (thaw σ v) val 8) v (fun d x => reads_of x 8 d) (fun d x => reads_of x 8 d) (fun _ d x => reads_of x 8 d) (fun _ d x => reads_of x 8 d) (fun _ d x => reads_of x 8 d) (fun _ d x => reads_of x 8 d) (fun _ d x => reads_of x 8 d) (fun _ d x => reads_of x 8 d)
  (fun a d x => thaw_ref (P := fun v => v.data = true → RD s.heap v val 8) (fun l e d => x.toRef val ((S.objs _ _ e).elim fun _ y => rd_list y.1 (reads_all y.2.2 d))) (fun d => reads_of x 8 d) d) hd x
inductive PostC (s : Shared) (Q : Bool → Prop) (val : Value) (s' : Shared) : Prop
 | mk (b : Bool) (tk : Nat) (e : val = .bool b) (e' : s' = { s with toks := tk }) (q : Q b) : PostC s Q val s'
theorem PostC.here {s : Shared} {Q : Bool → Prop} {b : Bool} (q : Q b) : PostC s Q (.bool b) s := ⟨b, s.toks, rfl, rfl, q⟩
theorem cmp_ints {op : Cop} {i j : Int} {t u : Tok} {s : Shared} {A : Around} {Q : Bool → Prop} (h : Q (copI op i j)) : wpAny (model X.prog X.w) A (compareOp (copOf op) (.int i t) (.int j u)) (PostC s Q) NoE s :=
 Cop.casesOn (motive := fun op => Q (copI op i j) → wpAny (model X.prog X.w) A (compareOp (copOf op) (.int i t) (.int j u)) (PostC s Q) NoE s) op
  (fun (h : Q (decide (i < j))) => ((by with_reducible exact lt_int (PostC.here h)) : wpAny (model X.prog X.w) A (compareOp .Lt (.int i t) (.int j u)) (PostC s Q) NoE s))
  (fun (h : Q (decide (i ≤ j))) => ((by with_reducible exact le_int (PostC.here h)) : wpAny (model X.prog X.w) A (compareOp .LtE (.int i t) (.int j u)) (PostC s Q) NoE s))
  (fun (h : Q (decide (j < i))) => ((by with_reducible exact gt_int (PostC.here h)) : wpAny (model X.prog X.w) A (compareOp .Gt (.int i t) (.int j u)) (PostC s Q) NoE s))
  (fun (h : Q (decide (j ≤ i))) => ((by with_reducible exact ge_int (PostC.here h)) : wpAny (model X.prog X.w) A (compareOp .GtE (.int i t) (.int j u)) (PostC s Q) NoE s))
  (fun (h : Q ((i == j))) => ((by with_reducible exact eq_int (PostC.here h)) : wpAny (model X.prog X.w) A (compareOp .Eq (.int i t) (.int j u)) (PostC s Q) NoE s))
  (fun (h : Q ((i != j))) => ((by with_reducible exact ne_int (PostC.here h)) : wpAny (model X.prog X.w) A (compareOp .NotEq (.int i t) (.int j u)) (PostC s Q) NoE s)) h
theorem cmp_strs {op : Cop} {x y : PySem.Str} {t u : Tok} {s : Shared} {A : Around} {Q : Bool → Prop} {σ : AHeap} (h : cmpP op (.str x) (.str y) σ Q) : wpAny (model X.prog X.w) A (compareOp (copOf op) (.str x t) (.str y u)) (PostC s Q) NoE s :=
 Cop.casesOn (motive := fun op => cmpP op (.str x) (.str y) σ Q → wpAny (model X.prog X.w) A (compareOp (copOf op) (.str x t) (.str y u)) (PostC s Q) NoE s) op
  False.elim False.elim False.elim False.elim
  (fun (h : Q (x == y)) => ((by with_reducible exact PyProof.Rows.eq_str (PostC.here h)) : wpAny (model X.prog X.w) A (compareOp .Eq (.str x t) (.str y u)) (PostC s Q) NoE s)) False.elim h
noncomputable def cmpD (op : Cop) (u v : V) (σ : AHeap) (Q : Bool → Prop) : Prop := (thaw σ u).data = true ∧ (thaw σ v).data = true ∧ match op with
  | .eq => Q ((thaw σ u).beq (thaw σ v))
  | .ne => Q (!(thaw σ u).beq (thaw σ v))
  | _ => False
theorem cmp_data {op : Cop} {u v : V} {a b : Value} {σ : AHeap} {s : Shared} {A : Around} {Q : Bool → Prop} (R : Room k A) (S : St X N σ s) (x : VRel (hid N σ) s.heap u a) (y : VRel (hid N σ) s.heap v b) (h : cmpD op u v σ Q) :
  wpAny (model X.prog X.w) A (compareOp (copOf op) a b) (PostC s Q) NoE s :=
 have r1 := reads_thaw S h.1 x
 have r2 := reads_thaw S h.2.1 y
 have hu : A.units + min (thaw σ u).py.depth (thaw σ v).py.depth < cLine := Nat.lt_of_lt_of_le (Nat.lt_of_le_of_lt (Nat.add_le_add_left (Nat.le_trans (Nat.min_le_left _ _) r1.dep) _) (by lia)) R.2.2
 r1.ex.elim fun _ q1 => r2.ex.elim fun _ q2 => Cop.casesOn (motive := fun op => (match op with | .eq => Q ((thaw σ u).beq (thaw σ v)) | .ne => Q (!(thaw σ u).beq (thaw σ v)) | _ => False) → wpAny (model X.prog X.w) A (compareOp (copOf op) a b) (PostC s Q) NoE s) op
  False.elim False.elim False.elim False.elim
  (fun (h : Q (PyData.eqv (thaw σ u).py (thaw σ v).py)) => ((by with_reducible exact SeqAt.compareEq_reads q1 q2 r1.lay r2.lay hu (PostC.here h)) : wpAny (model X.prog X.w) A (compareOp .Eq a b) (PostC s Q) NoE s))
  (fun (h : Q (!PyData.eqv (thaw σ u).py (thaw σ v).py)) => ((by with_reducible exact SeqAt.compareNe_reads q1 q2 r1.lay r2.lay hu (PostC.here h)) : wpAny (model X.prog X.w) A (compareOp .NotEq a b) (PostC s Q) NoE s)) h.2.2
theorem cmpP_inv {P : V → V → Prop} {op : Cop} {u v : V} {σ : AHeap} {Q : Bool → Prop} (h : cmpP op u v σ Q) (k1 : ∀ i j, Q (copI op i j) → P (.int i) (.int j)) (k2 : ∀ x y, cmpP op (.str x) (.str y) σ Q → P (.str x) (.str y)) (k3 : ∀ u v, cmpD op u v σ Q → P u v) : P u v := by
 rcases u with _ | _ | _ | _ | _ | _ | _ | _ | _ <;> first | exact k3 _ _ h | (rcases v with _ | _ | _ | _ | _ | _ | _ | _ | _ <;> first | exact k3 _ _ h | exact k1 _ _ h | exact k2 _ _ h)
theorem cmp_vals {op : Cop} {u v : V} {a b : Value} {σ : AHeap} {s : Shared} {A : Around} {Q : Bool → Prop} (R : Room k A) (S : St X N σ s) (x : VRel (hid N σ) s.heap u a) (y : VRel (hid N σ) s.heap v b) (h : cmpP op u v σ Q) :
  wpAny (model X.prog X.w) A (compareOp (copOf op) a b) (PostC s Q) NoE s :=
 cmpP_inv (P := fun u v => VRel (hid N σ) s.heap u a → VRel (hid N σ) s.heap v b → wpAny (model X.prog X.w) A (compareOp (copOf op) a b) (PostC s Q) NoE s) h
  (fun _ _ h x y => x.toInt a fun _ => y.toInt b fun _ => cmp_ints h) (fun _ _ h x y => x.str_inv.elim fun _ e => y.str_inv.elim fun _ e' => e ▸ e' ▸ cmp_strs h) (fun _ _ h x y => cmp_data R S x y h) x y
theorem behind_no {op : CmpOp} (h : (op == .In || op == .NotIn) = false) (e : PySem.Expr) : behindInMarks op e = false :=
 PySem.Expr.casesOn (motive_1 := fun e => behindInMarks op e = false) e (fun _ _ _ => rfl) (fun _ _ _ => rfl) (fun _ _ _ _ => rfl) (fun _ _ _ => rfl) (fun _ _ _ _ => rfl) (fun _ _ _ _ => rfl) (fun _ _ _ => rfl) (fun elts k _ => (by show (k == 0 && (op == .In || op == .NotIn) && elts.all (constantsAlone 8)) = false; rw [h,Bool.and_false,Bool.false_and])) (fun _ _ _ _ => rfl) (fun _ _ _ _ => rfl) (fun _ _ _ _ _ => rfl) (fun _ _ _ _ => rfl)
  (fun _ _ => rfl) (fun _ _ => rfl) (fun _ _ => rfl) (fun _ _ _ _ => rfl) (fun _ _ _ _ => rfl) (fun _ _ _ _ => rfl) (fun _ _ => rfl) (fun _ _ _ => rfl) (fun _ _ _ => rfl) (fun _ _ _ => rfl) (fun _ _ => rfl) (fun _ _ => rfl) (fun _ _ => rfl) (fun _ _ _ => rfl) (fun _ _ _ _ => rfl)
theorem behind_false (op : Cop) (e : PySem.Expr) : behindInMarks (copOf op) e = false := behind_no (Cop.casesOn (motive := fun op => (copOf op == .In || copOf op == .NotIn) = false) op rfl rfl rfl rfl rfl rfl) e
theorem seqC {M : Model} {A : Around} {t : Sem Value} {s : Shared} {Q : Bool → Prop} {G : Value → Shared → Prop} (h : wpAny M A t (PostC s Q) NoE s)
  (g : ∀ b tk, Q b → G (.bool b) { s with toks := tk }) : wpAny M A t G NoE s :=
 wpAny_mono h (fun _ _ p => p.rec fun b tk e1 e2 q => e1 ▸ e2 ▸ g b tk q) fun _ _ x => x
@[elab_as_elim] theorem vCmp1_inv {f : PySem.Expr → CmpOp → PySem.Expr → Bool} {P : PySem.Expr → Prop} (x : PySem.Expr) (h : vCmp (fun l os rs => v1 (fun o => v1 (fun r => f l o r) rs) os) x = true) (k : ∀ l o r p, f l o r = true → P (.Compare l [o] [r] p)) : P x :=
 vCmp_inv x h fun l os rs p h => v1_inv os h fun o h => v1_inv rs h fun r h => k l o r p h
theorem ET.cmp {op : Cop} {a b : E} (ha : ET X k a) (hb : ET X k b) : ET X k (.cmp a op b) := fun {_ _ _ _ x _ _ _ _ _} hm hq R S F => vCmp1_inv x hm fun _ _ r _ hm => (eq_of_beq (a2 hm).1).symm ▸
 wpAny_Compare1 (seq2 ha hb (a2 hm).2 hq R S F fun _ _ _ _ _ _ S₂ T V₁ V₂ h₂ => seqC (cmp_vals R S₂ V₁ V₂ h₂) fun _ _ hb => PostE.up S T (.tok S₂ .bool hb)) (behind_false op r)
theorem BT.cmp {op : Cop} {a b : E} (ha : ET X k a) (hb : ET X k b) : BT X k (.cmp a op b) := fun _ {_ _ _ _ x _ _ _ _ _} hm hq R S F => vCmp1_inv x hm fun _ _ r _ hm => (eq_of_beq (a2 hm).1).symm ▸
 wpAny_isTrue_Compare1 (seq2 ha hb (a2 hm).2 hq R S F fun _ _ _ _ _ σ₂ S₂ T V₁ V₂ h₂ => seqC (cmp_vals R S₂ V₁ V₂ h₂) fun b tk hb => wpAny_truthy_bool ⟨σ₂, S₂.tok tk, T.trans (.tok tk) S.gfree S₂.gfree, hb⟩) (behind_false op r)
end
end Mine
end

section
open PySem PySem.Calls PyProof.Rows PySem.W
set_option maxRecDepth 20000
namespace Mine
variable {N : Hid}
section
variable {X : Cx} {k : Nat}
theorem seqB {M : Model} {A : Around} {t : Sem Bool} {X : Cx} {σ : AHeap} {s : Shared} {Q : Bool → AHeap → Prop} {G : Bool → Shared → Prop} (h : wpAny M A t (PostB X N σ s Q) NoE s)
  (k : ∀ b s₁ σ₁, St X N σ₁ s₁ → Step X σ s σ₁ s₁ → Q b σ₁ → G b s₁) : wpAny M A t G NoE s :=
 wpAny_mono h (fun b s₁ p => p.rec fun σ₁ a c d => k b s₁ σ₁ a c d) fun _ _ x => x
theorem PostB.up {X : Cx} {σ σ₁ : AHeap} {s s₁ : Shared} {Q : Bool → AHeap → Prop} {b : Bool} {s' : Shared} (S : St X N σ s) (T : Step X σ s σ₁ s₁) (p : PostB X N σ₁ s₁ Q b s') : PostB X N σ s Q b s' :=
 p.rec fun σ' a c d => ⟨σ', a, T.trans c S.gfree a.gfree, d⟩
theorem upB {M : Model} {A : Around} {t : Sem Bool} {X : Cx} {σ σ₁ : AHeap} {s s₁ s₀ : Shared} {Q : Bool → AHeap → Prop} (S : St X N σ s) (T : Step X σ s σ₁ s₁) (h : wpAny M A t (PostB X N σ₁ s₁ Q) NoE s₀) : wpAny M A t (PostB X N σ s Q) NoE s₀ :=
 wpAny_mono h (fun _ _ p => p.up S T) fun _ _ x => x
@[elab_as_elim] theorem truthP.inv {P : V → Prop} {f} (u : V) (h : truthP u f) (k : ∀ a, f a → P (.bool a)) : P u := V.casesOn (motive_1 := fun u => truthP u f → P u) u False.elim False.elim k (fun _ => False.elim) (fun _ => False.elim) (fun _ => False.elim) (fun _ => False.elim) (fun _ => False.elim) (fun _ => False.elim) h
theorem truth_bool {v : V} {val : Value} {σ : AHeap} {s : Shared} {A : Around} {Q : Bool → Prop} {G : Bool → Shared → Prop} (x : VRel (hid N σ) s.heap v val) (h : truthP v Q) (g : ∀ b, Q b → G b s) : wpAny (model X.prog X.w) A (truthy val) G NoE s :=
 truthP.inv (P := fun v => VRel (hid N σ) s.heap v val → wpAny (model X.prog X.w) A (truthy val) G NoE s) v h (fun b h x => x.toBool val (wpAny_truthy_bool (g b h))) x
noncomputable def plainTest (x : PySem.Expr) : Bool := !(x.ctorIdx == 0) && (!(x.ctorIdx == 5) && (!(x.ctorIdx == 15) && !(vUn (fun o _ => o == UnaryOp.Not) x)))
theorem isTrue_plainT {x : PySem.Expr} (h : plainTest x = true) (env : Env) (w : Sem Value) : isTrue x env w = (do let v ← w; standAt x.pos; holding [v] (truthy v)) :=
 PySem.Expr.casesOn (motive_1 := fun x => plainTest x = true → isTrue x env w = (do let v ← w; standAt x.pos; holding [v] (truthy v))) x (fun _ _ _ h => nomatch h) (fun _ _ _ _ => rfl) (fun _ _ _ _ _ => rfl) (fun o _ _ => UnaryOp.casesOn (motive := fun o => plainTest (.UnaryOp o _ _) = true → isTrue (.UnaryOp o _ _) env w = _) o (fun _ => rfl) (fun h => nomatch h) (fun _ => rfl) (fun _ => rfl)) (fun _ _ _ _ _ => rfl) (fun _ _ _ _ h => nomatch h) (fun _ _ _ _ => rfl) (fun _ _ _ _ => rfl) (fun _ _ _ _ _ => rfl) (fun _ _ _ _ _ => rfl) (fun _ _ _ _ _ _ => rfl) (fun _ _ _ _ _ => rfl)
  (fun _ _ _ => rfl) (fun _ _ _ => rfl) (fun _ _ _ => rfl) (fun _ _ _ _ h => nomatch h) (fun _ _ _ _ _ => rfl) (fun _ _ _ _ _ => rfl) (fun _ _ _ => rfl) (fun _ _ _ _ => rfl) (fun _ _ _ _ => rfl) (fun _ _ _ _ => rfl) (fun _ _ _ => rfl) (fun _ _ _ => rfl) (fun _ _ _ => rfl) (fun _ _ _ _ => rfl) (fun _ _ _ _ _ => rfl) h
theorem BT.ofET {e : E} (h : ET X k e) (hx : ∀ {sc : Scope} {nm : List (PySem.Str × Nat)} {x : PySem.Expr}, matE sc nm e x = true → plainTest x = true) : BT X k e := fun _ {_ _ _ _ _ _ _ _ _ _} hm hq R S F =>
 wpAny_isTrue_value (seqE (h hm hq R S F) fun _ _ _ σ₁ S₁ T₁ V₁ h₁ => truth_bool V₁ h₁ fun _ hb => ⟨σ₁, S₁, T₁, hb⟩) (isTrue_plainT (hx hm) _ _)
theorem BT.not {a : E} (ha : BT X k a) : BT X k (.not a) := fun ht {_ _ _ _ x _ _ _ _ _} hm hq R S F => vUn_inv x hm fun _ _ _ hm => (eq_of_beq (a2 hm).1).symm ▸
 wpAny_isTrue_Not (seqB (ha ht (a2 hm).2 hq R S F) fun _ _ σ₁ S₁ T₁ h₁ => ⟨σ₁, S₁, T₁, h₁⟩)
theorem ET.not {a : E} (ha : ET X k a) : ET X k (.not a) := fun {_ _ _ _ x _ _ _ _ _} hm hq R S F => vUn_inv x hm fun _ _ _ hm => (eq_of_beq (a2 hm).1).symm ▸
 wpAny_UnaryOp (seqE (ha (a2 hm).2 hq R S F) fun _ _ _ σ₁ S₁ T₁ V₁ h₁ => not_value (truth_bool V₁ h₁ fun b hb => ⟨.bool (!b), σ₁, S₁, T₁, .bool, hb⟩))
theorem and3 {M : Model} {A : Around} {env : Env} {E : Value → Shared → Prop} {s : Shared} {x y z : PySem.Expr} {pos : Pos} {Q : Value → Shared → Prop}
  (h : wpAny M A (eval x env) (fun v s₁ => wpAny M A (truthy v) (fun t s₂ => if t then wpAny M A (eval (.BoolOp .And [y, z] pos) env) Q E s₂ else Q v s₂) E s₁) E s) : wpAny M A (eval (.BoolOp .And [x, y, z] pos) env) Q E s := by
 show wpAny M A (do
  let v ← eval x env
  standAt pos
  let t ← holding [v] (truthy v)
  match BoolOp.And, t with
  | .And, false | .Or, true => pure v
  | _, _ => eval (.BoolOp .And [y, z] pos) env) Q E s
 refine wpAny_bind (wpAny_mono h (fun v s₁ h₁ => wpAny_bind (wpAny_standAt (wpAny_bind (wpAny_holding (wpAny_mono h₁ (fun t s₂ h₂ => ?_) fun _ _ x => x))))) fun _ _ x => x)
 cases t with
 | true => exact h₂
 | false => exact wpAny_pure h₂
@[elab_as_elim] theorem vAnd_inv {α : Type} {f : α → α → Bool} {g : α → α → α → Bool} {P : List α → Prop} (x : List α) (h : vAnd f g x = true) (k : ∀ a b, f a b = true → P [a, b]) (k' : ∀ a b c, g a b c = true → P [a, b, c]) : P x :=
 List.casesOn (motive := fun x => vAnd f g x = true → P x) x (fun h => (Bool.false_ne_true h).elim) (fun a l h => vc_inv (P := fun l => P (a :: l)) l h fun b l h => (o2 h).elim (fun h => v0_inv (P := fun l => P (a :: b :: l)) l (a2 h).1 (k a b (a2 h).2)) fun h => v1_inv (P := fun l => P (a :: b :: l)) l h (k' a b)) h
theorem fst_truth {c : Bool} {E1 : Prop} {Q1 : Value → Shared → Prop} {u : V} {val : Value} {σ : AHeap} {s : Shared} {A : Around} {K : Bool → Prop} {G : Bool → Shared → Prop} (x : VRel (hid N σ) s.heap u val) (h : truthP u K) (g : ∀ b, val = .bool b → K b → G b s) : wpAny (model X.prog X.w) A (truthy val) G NoE s :=
 truthP.inv (P := fun u => VRel (hid N σ) s.heap u val → wpAny (model X.prog X.w) A (truthy val) G NoE s) u h (fun b h x => have e := x.bool_inv; e ▸ wpAny_truthy_bool (g b e h)) x
theorem ite_true' {p q : Prop} (h : if true = true then p else q) : p := h
theorem ET.and {a b : E} (ha : ET X k a) (hb : ET X k b) : ET X k (.and a b) := by
 intro N sc nm env x ρ σ Q A s hm hq R S F
 refine vBool_inv x hm fun o es p hm => (eq_of_beq (a2 hm).1).symm ▸ ?_
 have fin : ∀ {r : PySem.Expr} {val : Value} {s₁ : Shared} {u : V} {σ₁ : AHeap}, matE sc nm b r = true → St X N σ₁ s₁ → Step X σ s σ₁ s₁ → VRel (hid N σ₁) s₁.heap u val → (truthP u fun r => if r = true then wpE X k b ρ σ₁ Q else Q (.bool false) σ₁) →
   wpAny (model X.prog X.w) A (truthy val) (fun t s₂ => if t then wpAny (model X.prog X.w) A (eval r env) (PostE X N σ s Q) NoE s₂ else PostE X N σ s Q val s₂) NoE s₁ := fun {r val s₁ u σ₁} m S₁ T₁ V₁ h₁ =>
  fst_truth (c := true) (E1 := True) (Q1 := fun _ _ => True) V₁ h₁ fun c e => Bool.casesOn (motive := fun c => val = .bool c → (if c = true then wpE X k b ρ σ₁ Q else Q (.bool false) σ₁) → if c = true then wpAny (model X.prog X.w) A (eval r env) (PostE X N σ s Q) NoE s₁ else PostE X N σ s Q val s₁) c
   (fun e h => e ▸ ⟨.bool false, σ₁, S₁, T₁, .bool, h⟩) (fun _ h => upE S T₁ (hb m h R S₁ (F.step S S₁ T₁))) e
 exact vAnd_inv es (a2 hm).2 (fun l r hm => wpAny_And2 (seqE (ha (a2 hm).1 hq R S F) fun _ _ _ _ S₁ T₁ V₁ h₁ => fin (a2 hm).2 S₁ T₁ V₁ h₁)) fun l r r2 hm => and3 (seqE (ha (a2 hm).1 hq R S F) fun _ _ _ _ S₁ T₁ V₁ h₁ => fin (a2 hm).2 S₁ T₁ V₁ h₁)
theorem ET.or {a b : E} (ha : ET X k a) (hb : ET X k b) : ET X k (.or a b) := fun {_ _ _ env x ρ σ Q A s} hm hq R S F => vBool_inv x hm fun o es p hm => (eq_of_beq (a2 hm).1).symm ▸ v2_inv es (a2 hm).2 fun l r hm =>
 wpAny_Or2 (seqE (ha (a2 hm).1 hq R S F) fun val s₁ u σ₁ S₁ T₁ V₁ h₁ => fst_truth (c := true) (E1 := True) (Q1 := fun _ _ => True) V₁ h₁ fun c e => Bool.casesOn (motive := fun c => val = .bool c → (if c = true then Q (.bool true) σ₁ else wpE X k b ρ σ₁ Q) → if c = true then PostE X _ σ s Q val s₁ else wpAny (model X.prog X.w) A (eval r env) (PostE X _ σ s Q) NoE s₁) c
   (fun _ h => upE S T₁ (hb (a2 hm).2 h R S₁ (F.step S S₁ T₁))) (fun e h => e ▸ ⟨.bool true, σ₁, S₁, T₁, .bool, h⟩) e)
theorem ite_B {c : Bool} {p q p' q' : Prop} (h : if c = true then p else q) (f : p → p') (g : q → q') : if c = true then p' else q' := Bool.casesOn (motive := fun c => (if c = true then p else q) → if c = true then p' else q') c g f h
theorem ite_E {c : Bool} {p q p' q' : Prop} (h : if c = true then p else q) (f : p → p') (g : c = false → q → q') : if c = true then p' else q' := Bool.casesOn (motive := fun b => c = b → (if b = true then p else q) → if b = true then p' else q') c (fun e => g e) (fun _ => f) rfl h
theorem BT.and {a b : E} (ha : BT X k a) (hb : BT X k b) : BT X k (.and a b) := fun ht {_ sc nm env x ρ σ Q A s} hm hq R S F => vBool_inv x hm fun o es p hm => (eq_of_beq (a2 hm).1).symm ▸ have t := a2 ht
 vAnd_inv es (a2 hm).2
  (fun l r hm => wpAny_isTrue_BoolOp (wpAny_allTrue_And_cons (seqB (Q := fun c σ₁ => if c = true then wpE X k b ρ σ₁ (fun u σ₁ => truthP u fun b => Q b σ₁) else Q false σ₁) (ha t.1 (a2 hm).1 hq R S F) fun c s₁ σ₁ S₁ T₁ h₁ => ite_B h₁
   (fun h => wpAny_allTrue_And_cons (seqB (hb t.2 (a2 hm).2 h R S₁ (F.step S S₁ T₁)) fun d s₂ σ₂ S₂ T₂ h₂ => have T := T₁.trans T₂ S.gfree S₂.gfree
    Bool.casesOn (motive := fun d => Q d σ₂ → if d = true then wpAny (model X.prog X.w) A (allTrue .And [] env) (PostB X _ σ s Q) NoE s₂ else PostB X _ σ s Q false s₂) d (fun h => ⟨σ₂, S₂, T, h⟩) (fun h => wpAny_allTrue_And_nil ⟨σ₂, S₂, T, h⟩) h₂)) fun h => ⟨σ₁, S₁, T₁, h⟩)))
  fun l r r2 hm => wpAny_isTrue_BoolOp (wpAny_allTrue_And_cons (seqB (Q := fun c σ₁ => if c = true then wpE X k b ρ σ₁ (fun u σ₁ => truthP u fun b => Q b σ₁) else Q false σ₁) (ha t.1 (a2 hm).1 hq R S F) fun c s₁ σ₁ S₁ T₁ h₁ => ite_B h₁
   (fun h => upB S T₁ (hb t.2 (a2 hm).2 h R S₁ (F.step S S₁ T₁))) fun h => ⟨σ₁, S₁, T₁, h⟩))
theorem BT.or {a b : E} (ha : BT X k a) (hb : BT X k b) : BT X k (.or a b) := fun ht {_ sc nm env x ρ σ Q A s} hm hq R S F => vBool_inv x hm fun o es p hm => (eq_of_beq (a2 hm).1).symm ▸ have t := a2 ht
 v2_inv es (a2 hm).2
  (fun l r hm => wpAny_isTrue_BoolOp (wpAny_allTrue_Or_cons (seqB (Q := fun c σ₁ => if c = true then Q true σ₁ else wpE X k b ρ σ₁ (fun u σ₁ => truthP u fun b => Q b σ₁)) (ha t.1 (a2 hm).1 hq R S F) fun c s₁ σ₁ S₁ T₁ h₁ => ite_B h₁ (fun h => ⟨σ₁, S₁, T₁, h⟩)
   (fun h => wpAny_allTrue_Or_cons (seqB (hb t.2 (a2 hm).2 h R S₁ (F.step S S₁ T₁)) fun d s₂ σ₂ S₂ T₂ h₂ => have T := T₁.trans T₂ S.gfree S₂.gfree
    Bool.casesOn (motive := fun d => Q d σ₂ → if d = true then PostB X _ σ s Q true s₂ else wpAny (model X.prog X.w) A (allTrue .Or [] env) (PostB X _ σ s Q) NoE s₂) d (fun h => wpAny_allTrue_Or_nil ⟨σ₂, S₂, T, h⟩) (fun h => ⟨σ₂, S₂, T, h⟩) h₂)))))
theorem ET.ite {c a b : E} (hc : BT X k c) (ha : ET X k a) (hb : ET X k b) : ET X k (.ite c a b) := fun {_ _ _ _ x ρ _ Q _ _} hm hq R S F => vIf_inv x hm fun _ _ _ _ hm => have m := a2 (a2 hm).2
 wpAny_IfExp (seqB (Q := fun r σ₁ => if r = true then wpE X k a ρ σ₁ Q else wpE X k b ρ σ₁ Q) (hc (a2 hm).1 m.1 hq R S F) fun d s₁ σ₁ S₁ T₁ h₁ =>
  ite_B h₁ (fun h => upE S T₁ (ha (a2 m.2).1 h R S₁ (F.step S S₁ T₁))) fun h => upE S T₁ (hb (a2 m.2).2 h R S₁ (F.step S S₁ T₁)))
theorem BT.ite {c a b : E} (hc : BT X k c) (ha : BT X k a) (hb : BT X k b) : BT X k (.ite c a b) := fun ht {_ _ _ env x ρ _ Q A s} hm hq R S F => vIf_inv x hm fun t l r _ hm => have m := a2 (a2 hm).2; have ht1 := a2 ht; have ht2 := a2 ht1.1
 (wpAny_bind (seqB (Q := fun r σ₁ => if r = true then wpE X k a ρ σ₁ (fun u σ₁ => truthP u fun b => Q b σ₁) else wpE X k b ρ σ₁ (fun u σ₁ => truthP u fun b => Q b σ₁)) (hc (a2 hm).1 m.1 hq R S F) fun d s₁ σ₁ S₁ T₁ h₁ =>
  Bool.casesOn (motive := fun d => (if d = true then wpE X k a ρ σ₁ (fun u σ₁ => truthP u fun b => Q b σ₁) else wpE X k b ρ σ₁ (fun u σ₁ => truthP u fun b => Q b σ₁)) → wpAny (model X.prog X.w) A (if d = true then isTrue l env (eval l env) else isTrue r env (eval r env)) (PostB X _ _ _ Q) NoE s₁) d
   (fun h => upB S T₁ (hb ht1.2 (a2 m.2).2 h R S₁ (F.step S S₁ T₁))) (fun h => upB S T₁ (ha ht2.2 (a2 m.2).1 h R S₁ (F.step S S₁ T₁))) h₁) : wpAny (model X.prog X.w) A (isTrue t env (eval t env) >>= fun d => if d = true then isTrue l env (eval l env) else isTrue r env (eval r env)) _ NoE s)
theorem marks_false {o o2 : Cop} {r r2 : PySem.Expr} : lastMarks [copOf o, copOf o2] [r, r2] = false := behind_false o2 r2
@[elab_as_elim] theorem vCmp2_inv {f : PySem.Expr → CmpOp → CmpOp → PySem.Expr → PySem.Expr → Bool} {P : PySem.Expr → Prop} (x : PySem.Expr) (h : vCmp (fun l os rs => v2 (fun o o2 => v2 (fun r r2 => f l o o2 r r2) rs) os) x = true) (k : ∀ l o o2 r r2 p, f l o o2 r r2 = true → P (.Compare l [o, o2] [r, r2] p)) : P x :=
 vCmp_inv x h fun l os rs p h => v2_inv os h fun o o2 h => v2_inv rs h fun r r2 h => k l o o2 r r2 p h
theorem ET.cmp2 {op op2 : Cop} {a b c : E} (ha : ET X k a) (hb : ET X k b) (hc : ET X k c) : ET X k (.cmp2 a op b op2 c) := fun {_ _ _ env x ρ σ Q A s} hm hq R S F => vCmp2_inv x hm fun _ _ _ _ r2 _ hm => (eq_of_beq (a2 hm).1).symm ▸ (eq_of_beq (a2 (a2 hm).2).1).symm ▸ have m := a2 (a2 (a2 hm).2).2
 Compare_chain (seqE (ha m.1 hq R S F) fun _ _ _ _ S₁ T₁ V₁ h₁ => chain_link (seqE (hb (a2 m.2).1 h₁ R S₁ (F.step S S₁ T₁)) fun val' s₂ _ σ₂ S₂ T₂ V₂ h₂ => seqC (cmp_vals R S₂ (V₁.up (T₂.up S₁)) V₂ h₂) fun d tk hb => wpAny_truthy_bool
  (have T := (T₁.trans T₂ S.gfree S₂.gfree).trans (Step.tok (X := X) (σ := σ₂) (s := s₂) tk) S.gfree S₂.gfree
  ite_E hb (fun hb => chain_last (seqE (hc (a2 m.2).2 hb R (S₂.tok tk) (F.step S (S₂.tok tk) T)) fun _ _ _ _ S₃ T₃ V₃ h₃ =>
   seqC (cmp_vals R S₃ (V₂.up (T₃.up (S₂.tok tk))) V₃ h₃) fun d tk' hd => PostE.up S (T.trans T₃ S.gfree S₃.gfree) (.tok S₃ .bool hd))) fun e hb => ⟨.bool false, σ₂, S₂.tok tk, T, e ▸ .bool, hb⟩))) marks_false
theorem BT.cmp2 {op op2 : Cop} {a b c : E} (ha : ET X k a) (hb : ET X k b) (hc : ET X k c) : BT X k (.cmp2 a op b op2 c) := fun _ {_ _ _ env x ρ σ Q A s} hm hq R S F => vCmp2_inv x hm fun _ _ _ _ r2 _ hm => (eq_of_beq (a2 hm).1).symm ▸ (eq_of_beq (a2 (a2 hm).2).1).symm ▸ have m := a2 (a2 (a2 hm).2).2
 isTrue_chain (seqE (ha m.1 hq R S F) fun _ _ _ _ S₁ T₁ V₁ h₁ => test_link (seqE (hb (a2 m.2).1 h₁ R S₁ (F.step S S₁ T₁)) fun val' s₂ _ σ₂ S₂ T₂ V₂ h₂ => seqC (cmp_vals R S₂ (V₁.up (T₂.up S₁)) V₂ h₂) fun d tk hb => wpAny_truthy_bool
  (have T := (T₁.trans T₂ S.gfree S₂.gfree).trans (Step.tok (X := X) (σ := σ₂) (s := s₂) tk) S.gfree S₂.gfree
  ite_B hb (fun hb => test_last (seqE (hc (a2 m.2).2 hb R (S₂.tok tk) (F.step S (S₂.tok tk) T)) fun _ _ _ σ₃ S₃ T₃ V₃ h₃ =>
   seqC (cmp_vals R S₃ (V₂.up (T₃.up (S₂.tok tk))) V₃ h₃) fun d tk' hd => wpAny_truthy_bool ⟨σ₃, S₃.tok tk', (T.trans T₃ S.gfree S₃.gfree).trans (.tok tk') S.gfree S₃.gfree, hd⟩)) fun hb => ⟨σ₂, S₂.tok tk, T, hb⟩))) marks_false
theorem none_eq {u : V} {val : Value} {τ : AHeap} {h : Heap} (x : VRel τ h u val) : u ≠ .undef → (val == Value.none) = u.isNone :=
 VRel.casesOn (motive_1 := fun u val _ => u ≠ .undef → (val == Value.none) = u.isNone) x (fun h => (h rfl).elim) (fun _ => rfl) (fun _ => rfl) (fun _ => rfl) (fun _ => rfl) (fun _ _ _ => rfl) (fun _ _ _ _ _ => rfl) (fun _ _ _ _ _ => rfl) (fun _ => rfl)
theorem is_value {neg : Bool} {u : V} {val : Value} {σ : AHeap} {s : Shared} {A : Around} {Q : Value → Shared → Prop} (x : VRel (hid N σ) s.heap u val) (hu : u ≠ .undef) (h : Q (.bool (u.isNone != neg)) s) :
  wpAny (model X.prog X.w) A (compareOp (if neg then .IsNot else .Is) val .none) Q NoE s := by
 exact Bool.casesOn (motive := fun neg => Q (.bool (u.isNone != neg)) s → wpAny (model X.prog X.w) A (compareOp (if neg then .IsNot else .Is) val .none) Q NoE s) neg (fun h => is_none ((congrArg (fun b => Q (.bool b) s) ((none_eq x hu).trans (Bool.bne_false _).symm)).mpr h)) (fun h => isNot_none ((congrArg (fun b => Q (.bool b) s) ((congrArg (!·) (none_eq x hu)).trans (Bool.bne_true _).symm)).mpr h)) h
theorem behind_is (neg : Bool) (e : PySem.Expr) : behindInMarks (if neg then .IsNot else .Is) e = false := behind_no (Bool.casesOn (motive := fun neg => ((if neg = true then CmpOp.IsNot else .Is) == .In || (if neg = true then CmpOp.IsNot else .Is) == .NotIn) = false) neg rfl rfl) e
theorem ET.isnone {neg : Bool} {a : E} (ha : ET X k a) : ET X k (.isnone neg a) := fun {_ _ _ _ x _ _ _ _ _} hm hq R S F => vCmp1_inv x hm fun _ _ r _ hm => (eq_of_beq (a2 hm).1).symm ▸ vConst_inv r (a2 hm).2 fun c _ _ hm => vNo_inv c hm fun hm =>
 wpAny_Compare1 (seqE (ha hm hq R S F) fun _ _ _ σ₁ S₁ T₁ V₁ h₁ => wpAny_Constant_none (is_value V₁ h₁.1 ⟨_, σ₁, S₁, T₁, .bool, h₁.2⟩)) (behind_is neg _)
theorem BT.isnone {neg : Bool} {a : E} (ha : ET X k a) : BT X k (.isnone neg a) := fun _ {_ _ _ _ x _ _ _ _ _} hm hq R S F => vCmp1_inv x hm fun _ _ r _ hm => (eq_of_beq (a2 hm).1).symm ▸ vConst_inv r (a2 hm).2 fun c _ _ hm => vNo_inv c hm fun hm =>
 wpAny_isTrue_Compare1 (seqE (ha hm hq R S F) fun _ _ _ σ₁ S₁ T₁ V₁ h₁ => wpAny_Constant_none (is_value V₁ h₁.1 (wpAny_truthy_bool ⟨σ₁, S₁, T₁, h₁.2⟩))) (behind_is neg _)
end
end Mine
end

section
open PySem PySem.Calls PyProof.Rows PySem.W
set_option maxRecDepth 20000
namespace Mine
variable {N : Hid}
section
variable {X : Cx} {k : Nat}
theorem seqL {M : Model} {A : Around} {t : Sem (List Value)} {X : Cx} {σ : AHeap} {s : Shared} {Q : List V → AHeap → Prop} {G : List Value → Shared → Prop} (h : wpAny M A t (PostL X N σ s Q) NoE s)
  (g : ∀ vals s₁ l σ₁, St X N σ₁ s₁ → Step X σ s σ₁ s₁ → VRels (hid N σ₁) s₁.heap l vals → Q l σ₁ → G vals s₁) : wpAny M A t G NoE s :=
 wpAny_mono h (fun vals s₁ p => p.rec fun l σ₁ a b c d => g vals s₁ l σ₁ a b c d) fun _ _ x => x
noncomputable def okTop (x : PySem.Expr) : Bool := !(x.ctorIdx == 22) && !(x.ctorIdx == 7)
theorem mat_ok {sc : Scope} {nm : List (PySem.Str × Nat)} (e : E) : ∀ x, matE sc nm e x = true → okTop x = true :=
 E.rec (motive_1 := fun e => ∀ x, matE sc nm e x = true → okTop x = true) (motive_2 := fun _ => True) (motive_3 := fun _ => True) (motive_4 := fun _ => True)
  (fun _ x h => vName_inv x h fun _ _ _ => rfl) (fun _ x h => vConst_inv x h fun _ _ _ _ => rfl) (fun _ x h => vConst_inv x h fun _ _ _ _ => rfl) (fun _ x h => vConst_inv x h fun _ _ _ _ => rfl) (fun x h => vConst_inv x h fun _ _ _ _ => rfl) (fun _ x h => vUn_inv x h fun _ _ _ _ => rfl) (fun x h => vName_inv x h fun _ _ _ => rfl) (fun _ _ _ _ _ x h => vBin_inv x h fun _ _ _ _ _ => rfl) (fun _ _ _ _ _ x h => vCmp_inv x h fun _ _ _ _ _ => rfl) (fun _ _ _ _ _ _ _ _ x h => vCmp_inv x h fun _ _ _ _ _ => rfl) (fun _ _ _ x h => vCmp_inv x h fun _ _ _ _ _ => rfl) (fun _ _ _ _ x h => vBool_inv x h fun _ _ _ _ => rfl) (fun _ _ _ _ x h => vBool_inv x h fun _ _ _ _ => rfl) (fun _ _ x h => vUn_inv x h fun _ _ _ _ => rfl) (fun _ _ _ _ _ _ x h => vIf_inv x h fun _ _ _ _ _ => rfl) (fun _ _ _ _ x h => vSub_inv x h fun _ _ _ _ => rfl) (fun _ _ x h => vSub_inv x h fun _ _ _ _ => rfl) (fun _ _ _ _ _ _ x h => vSub_inv x h fun _ _ _ _ => rfl) (fun _ _ x h => vSub_inv x h fun _ _ _ _ => rfl) (fun _ _ _ x h => vAttr_inv x h fun _ _ _ _ => rfl) (fun _ _ x h => vAttr_inv x h fun _ _ _ _ => rfl) (fun _ _ x h => vAttr_inv x h fun _ _ _ _ => rfl) (fun _ _ x h => vTup_inv x h fun _ _ _ _ => rfl) (fun _ _ x h => vList_inv x h fun _ _ _ => rfl) (fun _ _ x h => vList_inv x h fun _ _ _ => rfl) (fun x h => vDict_inv x h fun _ _ _ _ => rfl) (fun _ ih => ih) (fun _ _ _ x h => vCall_inv x h fun _ _ _ _ _ => rfl) (fun _ _ _ _ _ x h => vCall_inv x h fun _ _ _ _ _ => rfl) (fun _ _ _ _ x h => vCall_inv x h fun _ _ _ _ _ => rfl) (fun _ _ x h => vCall_inv x h fun _ _ _ _ _ => rfl) (fun _ _ _ _ x h => vCall_inv x h fun _ _ _ _ _ => rfl) (fun _ _ _ _ x h => vCall_inv x h fun _ _ _ _ _ => rfl) (fun _ _ x h => vCall_inv x h fun _ _ _ _ _ => rfl) (fun _ _ x h => vCall_inv x h fun _ _ _ _ _ => rfl) (fun _ _ x h => vCall_inv x h fun _ _ _ _ _ => rfl) (fun _ _ x h => vCall_inv x h fun _ _ _ _ _ => rfl) (fun _ _ x h => vCall_inv x h fun _ _ _ _ _ => rfl) (fun _ _ _ _ x h => vCall_inv x h fun _ _ _ _ _ => rfl) (fun _ _ _ _ _ _ x h => vCall_inv x h fun _ _ _ _ _ => rfl) (fun _ _ _ _ x h => vCall_inv x h fun _ _ _ _ _ => rfl) (fun _ _ _ _ x h => vBin_inv x h fun _ _ _ _ _ => rfl) (fun _ _ _ _ x h => vBin_inv x h fun _ _ _ _ _ => rfl) (fun _ _ _ _ _ x h => vComp_inv x h fun _ _ _ _ _ => rfl) trivial (fun _ _ _ _ => trivial) (fun _ _ => trivial) (fun _ _ => trivial) (fun _ _ _ _ => trivial) (fun _ _ _ _ _ _ => trivial) trivial (fun _ _ _ _ _ _ _ => trivial) e
theorem star_ok {x : PySem.Expr} (h : okTop x = true) (rest : List PySem.Expr) (env : Env) : starEach (x :: rest) env = (false, eval x env) :: starEach rest env :=
 PySem.Expr.casesOn (motive_1 := fun x => okTop x = true → starEach (x :: rest) env = (false, eval x env) :: starEach rest env) x (fun _ _ _ _ => rfl) (fun _ _ _ _ => rfl) (fun _ _ _ _ _ => rfl) (fun _ _ _ _ => rfl) (fun _ _ _ _ _ => rfl) (fun _ _ _ _ _ => rfl) (fun _ _ _ _ => rfl) (fun _ _ _ _ => rfl) (fun _ _ _ _ _ => rfl) (fun _ _ _ _ _ => rfl) (fun _ _ _ _ _ _ => rfl) (fun _ _ _ _ _ => rfl) (fun _ _ _ => rfl) (fun _ _ _ => rfl) (fun _ _ _ => rfl) (fun _ _ _ _ _ => rfl) (fun _ _ _ _ _ => rfl) (fun _ _ _ _ _ => rfl) (fun _ _ _ => rfl) (fun _ _ _ _ => rfl) (fun _ _ _ _ => rfl) (fun _ _ _ _ => rfl) (fun _ _ h => nomatch h) (fun _ _ _ => rfl) (fun _ _ _ => rfl) (fun _ _ _ _ => rfl) (fun _ _ _ _ _ => rfl) h
theorem star_of {e : E} {sc : Scope} {nm : List (PySem.Str × Nat)} {x : PySem.Expr} (h : matE sc nm e x = true) (rest : List PySem.Expr) (env : Env) : starEach (x :: rest) env = (false, eval x env) :: starEach rest env := star_ok (mat_ok e x h) rest env
theorem EsT.nil : EsT X k .nil := fun {_ _ _ _ xs _ _ _ _ _ _} hm hq _ S _ => v0_inv xs hm (wpAny_items_nil ⟨[], _, S, .refl .., .nil, hq⟩)
theorem EsT.cons {e : E} {r : Es} (he : ET X k e) (hr : EsT X k r) : EsT X k (.cons e r) := fun {_ _ _ env xs _ _ _ _ _ _} hm hq R S F => vc_inv xs hm fun _ xs hm =>
 wpAny_items_cons (seqE (he (a2 hm).1 hq R S F) fun _ _ v _ S₁ T₁ V₁ h₁ => seqL (hr (a2 hm).2 h₁ R S₁ (F.step S S₁ T₁)) fun _ _ l σ₂ S₂ T₂ V₂ h₂ =>
  ⟨v :: l, σ₂, S₂, T₁.trans T₂ S.gfree S₂.gfree, .cons (V₁.up (T₂.up S₁)) V₂, h₂⟩) (star_of (a2 hm).1 xs env)
theorem Grow.push (h : Heap) (o : Obj) : Grow X h (h.push o) := .of_all fun _ _ e => Heap.get?_push_of_some _ e
theorem VRels.le {τ : AHeap} {h : Heap} {l : List V} {vs : List Value} (x : VRels τ h l vs) {n : Nat} (hn : l.length ≤ n) : vs.length ≤ n := x.length ▸ hn
theorem newTup_end {σ : AHeap} {s₁ : Shared} (S : St X N σ s₁) {h' : Heap} {tk : Nat} {a : Addr} {vs : Array Value} {l : List V} {Q : V → AHeap → Prop} (g : Grow X s₁.heap h') (ha : s₁.heap.get? a = none) (hl : IsTup h' a vs)
  (R : VRels (hid N σ) s₁.heap l vs.toList) (hn : l.length ≤ 1000) (hq : Q (.tup l) σ) : PostE X N σ s₁ Q (.ref a) { s₁ with heap := h', toks := tk } :=
 ⟨.tup l, σ, S.grow g, .grow g, .tup (S.hfree_of_none ha) hl (R.le hn) (R.up (g.up S)), hq⟩
theorem ET.tup {es : Es} (h : EsT X k es) : ET X k (.tup es) := fun {_ _ _ _ x _ _ _ _ _} hm hq R S F => vTup_inv x hm fun _ _ _ hm =>
 wpAny_Tuple (seqL (h hm hq R S F) fun _ s₁ _ _ S₁ T₁ V₁ h₁ => ⟨size_line _ (V₁.le h₁.1), PostE.up S T₁ (newTup_end S₁ (tk := s₁.toks) (Grow.push _ _) (get_ge_none (Nat.le_refl _)) ⟨_, Heap.get?_push_size _ rfl, rfl, _, rfl⟩ V₁ h₁.1 h₁.2)⟩)
theorem list_disp {es : Es} (h : EsT X k es) {new : Bool} {sc : Scope} {nm : List (PySem.Str × Nat)} {env : Env} {xs : List PySem.Expr} {pos : Pos} {ρ : List V} {σ : AHeap} {Q : V → AHeap → Prop} {A : Around} {s : Shared}
  (hm : matEs sc nm es xs = true) (hq : wpEs X k es ρ σ fun l σ₁ => mkList new l σ₁ Q) (R : Room k A) (S : St X N σ s) (F : FrOk X N sc nm env ρ σ s.heap) : wpAny (model X.prog X.w) A (eval (.List xs pos) env) (PostE X N σ s Q) NoE s :=
 wpAny_List (seqL (h hm hq R S F) fun _ s₁ _ _ S₁ T₁ V₁ h₁ => ⟨size_line _ (V₁.le h₁.1), PostE.up S T₁ (newList_end S₁ (tk := s₁.toks) (Grow.push _ _) (get_ge_none (Nat.le_refl _)) ⟨_, Heap.get?_push_size _ rfl⟩ V₁ h₁)⟩)
theorem ET.lst {es : Es} (h : EsT X k es) : ET X k (.lst es) := fun {_ _ _ _ x _ _ _ _ _} hm hq R S F => vList_inv x hm fun _ _ hm => list_disp h hm hq R S F
theorem ET.nlst {es : Es} (h : EsT X k es) : ET X k (.nlst es) := fun {_ _ _ _ x _ _ _ _ _} hm hq R S F => vList_inv x hm fun _ _ hm => list_disp h hm hq R S F
theorem subs_plain {sl : PySem.Expr} (h : notSlice sl = true) (o i : Value) : subscripted sl false o i = operate [o, i] (getItem o i) :=
 PySem.Expr.casesOn (motive_1 := fun sl => notSlice sl = true → subscripted sl false o i = operate [o, i] (getItem o i)) sl (fun _ _ _ _ => rfl) (fun _ _ _ _ => rfl) (fun _ _ _ _ _ => rfl) (fun _ _ _ _ => rfl) (fun _ _ _ _ _ => rfl) (fun _ _ _ _ _ => rfl) (fun _ _ _ _ => rfl) (fun _ _ _ _ => rfl) (fun _ _ _ _ _ => rfl) (fun _ _ _ _ _ => rfl) (fun _ _ _ _ _ _ => rfl) (fun _ _ _ _ _ => rfl) (fun _ _ _ => rfl) (fun _ _ _ => rfl) (fun _ _ _ => rfl) (fun _ _ _ _ _ => rfl) (fun _ _ _ _ _ => rfl) (fun _ _ _ _ _ => rfl) (fun _ _ _ => rfl) (fun _ _ _ _ => rfl) (fun _ _ _ _ => rfl) (fun _ _ _ _ => rfl) (fun _ _ _ => rfl) (fun _ _ _ => rfl) (fun _ _ _ => rfl) (fun _ _ _ _ => rfl) (fun _ _ _ _ h => nomatch h) h
theorem bytes_array {l : List Nat} {b : Array UInt8} (e : b.toList.map UInt8.toNat = l) : b.size = l.length := by rw [← e,List.length_map]; rfl
theorem idx_small {i : Int} {n : Nat} (h0 : 0 ≤ i) (h : i.toNat < n) (hn : n ≤ 1000) : i < 2 ^ 63 := Int.lt_of_lt_of_le ((Int.toNat_lt h0).mp (Nat.lt_of_lt_of_le h hn)) (by decide)
theorem idx_tup {i : Int} {n : Nat} (h0 : 0 ≤ i) (h : i.toNat < n) : seqIndex? i n = some i.toNat := by
 have h1 : i < n := (Int.toNat_lt h0).mp h
 show (if (decide (0 ≤ (if i < 0 then i + (n : Int) else i)) && decide ((if i < 0 then i + (n : Int) else i) < n)) = true then some (if i < 0 then i + (n : Int) else i).toNat else none) = _
 rw [if_neg (Int.not_lt.mpr h0),decide_eq_true h0,decide_eq_true h1]; rfl
theorem arr_lt {vs : Array Value} {j : Nat} {x : Value} (e : vs.toList[j]? = some x) : vs[j]? = some x ∧ j < vs.size := have e' : vs[j]? = some x := Array.getElem?_toList ▸ e; ⟨e', (Array.getElem?_eq_some_iff.mp e').1⟩
theorem item_list {a : Addr} {vs : Array Value} {i : Int} {t : Tok} {l : List V} {v : V} {value slice : PySem.Expr} {σ : AHeap} {s : Shared} {A : Around} {Q : V → AHeap → Prop} (S : St X N σ s) (p : s.heap.PlainList a vs) (z : vs.size ≤ 1000) (r : VRels (hid N σ) s.heap l vs.toList) (h0 : 0 ≤ i)
  (hv : l[i.toNat]? = some v) (hq : Q v σ) (hs : subscripted slice false (.ref a) (.int i t) = operate [.ref a, .int i t] (getItem (.ref a) (.int i t))) : wpAny (model X.prog X.w) A (subscriptTail value slice (.ref a) (.int i t)) (PostE X N σ s Q) NoE s :=
 (r.get hv).elim fun _ y => tail_any p.isList.typeIs slot_list_getitem.lookup (wpAny_getItem_list p.isList h0 (idx_small h0 (arr_lt y.1).2 z) (arr_lt y.1).1 (.here S y.2 hq)) hs
theorem item_tup {a : Addr} {vs : Array Value} {i : Int} {t : Tok} {l : List V} {v : V} {value slice : PySem.Expr} {σ : AHeap} {s : Shared} {A : Around} {Q : V → AHeap → Prop} (S : St X N σ s) (p : IsTup s.heap a vs) (z : vs.size ≤ 1000) (r : VRels (hid N σ) s.heap l vs.toList) (h0 : 0 ≤ i)
  (hv : l[i.toNat]? = some v) (hq : Q v σ) (hs : subscripted slice false (.ref a) (.int i t) = operate [.ref a, .int i t] (getItem (.ref a) (.int i t))) : wpAny (model X.prog X.w) A (subscriptTail value slice (.ref a) (.int i t)) (PostE X N σ s Q) NoE s :=
 (r.get hv).elim fun _ y => tail_any p.typeIs slot_tuple_getitem.lookup (getItem_tuple (j := i.toNat) p (Int.le_trans (by decide) h0) (idx_small h0 (arr_lt y.1).2 z) (idx_tup h0 (arr_lt y.1).2) (arr_lt y.1).1 (.here S y.2 hq)) hs
theorem item_bytes {ls : List Nat} {b : Array UInt8} {tk : Tok} {i : Int} {t : Tok} {v : V} {value slice : PySem.Expr} {σ : AHeap} {s : Shared} {A : Around} {Q : V → AHeap → Prop} (S : St X N σ s) (a1 : b.toList.map UInt8.toNat = ls) (z : b.toList.length ≤ 1000) (h0 : 0 ≤ i)
  (hv : (ls.map fun (n : Nat) => V.int (n : Int))[i.toNat]? = some v) (hq : Q v σ) (hs : subscripted slice false (.bytes b tk) (.int i t) = operate [.bytes b tk, .int i t] (getItem (.bytes b tk) (.int i t))) : wpAny (model X.prog X.w) A (subscriptTail value slice (.bytes b tk) (.int i t)) (PostE X N σ s Q) NoE s := by
 have hlt : i.toNat < b.toList.length := by have := (List.getElem?_eq_some_iff.mp hv).1; rw [List.length_map,← a1,List.length_map] at this; exact this
 have e3 := getItem_bytes (prog := X.prog) (w := X.w) (A := A) (E := NoE) (s := s) (l := b.toList) (i := i) (t := tk) (u := t) (Q := PostE X N σ s Q) (Nat.le_trans z (by decide)) h0 ((Int.toNat_lt h0).mp hlt) (.tok S (by
  rw [← a1,List.map_map,List.getElem?_map,List.getElem?_eq_getElem hlt] at hv
  rw [List.getD_eq_getElem?_getD,List.getElem?_eq_getElem hlt]
  exact Option.some.inj hv ▸ .int) hq)
 rw [Array.toArray_toList] at e3
 exact tail_any (typeIs_bytes s b tk) FB.slot_bytes_getitem.lookup e3 hs
theorem item_any {u : V} {o : Value} {i : Int} {t : Tok} {l : List V} {v : V} {value slice : PySem.Expr} {σ : AHeap} {s : Shared} {A : Around} {Q : V → AHeap → Prop} (S : St X N σ s) (x : VRel (hid N σ) s.heap u o) (e : asItems σ u = some l) (h0 : 0 ≤ i)
  (hv : l[i.toNat]? = some v) (hq : Q v σ) (hs : subscripted slice false o (.int i t) = operate [o, .int i t] (getItem o (.int i t))) :
  wpAny (model X.prog X.w) A (subscriptTail value slice o (.int i t)) (PostE X N σ s Q) NoE s :=
 VRel.casesOn (motive_1 := fun u o _ => asItems σ u = some l → subscripted slice false o (.int i t) = operate [o, .int i t] (getItem o (.int i t)) → wpAny (model X.prog X.w) A (subscriptTail value slice o (.int i t)) (PostE X N σ s Q) NoE s) x
  (fun e => (nos rfl e).elim) (fun e => (nos rfl e).elim) (fun e => (nos rfl e).elim) (fun e => (nos rfl e).elim) (fun e => (nos rfl e).elim) (fun a1 z e => item_bytes S a1 z h0 (Option.some.inj e ▸ hv) hq)
  (fun _ p z r e => item_tup S p z (Option.some.inj e ▸ r) h0 hv hq) (fun _ p z r e => item_list S p z (Option.some.inj e ▸ r) h0 hv hq)
  (fun e => (S.objs _ _ (asList_ref e)).elim fun _ y => item_list S y.1 y.2.1 y.2.2 h0 hv hq) e hs
theorem ET.idx {a i : E} (ha : ET X k a) (hi : ET X k i) : ET X k (.idx a i) := fun {_ _ _ _ x _ _ Q _ _} hm hq R S F => vSub_inv x hm fun _ _ _ hm =>
 Subscript_ (seq2 (P := fun u v σ₂ => idxP u v σ₂ fun x => Q x σ₂) ha hi (a2 hm).2 hq R S F fun _ val₂ _ _ v _ S₂ T V₁ V₂ h₂ => h₂.inv fun _ e h => intP.inv (P := fun v => VRel _ _ v val₂ → _) v h (fun _ h V₂ => V₂.toInt val₂ fun _ => h.2.elim fun _ y =>
  upE S T (item_any S₂ V₁ e h.1 y.1 y.2 (subs_plain (a2 hm).1 _ _))) V₂)
theorem getItem_list_neg1 {l : Addr} {items : Array Value} {t : Tok} {x : Value} {A : Around} {s : Shared} {Q : Value → Shared → Prop} (hl : s.heap.IsList l items) (hx : items[items.size - 1]? = some x) (hz : items.size ≤ 1000) (h : Q x s) :
  wpAny (model X.prog X.w) A (getItem (.ref l) (.int (-1) t)) Q NoE s := by
 have h0 := (Array.getElem?_eq_some_iff.mp hx).1
 exact wpAny_getItem_list_neg hl (by decide) (Int.neg_le_neg (Int.ofNat_le.mpr (Nat.lt_of_le_of_lt (Nat.zero_le _) h0))) (by decide) ((show ((-1 : Int) + items.size).toNat = items.size - 1 from Int.add_comm _ _ ▸ Int.toNat_sub items.size 1) ▸ hx) h
theorem last_size {l : List V} {vs : Array Value} (e : l.length = vs.toList.length) : l.length - 1 = vs.size - 1 := congrArg (· - 1) e
theorem ET.last {a : E} (ha : ET X k a) : ET X k (.last a) := fun {_ _ _ _ x _ _ _ _ _} hm hq R S F => vSub_inv x hm fun _ sl _ hm => vNeg_inv sl hm fun n _ _ _ hm => (eq_of_beq (a2 hm).1).symm ▸
 Subscript_ (seqE (ha (a2 hm).2 hq R S F) fun val s₁ _ σ₁ S₁ T₁ V₁ h₁ => h₁.inv fun l e h => h.elim fun _ y => S₁.aslist val e V₁ fun _ vs i1 i2 i3 =>
  (i3.get (List.getLast?_eq_getElem? ▸ y.1)).elim fun _ z => wpAny_UnaryOp (wpAny_Constant_int (neg_int
   (upE S (T₁.trans (Step.tok (X := X) (σ := σ₁) (s := s₁) (s₁.toks + 1 + 1)) S.gfree S₁.gfree) (tail_any (Heap.IsList.typeIs (s := { s₁ with toks := s₁.toks + 1 + 1 }) i1.isList) slot_list_getitem.lookup
    (getItem_list_neg1 (s := { s₁ with toks := s₁.toks + 1 + 1 }) i1.isList (last_size i3.length ▸ Array.getElem?_toList ▸ z.1) i2 (.here (S₁.tok (s₁.toks + 1 + 1)) z.2 y.2)) rfl)))))
theorem clip_nonneg (n : Nat) (a : Int) (h : 0 ≤ a) : clipAt n a = min a.toNat n := by
 obtain ⟨m, rfl⟩ := Int.eq_ofNat_of_zero_le h
 unfold clipAt
 rw [if_neg (Int.not_lt.mpr h)]
 exact (Nat.le_total m n).elim (fun q => by rw [Int.min_eq_left (Int.ofNat_le.mpr q),Int.max_eq_right h,Int.toNat_natCast,Nat.min_eq_left q]) fun q => by rw [Int.min_eq_right (Int.ofNat_le.mpr q),Int.max_eq_right (Int.natCast_nonneg _),Int.toNat_natCast,Int.toNat_natCast,Nat.min_eq_right q]
theorem min_sub_min (a b n : Nat) : min (b - a) (n - a) = min (min b n - min a n) (n - a) :=
 (Nat.le_total a n).elim (fun h => by rw [Nat.min_eq_left h,Nat.sub_min_sub_right,Nat.sub_min_sub_right,Nat.min_assoc,Nat.min_self]) fun h => by rw [Nat.sub_eq_zero_of_le h,Nat.min_zero,Nat.min_zero]
theorem cut_eq {α : Type} (l : List α) (a : Nat) (b : Option Nat) :
  cut l a b = (l.drop (min a l.length)).take ((match b with | none => l.length | some b => min b l.length) - min a l.length) := by
 have hd : l.drop (min a l.length) = l.drop a := (Nat.le_total a l.length).elim (fun h => by rw [Nat.min_eq_left h]) fun h => by rw [Nat.min_eq_right h,List.drop_of_length_le (Nat.le_refl _),List.drop_of_length_le h]
 rw [hd]
 rcases b with _ | b
 ·exact (List.take_of_length_le (i := l.length - min a l.length) (by show (l.drop a).length ≤ _; rw [List.length_drop]; exact Nat.sub_le_sub_left (Nat.min_le_left _ _) _)).symm
 ·exact (List.drop_take ..).trans (List.take_eq_take_iff.mpr (by rw [List.length_drop]; exact min_sub_min a b l.length))
theorem part_eval {e : E} (he : ET X k e) {sc : Scope} {nm : List (PySem.Str × Nat)} {env : Env} {o : Option PySem.Expr} {ρ : List V} {σ : AHeap} {Q : V → AHeap → Prop} {A : Around} {s : Shared}
  (hm : optE (matE sc nm e) (isNoneE e) o = true) (hq : wpE X k e ρ σ Q) (R : Room k A) (S : St X N σ s) (F : FrOk X N sc nm env ρ σ s.heap) : wpAny (model X.prog X.w) A (evalPart o env) (PostE X N σ s Q) NoE s :=
 Option.casesOn (motive := fun o => optE (matE sc nm e) (isNoneE e) o = true → wpAny (model X.prog X.w) A (evalPart o env) (PostE X N σ s Q) NoE s) o
  (fun h => E.none.elim (motive_1 := fun e => wpE X k e ρ σ Q → wpAny (model X.prog X.w) A (evalPart none env) (PostE X N σ s Q) NoE s) e (eq_of_beq h) (fun hq => wpAny_pure (.here S .none hq)) hq) (fun _ h => he h hq R S F) hm
inductive Bd (vl vh : Value) (a : Nat) (b : Option Nat) : Prop
 | mk (la lb : Option Int) (pl : IsPart vl la) (ph : IsPart vh lb) (e1 : ∀ n, la.elim 0 (clipAt n) = min a n) (e2 : ∀ n, lb.elim n (clipAt n) = match b with | none => n | some b => min b n) : Bd vl vh a b
theorem bnd_inv {P : Prop} {lo hi : V} {Q : Nat → Option Nat → Prop} {σ : AHeap} {h : Heap} {vl vh : Value} (b : bndP lo hi Q) (x : VRel (hid N σ) h lo vl) (y : VRel (hid N σ) h hi vh) (k : ∀ a b, Bd vl vh a b → Q a b → P) : P := by
 rcases lo with _ | _ | _ | _ | _ | _ | _ | _ | _ <;> first | exact b.elim | skip
 ·rcases hi with _ | _ | _ | _ | _ | _ | _ | _ | _ <;> first | exact b.elim | skip
  ·exact k 0 none (by rw [x.none_inv,y.none_inv]; exact ⟨none, none, .none, .none, fun n => (Nat.zero_min n).symm, fun _ => rfl⟩) b
  ·exact k 0 _ (by rw [x.none_inv]; exact y.int_inv.elim fun _ e => e ▸ ⟨none, some _, .none, .int _ _, fun n => (Nat.zero_min n).symm, fun n => clip_nonneg n _ b.1⟩) b.2
 ·rcases hi with _ | _ | _ | _ | _ | _ | _ | _ | _ <;> first | exact b.elim | skip
  ·exact k _ none (by rw [y.none_inv]; exact x.int_inv.elim fun _ e => e ▸ ⟨some _, none, .int _ _, .none, fun n => clip_nonneg n _ b.1, fun _ => rfl⟩) b.2
  ·exact k _ _ (x.int_inv.elim fun _ e => y.int_inv.elim fun _ e' => e ▸ e' ▸ ⟨some _, some _, .int _ _, .int _ _, fun n => clip_nonneg n _ b.1, fun n => clip_nonneg n _ b.2.1⟩) b.2.2
theorem VRels.cut {σ : AHeap} {h : Heap} {l : List V} {vs : List Value} (x : VRels (hid N σ) h l vs) (a : Nat) (b : Option Nat) : VRels (hid N σ) h (cut l a b) (cut vs a b) :=
 Option.casesOn (motive := fun b => VRels (hid N σ) h (Mine.cut l a b) (Mine.cut vs a b)) b (x.drop a) fun b => (x.take b).drop a
theorem drop_length_le {α : Type} (l : List α) (a : Nat) : (l.drop a).length ≤ l.length := List.length_drop ▸ Nat.sub_le _ _
theorem cut_length_le {α : Type} (l : List α) (a : Nat) (b : Option Nat) : (cut l a b).length ≤ l.length :=
 Option.casesOn (motive := fun b => (cut l a b).length ≤ l.length) b (drop_length_le l a) fun b => Nat.le_trans (drop_length_le _ a) (List.length_take_le' b l)
theorem slice_obj {σ : AHeap} {s : Shared} (S : St X N σ s) (ob : Obj) : St X N σ { s with heap := s.heap.push ob } ∧ Step X σ s σ { s with heap := s.heap.push ob } := ⟨S.grow (tk := s.toks) (Grow.push _ _), .grow (tk := s.toks) (Grow.push _ _)⟩
theorem slice_tail {u lo hi : V} {o vl vh : Value} {value : PySem.Expr} {l' h' : Option PySem.Expr} {p : Pos} {σ : AHeap} {s : Shared} {A : Around} {Q : V → AHeap → Prop} (S : St X N σ s) (x : VRel (hid N σ) s.heap u o) (xl : VRel (hid N σ) s.heap lo vl) (xh : VRel (hid N σ) s.heap hi vh)
  (h : sliceP u lo hi σ fun r => Q r σ) :
  wpAny (model X.prog X.w) A (subscriptTail value (.Slice l' h' none p) o (.ref s.heap.objs.size)) (PostE X N σ s Q) NoE { s with heap := s.heap.push { cls := .type "slice", data := .fields #[vl, vh, .none] } } := by
 refine bnd_inv h xl xh fun a b B h => B.rec fun la lb pl ph e1 e2 => ?_
 have Z := slice_obj S { cls := .type "slice", data := .fields #[vl, vh, .none] }
 refine upE S Z.2 ?_
 have x' := x.up (Z.2.up S)
 have cutE : ∀ {α : Type} (vs : Array α), (vs.toList.drop (la.elim 0 (clipAt vs.size))).take ((lb.elim vs.size (clipAt vs.size)) - la.elim 0 (clipAt vs.size)) = cut vs.toList a b := fun vs => by rw [e1,e2,cut_eq]; rfl
 generalize hob : ({ cls := .type "slice", data := .fields #[vl, vh, .none] } : Obj) = ob at Z x' ⊢
 have lists : ∀ l, asList σ u = some l → Q (.list (cut l a b)) σ → wpAny (model X.prog X.w) A (subscriptTail value (.Slice l' h' none p) o (.ref s.heap.objs.size)) (PostE X N σ { s with heap := s.heap.push ob } Q) NoE { s with heap := s.heap.push ob } := fun l e hq =>
  Z.1.aslist o e x' fun c vs i1 i2 i3 => tail_any (Heap.IsList.typeIs (s := { s with heap := s.heap.push ob }) i1.isList) list_getitem_lookup
   (wpAny_getItem_list_slice i1.isList (hob ▸ Heap.IsSliceOf.new ..) pl ph .none (fun e => nomatch e) (by
    rw [slicePick_plain,cutE vs]
    exact newList_end (new := false) Z.1 (tk := s.toks) (Grow.push _ _) (get_ge_none (Nat.le_refl _)) ⟨_, Heap.get?_push_size _ rfl⟩ (i3.cut a b) ⟨Nat.le_trans (cut_length_le l a b) (i3.length ▸ i2), hq⟩) (size_line _ i2)) rfl
 have byt : ∀ (l : List Nat), VRel (hid N σ) (s.heap.push ob) (.bytes l) o → Q (.bytes (cut l a b)) σ → wpAny (model X.prog X.w) A (subscriptTail value (.Slice l' h' none p) o (.ref s.heap.objs.size)) (PostE X N σ { s with heap := s.heap.push ob } Q) NoE { s with heap := s.heap.push ob } := fun l x' h =>
  x'.bytes_inv.elim fun b' y => y.elim fun t y => y.1 ▸ tail_any (typeIs_bytes _ b' t) FB.slot_bytes_getitem.lookup
    (getItem_meets (typeIs_bytes _ _ _) (by decide) FB.slot_bytes_getitem FB.entry_bytes_getitem (FB.args_bytes_getitem_2 _ _) (KBc.meets_slice2 b' t _ pl ph)
     (have ep : KBy.picked b' la lb = (cut b'.toList a b).toArray := by rw [KBc.picked_eq,cutE b']
     have hz : (cut b'.toList a b).length ≤ 1000 := Nat.le_trans (cut_length_le _ a b) y.2.2
     ⟨hob ▸ Heap.IsSliceOf.new _ _ _ _, size_line _ (ep ▸ hz), fun t' k => ep ▸ .tok Z.1 (.bytes (y.2.1 ▸ (by cases b <;> simp [Mine.cut,List.map_take,List.map_drop])) hz) h⟩)) rfl
 exact byP.inv (P := fun u => VRel (hid N σ) (s.heap.push ob) u o → _) u h (fun l h x' => byt l x' h) (fun _ h _ => h.inv lists) x'
@[elab_as_elim] theorem vNoneOpt_inv {α : Type} {P : Option α → Prop} (o : Option α) (h : vNoneOpt o = true) (k : P none) : P o := Option.casesOn (motive := fun o => vNoneOpt o = true → P o) o (fun _ => k) (fun _ h => (Bool.false_ne_true h).elim) h
@[elab_as_elim] theorem vSomeOpt_inv {α : Type} {f : α → Bool} {P : Option α → Prop} (o : Option α) (h : vSomeOpt f o = true) (k : ∀ a, f a = true → P (some a)) : P o := Option.casesOn (motive := fun o => vSomeOpt f o = true → P o) o (fun h => (Bool.false_ne_true h).elim) k h
theorem ET.slice {a lo hi : E} (ha : ET X k a) (hl : ET X k lo) (hh : ET X k hi) : ET X k (.slice a lo hi) := fun {_ _ _ _ x _ _ _ _ _} hm hq R S F => vSub_inv x hm fun _ sl _ hm => vSlice_inv sl hm fun _ _ st _ hm => vNoneOpt_inv st (a2 hm).1 (have m := a2 (a2 hm).2
 Subscript_ (seqE (ha m.1 hq R S F) fun _ _ _ _ S₁ T₁ V₁ h₁ => wpAny_Slice (seqE (part_eval hl (a2 m.2).1 h₁ R S₁ (F.step S S₁ T₁)) fun _ _ _ _ S₂ T₂ V₂ h₂ =>
  have T := T₁.trans T₂ S.gfree S₂.gfree
  seqE (part_eval hh (a2 m.2).2 h₂ R S₂ (F.step S S₂ T)) fun _ _ _ _ S₃ T₃ V₃ h₃ => wpAny_pure (upE S (T.trans T₃ S.gfree S₃.gfree) (slice_tail S₃ ((V₁.up (T₂.up S₁)).up (T₃.up S₂)) (V₂.up (T₃.up S₂)) V₃ h₃)))))
end
end Mine
end

section
open PySem PySem.Calls PyProof.Rows PySem.W
set_option maxRecDepth 20000
namespace Mine
variable {N : Hid}
section
variable {X : Cx} {k : Nat}
section
open Builtin
theorem rev_picked (b : Array UInt8) : Bytes.sliced b (sliceBounds none none (some (-1)) b.size).1 (sliceBounds none none (some (-1)) b.size).2.1 (sliceBounds none none (some (-1)) b.size).2.2 = b.toList.reverse.toArray := by
 rw [krv_bounds]
 show ((sliceRange ((b.size : Int) - 1) (-1) (-1)).filterMap (b[·]?)).toArray = _
 rw [krv_sliceRange,krv_range,List.filterMap_reverse,krv_all]
set_option maxRecDepth 100000 in
theorem meets_rev (b : Array UInt8) (t : Tok) (a : Addr) (tk : Tok) :
  Meets («bytes.__getitem__» ⟨[.bytes b t, .ref a], []⟩) (fun _ R s => s.heap.IsSliceOf a .none .none (.int (-1) tk) ∧ b.size ≤ sizeLine ∧ ∀ t' k, R (.ok (.ret (.bytes b.toList.reverse.toArray t'))) { s with toks := k }) := by
 refine .of_wp fun prog w A R s hS => ?_
 obtain ⟨⟨o, ho, hc, hd⟩, hsz, h⟩ := hS
 have hT : s.TypeIs (.ref a) "slice" := ⟨o, ho, hc⟩
 show wpAny _ _ (Bytes.payload (.bytes b t) >>= fun r => _) _ _ s
 refine wpAny_bind (wpAny_of_eq (a := b) rfl ?_)
 show wpAny _ _ (Bytes.subscript? (.ref a) >>= fun r => _) _ _ s
 refine wpAny_bind ?_
 unfold Bytes.subscript?
 refine wpAny_bind (wpAny_specialOf hT slice_no_index (wpAny_pure ?_))
 refine wpAny_bind (wpAny_typeOf hT ?_)
 show wpAny _ _ (Bytes.sliceParts (.ref a) >>= fun r => _) _ _ s
 refine wpAny_bind ?_
 unfold Bytes.sliceParts
 refine wpAny_bind (wpAny_field (x := .int (-1) tk) ho hd rfl ?_)
 refine wpAny_bind (wpAny_ite (KBy.ite_no (show ¬ ((Value.int _ _ == Value.none) = true) from Bool.false_ne_true) ?_))
 refine wpAny_bind (wpAny_specialOf (T := "int") (typeIs_int _ _ _) F.slot_int_index.lookup ?_)
 refine wpAny_ite (KBy.ite_no (show ¬ (Option.isNone (some _) = true) from Bool.false_ne_true) ?_)
 refine wpAny_bind (wpAny_of_eq rfl (wpAny_pure ?_))
 refine wpAny_ite (KBy.ite_no (show ¬ ((rawInt (-1) == rawInt 0) = true) by decide) ?_)
 refine wpAny_bind (wpAny_field (x := .none) ho hd rfl ?_)
 refine wpAny_bind (wpAny_of_eq (a := Value.none) rfl ?_)
 refine wpAny_bind (wpAny_field (x := .none) ho hd rfl ?_)
 refine wpAny_bind (wpAny_of_eq (a := Value.none) rfl ?_)
 refine wpAny_pure ?_
 have go : wpAny (model prog w) A.in1 (sliceIndices (rawPart none) (rawPart none) (rawPart (some (-1))) b.size) (fun r s' => r = sliceBounds none none (some (-1)) b.size ∧ s' = s) (fun _ _ => False) s :=
  wpAny_of_eq (sliceIndices_raw none none (some (-1)) b.size (by decide)) ⟨rfl, rfl⟩
 refine wpAny_bind (wpAny_mono go (fun r s' hr => ?_) fun _ _ e => e.elim)
 obtain ⟨hr1, hr2⟩ := hr
 subst hr1 hr2
 have hn : ¬ (((sliceBounds none none (some (-1)) b.size).1 == 0 && (sliceBounds none none (some (-1)) b.size).2.2 == 1 && (sliceBounds none none (some (-1)) b.size).2.1 == b.size && !b.isEmpty) = true) := by
  rw [krv_bounds]; simp
 refine wpAny_ite (KBy.ite_no hn ?_)
 rw [← rev_picked] at h
 have hz : (Bytes.sliced b (sliceBounds none none (some (-1)) b.size).1 (sliceBounds none none (some (-1)) b.size).2.1 (sliceBounds none none (some (-1)) b.size).2.2).size ≤ sizeLine := by rw [rev_picked]; simpa using hsz
 exact wpAny_bind (wpAny_mkBytes (wpAny_pure ⟨_, rfl, h _ _⟩) hz)
end
theorem rev_tail {u : V} {o : Value} {tk : Tok} {value e : PySem.Expr} {p : Pos} {σ : AHeap} {s : Shared} {A : Around} {Q : V → AHeap → Prop} (S : St X N σ s) (x : VRel (hid N σ) s.heap u o) (h : revP u σ fun r => Q r σ) :
  wpAny (model X.prog X.w) A (subscriptTail value (.Slice none none (some e) p) o (.ref s.heap.objs.size)) (PostE X N σ s Q) NoE { s with heap := s.heap.push { cls := .type "slice", data := .fields #[.none, .none, .int (-1) tk] } } := by
 have Z := slice_obj S { cls := .type "slice", data := .fields #[.none, .none, .int (-1) tk] }
 refine upE S Z.2 ?_
 have x' := x.up (Z.2.up S)
 generalize hob : ({ cls := .type "slice", data := .fields #[.none, .none, .int (-1) tk] } : Obj) = ob at Z x' ⊢
 have lists : ∀ l, asList σ u = some l → Q (.list l.reverse) σ → wpAny (model X.prog X.w) A (subscriptTail value (.Slice none none (some e) p) o (.ref s.heap.objs.size)) (PostE X N σ { s with heap := s.heap.push ob } Q) NoE { s with heap := s.heap.push ob } := fun l e hq =>
  Z.1.aslist o e x' fun c vs i1 i2 i3 => tail_any (Heap.IsList.typeIs (s := { s with heap := s.heap.push ob }) i1.isList) list_getitem_lookup
   (wpAny_getItem_list_slice i1.isList (hob ▸ Heap.IsSliceOf.new ..) .none .none (.int _ _) (by decide) (by
    rw [krv_pick]
    exact newList_end (new := false) Z.1 (tk := s.toks) (Grow.push _ _) (get_ge_none (Nat.le_refl _)) ⟨_, Heap.get?_push_size _ rfl⟩ i3.reverse ⟨by rw [List.length_reverse,i3.length]; exact i2, hq⟩) (size_line _ i2)) rfl
 have byt : ∀ (l : List Nat), VRel (hid N σ) (s.heap.push ob) (.bytes l) o → Q (.bytes l.reverse) σ → wpAny (model X.prog X.w) A (subscriptTail value (.Slice none none (some e) p) o (.ref s.heap.objs.size)) (PostE X N σ { s with heap := s.heap.push ob } Q) NoE { s with heap := s.heap.push ob } := fun l x' h =>
  x'.bytes_inv.elim fun b' y => y.elim fun t y => y.1 ▸ tail_any (typeIs_bytes _ b' t) FB.slot_bytes_getitem.lookup
    (getItem_meets (typeIs_bytes _ _ _) (by decide) FB.slot_bytes_getitem FB.entry_bytes_getitem (FB.args_bytes_getitem_2 _ _) (meets_rev b' t _ tk)
     ⟨hob ▸ Heap.IsSliceOf.new _ _ _ _, size_line _ y.2.2, fun t' k => .tok Z.1 (.bytes (y.2.1 ▸ List.map_reverse) (by rw [List.size_toArray,List.length_reverse]; exact y.2.2)) h⟩) rfl
 exact byP.inv (P := fun u => VRel (hid N σ) (s.heap.push ob) u o → _) u h (fun l h x' => byt l x' h) (fun _ h _ => h.inv lists) x'
theorem ET.rev {a : E} (ha : ET X k a) : ET X k (.rev a) := fun {_ _ _ _ x _ _ _ _ _} hm hq R S F => vSub_inv x hm fun _ sl _ hm => vSlice_inv sl hm fun lo hi st _ hm => vNoneOpt_inv lo (a2 hm).1 (vNoneOpt_inv hi (a2 (a2 hm).2).1 (vSomeOpt_inv st (a2 (a2 hm).2).2 fun st hm => vNeg_inv st hm fun n _ _ _ hm => (eq_of_beq (a2 hm).1).symm ▸
 Subscript_ (seqE (ha (a2 hm).2 hq R S F) fun _ s₁ _ σ₁ S₁ T₁ V₁ h₁ => wpAny_Slice (wpAny_pure (wpAny_pure (evalPart_some _ _ ▸ wpAny_UnaryOp (wpAny_Constant_int (neg_int
  (upE S (T₁.trans (Step.tok (X := X) (σ := σ₁) (s := s₁) (s₁.toks + 1 + 1)) S.gfree S₁.gfree) (rev_tail (S₁.tok (s₁.toks + 1 + 1)) V₁ h₁))))))))))
theorem an_inj : ∀ i j : Nat, i < 30 → j < 30 → an i = an j → i = j := by
 have h : ∀ i : Fin 30, ∀ j : Fin 30, an i.1 = an j.1 → i.1 = j.1 := by decide +kernel
 exact fun i j hi hj e => h ⟨i, hi⟩ ⟨j, hj⟩ e
theorem look_one {τ : AHeap} {h : Heap} {n k : Nat} {v : V} {val : Value} {t : Tok} {fs : List (Nat × V)} {es : List DictEntry} (hn : n < 30) (hk : k < 30) (y : VRel τ h v val)
  (ih : (∀ v, fs.lookup n = some v → ∃ val, getL (an n) es = some (some val) ∧ VRel τ h v val) ∧ (fs.lookup n = none → getL (an n) es = some none)) :
  (∀ w, ((k, v) :: fs).lookup n = some w → ∃ u, getL (an n) (⟨PyData.keyHash X.w.params (an k), .str (an k) t, val⟩ :: es) = some (some u) ∧ VRel τ h w u) ∧ (((k, v) :: fs).lookup n = none → getL (an n) (⟨PyData.keyHash X.w.params (an k), .str (an k) t, val⟩ :: es) = some none) := by
 by_cases e : k = n
 ·subst e
  have key : getL (an k) (⟨PyData.keyHash X.w.params (an k), .str (an k) t, val⟩ :: es) = some (some val) := by (unfold getL; simp [Value.isStr])
  rw [key,List.lookup_cons,beq_self_eq_true]
  exact ⟨fun w q => ⟨val, rfl, Option.some.inj q ▸ y⟩, fun q => nomatch q⟩
 ·have ne : ¬ (an k = an n) := fun q => e (an_inj _ _ hk hn q)
  have hb : (Value.str (an k) t).isStr (an n) = false := by simp [Value.isStr,ne]
  have hr : DictEntry.refKey ⟨PyData.keyHash X.w.params (an k), .str (an k) t, val⟩ = false := rfl
  have key : getL (an n) (⟨PyData.keyHash X.w.params (an k), .str (an k) t, val⟩ :: es) = getL (an n) es := by unfold getL; simp only [List.find?_cons,hb,List.any_cons,hr,Bool.false_or]
  rw [key,List.lookup_cons,beq_false_of_ne (Ne.symm e)]
  exact ih
theorem FRel.look {σ : AHeap} {h : Heap} {n : Nat} (hn : n < 30) {fs : List (Nat × V)} {es : List DictEntry} (x : FRel X (hid N σ) h fs es) : (∀ p ∈ fs, p.1 < 30) →
  (∀ v, fs.lookup n = some v → ∃ val, getL (an n) es = some (some val) ∧ VRel (hid N σ) h v val) ∧ (fs.lookup n = none → getL (an n) es = some none) :=
 x.ind (P := fun fs es => (∀ p ∈ fs, p.1 < 30) → (∀ v, fs.lookup n = some v → ∃ val, getL (an n) es = some (some val) ∧ VRel (hid N σ) h v val) ∧ (fs.lookup n = none → getL (an n) es = some none)) (fun _ => ⟨fun v e => (nos rfl e).elim, fun _ => rfl⟩)
  fun _ _ _ _ _ _ y _ ih hk => look_one hn (hk _ List.mem_cons_self) y (ih fun p hp => hk p (List.mem_cons_of_mem _ hp))
end
end Mine
end

section
open PySem PySem.Calls PyProof.Rows PySem.W
set_option maxRecDepth 20000
namespace Mine
variable {N : Hid}
section
variable {X : Cx} {k : Nat}
theorem base_cases {P : PySem.Expr → Prop} {l : PySem.Expr} (h : baseOk l = true) (k1 : ∀ a b, P (.Name a b)) (k2 : ∀ a b c, P (.Attribute a b c)) : P l :=
 (o2 h).elim (fun e => PySem.Expr.Name.elim (motive_1 := P) l (eq_of_beq e) k1) fun e => PySem.Expr.Attribute.elim (motive_1 := P) l (eq_of_beq e) k2
theorem base_eval {l : PySem.Expr} (h : baseOk l = true) (t : PySem.Str) (pos : Pos) (env : Env) : eval (.Attribute l t pos) env = (do
   let o ← eval l env
   standAt pos.atName
   let r ← holding [o] (getAttr o t true)
   letTemporaryGo l o r
   pure r) := base_cases (P := fun l => eval (.Attribute l t pos) env = (eval l env >>= fun o => standAt pos.atName >>= fun _ => holding [o] (getAttr o t true) >>= fun r => letTemporaryGo l o r >>= fun _ => pure r)) h (fun _ _ => rfl) fun _ _ _ => rfl
theorem base_attr {l : PySem.Expr} (h : baseOk l = true) (t : PySem.Str) (env : Env) : attributeBase l t env (eval l env) = eval l env := base_cases (P := fun l => attributeBase l t env (eval l env) = eval l env) h (fun _ _ => rfl) fun _ _ _ => rfl
inductive InstOk (X : Cx) (N : Hid) (σ : AHeap) (h : Heap) (a C : Addr) (fs : List (Nat × V)) : Prop
 | mk (dx : Addr) (es : List DictEntry) (n : Nat) (sub : σ dx = some (.sub a)) (at_ : InstAt h a (instObj C dx) C (some (dictOf es n))) (obj : h.get? a = some (instObj C dx)) (dic : h.get? dx = some (dictOf es n))
  (rel : FRel X (hid N σ) h fs es) (cls : C ∈ clsL) (len : fs.length ≤ 100) (lt : ∀ p ∈ fs, p.1 < 14) : InstOk X N σ h a C fs
theorem inst_at {σ : AHeap} {s : Shared} (S : St X N σ s) {a : Addr} {C : Addr} {fs : List (Nat × V)} (e : σ a = some (.inst C fs)) : InstOk X N σ s.heap a C fs :=
 (S.objs _ _ e).elim fun dx y => y.elim fun es y => y.elim fun n y => ⟨dx, es, n, (hid_sub.mp y.2.1).2, ⟨y.1, rfl, rfl, y.2.2.1⟩, y.1, y.2.2.1, y.2.2.2.1, y.2.2.2.2.1, y.2.2.2.2.2.1, y.2.2.2.2.2.2⟩
theorem handed_rel {τ : AHeap} {h : Heap} {v : V} {val : Value} (x : VRel τ h v val) : v ≠ .undef → handedIn val = true :=
 VRel.casesOn (motive_1 := fun v val _ => v ≠ .undef → handedIn val = true) x (fun h => (h rfl).elim) (fun _ => rfl) (fun _ => rfl) (fun _ => rfl) (fun _ => rfl) (fun _ _ _ => rfl) (fun _ _ _ _ _ => rfl) (fun _ _ _ _ _ => rfl) (fun _ => rfl)
theorem get_attr (B : Base X) {a : Addr} {n : Nat} {v : V} {C : Addr} {fs : List (Nat × V)} {σ : AHeap} {s : Shared} {A : Around} {Q : V → AHeap → Prop} (S : St X N σ s) (e : σ a = some (.inst C fs)) (hn : n < 14) (hv : fs.lookup n = some v) (hu : v ≠ .undef) (hq : Q v σ) :
  wpAny (model X.prog X.w) A (getAttr (.ref a) (an n) true) (PostE X N σ s Q) NoE s :=
 (inst_at S e).rec fun _ _ _ _ I _ _ y hc _ hp => ((y.look (Nat.lt_trans hn (by decide)) (fun p hp' => Nat.lt_trans (hp p hp') (by decide))).1 v hv).elim fun _ z => have c := B.cls C hc
  get_value (B.inK.keeps S.keep) I (plainGet_of c.2.1).1 (findObj_own c.1 (B.attrs C hc n hn).1 rfl (lookIn_dict .. ▸ z.1)) (handed_rel z.2 hu) (.tok S z.2 hq)
theorem ET.attr (B : Base X) {a : E} {n : Nat} (ha : ET X k a) : ET X k (.attr a n) := fun {_ _ _ _ x _ _ _ _ _} hm hq R S F => vAttr_inv x hm fun _ _ _ hm => (eq_of_beq (a2 hm).1).symm ▸ have m := a2 (a2 hm).2
 Attribute_any_ (seqE (ha (a2 m.2).2 hq R S F) fun val _ u _ S₁ T₁ V₁ h₁ => refP.inv (P := fun u => VRel _ _ u val → _) u h₁ (fun _ h V₁ => V₁.toRef val (h.inv fun _ _ e h => (getP_inv h).elim fun _ y =>
  upE S T₁ (get_attr B S₁ e (of_decide_eq_true m.1) y.1 y.2.1 y.2.2))) V₁) (base_eval (a2 m.2).1 _ _ _)
theorem get_cattr (B : Base X) {a : Addr} {n : Nat} {v : V} {val : Value} {fs : List (Nat × V)} {σ : AHeap} {s : Shared} {A : Around} {Q : V → AHeap → Prop} (S : St X N σ s) (e : σ a = some (.inst 307 fs)) (hn : n < 30) (hv : fs.lookup n = none)
  (h1 : findIn X.K (.ref 307) (an n) = some (some val)) (h2 : specialIn X.K val "__get__" = some none) (h3 : handedIn val = true) (h4 : copiedNames.contains (an n) = false) (r : VRel (hid N σ) s.heap v val) (hq : Q v σ) :
  wpAny (model X.prog X.w) A (getAttr (.ref a) (an n) true) (PostE X N σ s Q) NoE s :=
 (inst_at S e).rec fun _ _ _ _ I _ _ y hc _ hp => have hg := (y.look hn (fun p hp' => Nat.lt_trans (hp p hp') (by decide))).2 hv
  get_value (B.inK.keeps S.keep) I (plainGet_of (B.cls 307 hc).2.1).1 (findObj_cls (B.cls 307 hc).1 h1 h2 h3 h4 (lookIn_dict .. ▸ hg)) h3 (.tok S r hq)
theorem cattr {a : E} (ha : ET X k a) {n : Nat} {w : V} {N : Hid} {sc : Scope} {nm : List (PySem.Str × Nat)} {env : Env} {x : PySem.Expr} {ρ : List V} {σ : AHeap} {Q : V → AHeap → Prop} {A : Around} {s : Shared}
  (hm : vAttr (fun l t _ => t == an n && (baseOk l && matE sc nm a l)) x = true) (hq : wpE X k a ρ σ fun u σ₁ => cattrP u n w σ₁ fun r => Q r σ₁) (R : Room k A) (S : St X N σ s) (F : FrOk X N sc nm env ρ σ s.heap)
  (g : ∀ {c : Addr} {fs σ₁ s₁}, St X N σ₁ s₁ → σ₁ c = some (.inst 307 fs) → fs.lookup n = none → Q w σ₁ → wpAny (model X.prog X.w) A (getAttr (.ref c) (an n) true) (PostE X N σ₁ s₁ Q) NoE s₁) : wpAny (model X.prog X.w) A (eval x env) (PostE X N σ s Q) NoE s :=
 vAttr_inv x hm fun _ _ _ hm => (eq_of_beq (a2 hm).1).symm ▸ have m := a2 (a2 hm).2
 Attribute_any_ (seqE (ha m.2 hq R S F) fun val _ u _ S₁ T₁ V₁ h₁ => refP.inv (P := fun u => VRel _ _ u val → _) u h₁ (fun _ h V₁ => V₁.toRef val (h.inv fun _ _ e h => upE S T₁ (g S₁ (h.1 ▸ e) h.2.1 h.2.2))) V₁) (base_eval m.1 _ _ _)
theorem ET.layers (B : Base X) {a : E} (ha : ET X k a) : ET X k (.layers a) := fun {N _ _ _ _ _ _ _ _ _} hm hq R S F => cattr ha hm hq R S F fun {_ _ σ₁ s₁} S₁ e hv hq' =>
 B.layers.elim fun o y => y.2.2.1.elim fun n z => z.elim fun t z => z.elim fun u z => have ho := B.inK _ _ y.1
 have r : VRel (hid N σ₁) s₁.heap (.tup [.int 2, .int 3]) (.ref 284) := .tup (S₁.hnone_of_H0 ho) ⟨o, S₁.keep _ _ ho, y.2.1, n, z⟩ (show 2 ≤ 1000 by decide) (.cons .int (.cons .int .nil))
 get_cattr B S₁ e (by decide) hv y.2.2.2.1 y.2.2.2.2 rfl (by decide +kernel) r hq'
theorem ET.treesize (B : Base X) {a : E} (ha : ET X k a) : ET X k (.treesize a) := fun {_ _ _ _ _ _ _ _ _ _} hm hq R S F => cattr ha hm hq R S F fun S₁ e hv hq' =>
 B.treesize.elim fun _ y => get_cattr B S₁ e (by decide) hv y.1 y.2 rfl (by decide +kernel) .int hq'
theorem del_elim {P : Addr → AObj → Prop} {σ : AHeap} {c : Addr} (h2 : ∀ b o', b ≠ c → σ b = some o' → P b o') (b : Addr) (o' : AObj) (q : del σ c b = some o') : P b o' :=
 (Decidable.em (b = c)).elim (fun z => (nos del_self (z ▸ q)).elim) fun z => h2 b o' z ((del_ne z).symm.trans q)
theorem del_none {σ : AHeap} {c b : Addr} (q : σ b = none) : del σ c b = none := none_of fun _ e => del_elim (P := fun b _ => σ b = none → False) (fun _ _ _ e q => nos q e) b _ e q
theorem ne_objs {σ : AHeap} {a b : Addr} {x y : AObj} (e : σ a = some x) (e' : σ b = some y) (h : x ≠ y) : a ≠ b := fun q => h (Option.some.inj (e.symm.trans ((congrArg σ q).trans e')))
theorem St.freeze {σ : AHeap} {s : Shared} (S : St X N σ s) {c : Addr} {l : List V} (e : σ c = some (.list l)) : St X N (del σ c) s ∧ Step X σ s (del σ c) s ∧ VRel (Mine.hid N (del σ c)) s.heap (.list l) (.ref c) :=
 have u : Up X.G (Mine.hid N σ) s.heap (Mine.hid N (del σ c)) s.heap := ⟨fun b o n e q => ⟨e, hid_none.mpr ⟨(hid_none.mp q).1, del_none (hid_none.mp q).2⟩⟩, S.ns⟩
 ⟨⟨S.keep, del_elim fun b o _ q => S.fresh b o q, del_elim fun b o _ q => (S.objs b o q).up u (fun _ e => e) fun dx z => ⟨hid_sub.mpr ⟨(hid_sub.mp z).1, (del_ne (ne_objs (hid_sub.mp z).2 e fun y => nomatch y)).trans (hid_sub.mp z).2⟩, fun _ e => e⟩,
  del_elim fun b o _ q => S.live b o q, S.ns, del_none S.gfree, S.gH0, fun a o q => ⟨del_none (S.hids a o q).1, (S.hids a o q).2⟩⟩,
  ⟨fun _ _ _ e _ => e, fun _ n => n, fun b o q q' => (nos (del_none q) q').elim, fun _ o e => ⟨o, e⟩, s.heap, s.toks, rfl⟩,
  (S.objs _ _ e).elim fun _ y => .list (hid_none.mpr ⟨S.hid_tracked e, del_self⟩) y.1 y.2.1 (y.2.2.up u)⟩
theorem ET.frz {a : E} (ha : ET X k a) : ET X k (.frz a) := fun {_ _ _ _ _ _ _ _ _ _} hm hq R S F => seqE (ha hm hq R S F) fun val _ u _ S₁ T₁ V₁ h₁ => refP.inv (P := fun u => VRel _ _ u val → _) u h₁ (fun _ h V₁ => V₁.toRef val (h.inv fun _ e h => have z := S₁.freeze e
 ⟨_, _, z.1, T₁.trans z.2.1 S.gfree z.1.gfree, z.2.2, h⟩)) V₁
theorem ET.ndict : ET X k .ndict := fun {_ _ _ _ x _ _ _ A s} hm hq _ S _ => vDict_inv x hm fun ks vs _ hm => v0_inv ks (a2 hm).1 (v0_inv vs (a2 hm).2
 ((wpAny_bind (wpAny_standAt (wpAny_newObj_type (have hn := get_ge_none (Nat.le_refl _)
  have z := S.add (h' := s.heap.push { cls := .type "dict", data := .dict #[] }) (tk := s.toks) (o := .dict 0 fun _ => Option.none) (Grow.push _ _) hn (Heap.get?_push_size _ rfl) ⟨fun _ => Option.none, Heap.MapOf.new _, ⟨Heap.DictLe.new _, Nat.zero_le _⟩, fun _ => trivial⟩
  ⟨.ref _, _, z.1, z.2, .ref, hq _ (S.free_of_none hn)⟩) (Nat.zero_le _)))) : wpAny (model X.prog X.w) A (standAt _ >>= fun _ => newDict) _ _ s))
end
end Mine
end

section
open PySem PySem.Calls PyProof.Rows PySem.W
set_option maxRecDepth 20000
namespace Mine
variable {N : Hid}
section
variable {X : Cx} {k : Nat}
theorem backTo_cons (pos : Pos) (t : Sem Value) (r : List (Bool × Sem Value)) : backTo pos ((false, t) :: r) = (false, t) :: backTo pos r := rfl
theorem args_plain {sc : Scope} {nm : List (PySem.Str × Nat)} {pos : Pos} {env : Env} (es : Es) : ∀ xs, matEs sc nm es xs = true → (backTo pos (starEach xs env)).any (·.1) = false ∧ (backTo pos (starEach xs env)).all (fun x => !x.1) = true :=
 Es.rec (motive_1 := fun _ => True) (motive_2 := fun es => ∀ xs, matEs sc nm es xs = true → (backTo pos (starEach xs env)).any (·.1) = false ∧ (backTo pos (starEach xs env)).all (fun x => !x.1) = true) (motive_3 := fun _ => True) (motive_4 := fun _ => True)
  (fun _ => trivial) (fun _ => trivial) (fun _ => trivial) (fun _ => trivial) trivial (fun _ => trivial) trivial (fun _ _ _ _ _ => trivial) (fun _ _ _ _ _ => trivial) (fun _ _ _ _ _ _ _ _ => trivial) (fun _ _ _ => trivial) (fun _ _ _ _ => trivial) (fun _ _ _ _ => trivial) (fun _ _ => trivial) (fun _ _ _ _ _ _ => trivial) (fun _ _ _ _ => trivial) (fun _ _ => trivial) (fun _ _ _ _ _ _ => trivial) (fun _ _ => trivial) (fun _ _ _ => trivial) (fun _ _ => trivial) (fun _ _ => trivial) (fun _ _ => trivial) (fun _ _ => trivial) (fun _ _ => trivial) trivial (fun _ _ => trivial) (fun _ _ _ => trivial) (fun _ _ _ _ _ => trivial) (fun _ _ _ _ => trivial) (fun _ _ => trivial) (fun _ _ _ _ => trivial) (fun _ _ _ _ => trivial) (fun _ _ => trivial) (fun _ _ => trivial) (fun _ _ => trivial) (fun _ _ => trivial) (fun _ _ => trivial) (fun _ _ _ _ => trivial) (fun _ _ _ _ _ _ => trivial) (fun _ _ _ _ => trivial) (fun _ _ _ _ => trivial) (fun _ _ _ _ => trivial) (fun _ _ _ _ _ => trivial) (fun xs h => v0_inv xs h ⟨rfl, rfl⟩) (fun _ _ _ ih xs h => vc_inv xs h fun x xs h => star_of (a2 h).1 xs env ▸ ih xs (a2 h).2) (fun _ _ => trivial) (fun _ _ => trivial) (fun _ _ _ _ => trivial) (fun _ _ _ _ _ _ => trivial) trivial (fun _ _ _ _ _ _ _ => trivial) es
theorem evalArgs_E {es : Es} (h : EsT X k es) {sc : Scope} {nm : List (PySem.Str × Nat)} {env : Env} {xs : List PySem.Expr} {pos : Pos} {ρ : List V} {σ : AHeap} {Q : List V → AHeap → Prop} {A : Around} {s : Shared} {f : Value} {G : Args → Shared → Prop}
  (hm : matEs sc nm es xs = true) (hq : wpEs X k es ρ σ Q) (R : Room k A) (S : St X N σ s) (F : FrOk X N sc nm env ρ σ s.heap)
  (g : ∀ vals s₁ l σ₁, St X N σ₁ s₁ → Step X σ s σ₁ s₁ → VRels (hid N σ₁) s₁.heap l vals → Q l σ₁ → G ⟨vals, []⟩ s₁) :
  wpAny (model X.prog X.w) A (evalArgs f true (backTo pos (starEach xs env)) []) G NoE s :=
 have h1 := seqL (h (pos := pos) hm hq R S F) (G := fun vals s₁ => G ⟨vals, []⟩ s₁) g
 Es.casesOn (motive_2 := fun es => matEs sc nm es xs = true → wpEs X k es ρ σ Q → wpAny (model X.prog X.w) A (evalArgs f true (backTo pos (starEach xs env)) []) G NoE s) es
  (fun hm hq => v0_inv (P := fun xs => wpAny (model X.prog X.w) A (evalArgs f true (backTo pos (starEach xs env)) []) G NoE s) xs hm (evalArgs_nil3 (g [] s [] σ S (.refl ..) .nil hq)))
  (fun _ _ hm _ => vc_inv (P := fun xs => wpAny (model X.prog X.w) A (spliced (backTo pos (starEach xs env))) (fun vals s₁ => G ⟨vals, []⟩ s₁) NoE s → wpAny (model X.prog X.w) A (evalArgs f true (backTo pos (starEach xs env)) []) G NoE s) xs hm (fun x xs hm h1 => by
   rw [star_of (a2 hm).1,backTo_cons] at h1 ⊢
   exact evalArgs_plain h1) h1) hm hq
noncomputable def Kept (X : Cx) (f : Value) : Prop := ∀ h, X.K.In h → ∃ q, (q = Keeper.frame ∨ q = Keeper.machine ∨ q = Keeper.boundFrame) ∧ Looks (model X.prog X.w) h (keeperOf f) q
theorem kept_K {f : Value} (h : keepIn X.K f = true) : Kept X f := keeps_K h
theorem kept_b (id : String) : Kept X (.builtin id) := fun _ _ => ⟨.machine, .inr (.inl rfl), .now⟩
theorem kept_t (id : String) : Kept X (.type id) := fun _ _ => ⟨.machine, .inr (.inl rfl), .now⟩
theorem callWith_E (B : Base X) {es : Es} (h : EsT X k es) {sc : Scope} {nm : List (PySem.Str × Nat)} {env : Env} {xs : List PySem.Expr} {pos p2 : Pos} {ρ : List V} {σ : AHeap} {Q : List V → AHeap → Prop} {A : Around} {s : Shared} {f : Value} {first : List Value} {G : Value → Shared → Prop}
  (hk : Kept X f) (hm : matEs sc nm es xs = true) (hq : wpEs X k es ρ σ Q) (R : Room k A) (S : St X N σ s) (F : FrOk X N sc nm env ρ σ s.heap)
  (g : ∀ vals s₁ l σ₁, St X N σ₁ s₁ → Step X σ s σ₁ s₁ → VRels (hid N σ₁) s₁.heap l vals → Q l σ₁ → wpAny (model X.prog X.w) A (call f (first ++ vals)) G NoE s₁) :
  wpAny (model X.prog X.w) A (callWith p2 f first (backTo pos (starEach xs env)) []) G NoE s := by
 refine callWith_of (P := fun h => X.K.In h) (by rw [(args_plain _ _ hm).1]; rfl) hk (evalArgs_E h hm hq R S F fun vals s₁ l σ₁ S₁ T₁ V₁ h₁ => ⟨B.inK.keeps S₁.keep, ?_⟩)
 exact g vals s₁ l σ₁ S₁ T₁ V₁ h₁
theorem call_name (B : Base X) {es : Es} (h : EsT X k es) {sc : Scope} {nm : List (PySem.Str × Nat)} {env : Env} {xs : List PySem.Expr} {id : PySem.Str} {p pos : Pos} {ρ : List V} {σ : AHeap} {Q' : List V → AHeap → Prop} {Q : V → AHeap → Prop} {A : Around} {s : Shared} {f : Value}
  (hk : Kept X f) (hn : wpAny (model X.prog X.w) A (eval (.Name id p) env) (fun v s' => v = f ∧ s' = s) NoE s) (hm : matEs sc nm es xs = true) (hq : wpEs X k es ρ σ Q') (R : Room k A) (S : St X N σ s) (F : FrOk X N sc nm env ρ σ s.heap)
  (g : ∀ vals s₁ l σ₁, St X N σ₁ s₁ → VRels (hid N σ₁) s₁.heap l vals → Q' l σ₁ → wpAny (model X.prog X.w) A (call f vals) (PostE X N σ₁ s₁ Q) NoE s₁) :
  wpAny (model X.prog X.w) A (eval (.Call (.Name id p) xs [] pos) env) (PostE X N σ s Q) NoE s := by
 refine Call_Name rfl (wpAny_mono hn (fun v s' e => ?_) fun _ _ x => x)
 obtain ⟨rfl, rfl⟩ := e
 exact callWith_E B (first := []) h hk hm hq R S F fun vals s₁ l σ₁ S₁ T₁ V₁ h₁ => upE S T₁ (g vals s₁ l σ₁ S₁ V₁ h₁)
theorem ET.callf (B : Base X) {f : Nat} {es : Es} (h : EsT X k es) : ET X k (.callf f es) := fun {N _ _ _ x _ _ _ A _} hm hq R S F => vCall_inv x hm fun g _ ks _ hm => v0_inv ks (a2 hm).1 (vName_inv g (a2 hm).2 fun _ _ hm => have m := a2 (a2 hm).2; have i := isGlob_inv (a2 hm).1; have b := B.gl f (of_decide_eq_true m.1)
 call_name B h (kept_K b.2) (load_glob B S F i.2.1 i.2.2 (i.1 ▸ b.1) ⟨rfl, rfl⟩) m.2 hq R S F fun vals s₁ _ _ S₁ V₁ h₁ => h₁ N A s₁ vals R S₁ V₁)
theorem blt_call (B : Base X) {name : String} {f : Value} {es : Es} (h : EsT X k es) (hn : name ∈ (["len", "range", "min", "max", "list", "tuple", "bytes", "sorted"] : List String)) (hb : bootBuiltins (PySem.Str.ofString name) = some f)
  (hne : PySem.Str.ofString name ≠ "__name__") (hk : Kept X f)
  {sc : Scope} {nm : List (PySem.Str × Nat)} {env : Env} {xs : List PySem.Expr} {id : PySem.Str} {p pos : Pos} {ρ : List V} {σ : AHeap} {Q' : List V → AHeap → Prop} {Q : V → AHeap → Prop} {A : Around} {s : Shared}
  (m1 : isGlob sc id (PySem.Str.ofString name) = true) (hm : matEs sc nm es xs = true) (hq : wpEs X k es ρ σ Q') (R : Room k A) (S : St X N σ s) (F : FrOk X N sc nm env ρ σ s.heap)
  (g : ∀ vals s₁ l σ₁, St X N σ₁ s₁ → VRels (hid N σ₁) s₁.heap l vals → Q' l σ₁ → wpAny (model X.prog X.w) A (call f vals) (PostE X N σ₁ s₁ Q) NoE s₁) :
  wpAny (model X.prog X.w) A (eval (.Call (.Name id p) xs [] pos) env) (PostE X N σ s Q) NoE s := by
 have i := isGlob_inv m1
 exact call_name B h hk (load_blt B S F i.2.1 i.2.2 (i.1 ▸ B.blt _ hn) (i.1 ▸ hb) (i.1 ▸ hne) ⟨rfl, rfl⟩) hm hq R S F g
theorem EsT.one {a : E} (h : ET X k a) : EsT X k (.cons a .nil) := EsT.cons h EsT.nil
theorem EsT.two {a b : E} (h : ET X k a) (h' : ET X k b) : EsT X k (.cons a (.cons b .nil)) := EsT.cons h (EsT.one h')
theorem form_ok {es : Es} {sc : Scope} {nm : List (PySem.Str × Nat)} {env : Env} {xs : List PySem.Expr} {pos : Pos} (hm : matEs sc nm es xs = true) (hlen : xs.length < 30) : methodCallForm (xs.length + ([] : List Keyword).length) (backTo pos (starEach xs env)) (backToKw pos (keywordEach [] env)) = true := by
 show ((backTo pos (starEach xs env)).all (fun x => !x.1) && true && decide (xs.length < 30)) = true
 rw [(args_plain _ _ hm).2,decide_eq_true hlen]; rfl
theorem pos_ok {ob : PySem.Expr} {env : Env} {ap pos : Pos} (hl : (ap.endLine == pos.line) = true) : methodCallPos true ob env ap pos = pure pos := by unfold methodCallPos; simp [hl]
theorem call_dot (B : Base X) {o : E} {es : Es} (ho : ET X k o) (h : EsT X k es) {sc : Scope} {nm : List (PySem.Str × Nat)} {env : Env} {ob : PySem.Expr} {xs : List PySem.Expr} {t : PySem.Str} {ap pos : Pos} {ρ : List V} {σ : AHeap} {Q₁ : V → AHeap → Prop} {Q : V → AHeap → Prop} {A : Around} {s : Shared}
  (hb : baseOk ob = true) (hlen : xs.length < 30) (hl : (ap.endLine == pos.line) = true) (hmo : matE sc nm o ob = true) (hqo : wpE X k o ρ σ Q₁) (hm : matEs sc nm es xs = true) (R : Room k A) (S : St X N σ s) (F : FrOk X N sc nm env ρ σ s.heap)
  (g : ∀ u val s₁ σ₁, St X N σ₁ s₁ → VRel (hid N σ₁) s₁.heap u val → Q₁ u σ₁ → FrOk X N sc nm env ρ σ₁ s₁.heap → ∃ f first Q₂, Kept X f ∧ (∀ pl G', G' (f, first) s₁ → wpAny (model X.prog X.w) A (getMethod val t pl) G' NoE s₁) ∧ wpEs X k es ρ σ₁ Q₂ ∧
   (∀ vals s₂ l σ₂, St X N σ₂ s₂ → Step X σ₁ s₁ σ₂ s₂ → VRels (hid N σ₂) s₂.heap l vals → Q₂ l σ₂ → wpAny (model X.prog X.w) A (call f (first ++ vals)) (PostE X N σ₂ s₂ Q) NoE s₂)) :
  wpAny (model X.prog X.w) A (eval (.Call (.Attribute ob t ap) xs [] pos) env) (PostE X N σ s Q) NoE s := by
 rw [arm_eval_Call,base_attr hb]
 refine wpAny_bind (seqE (ho hmo hqo R S F) fun val s₁ u σ₁ S₁ T₁ V₁ h₁ => (g u val s₁ σ₁ S₁ V₁ h₁ (F.step S S₁ T₁)).elim fun f y => y.elim fun first y => y.elim fun Q₂ y => wpAny_bind (wpAny_standAt ?_))
 unfold methodCall
 rw [form_ok hm hlen]
 exact wpAny_bind (wpAny_holding (y.2.1 _ _ (wpAny_bind (wpAny_of_eq (pos_ok hl) (callWith_E B (first := first) h y.1 hm y.2.2.1 R S₁ (F.step S S₁ T₁) fun vals s₂ l σ₂ S₂ T₂ V₂ h₂ => upE S (T₁.trans T₂ S.gfree S₂.gfree) (y.2.2.2 vals s₂ l σ₂ S₂ T₂ V₂ h₂))))))
theorem meth_lt {C m f : Nat} (h : meth C m = some f) : m < 30 := by
 unfold meth at h
 obtain ⟨p, hp, _⟩ := Option.map_eq_some_iff.mp h
 have h3 : ∀ p ∈ methL, p.2.1 < 30 := by decide
 have h4 : (p.1 == C && p.2.1 == m) = true := List.find?_some (p := fun (p : Nat × Nat × Nat) => p.1 == C && p.2.1 == m) hp
 exact eq_of_beq (a2 h4).2 ▸ h3 p (List.mem_of_find?_eq_some hp)
@[elab_as_elim] theorem vMeth_inv {f} {P : PySem.Expr → Prop} (x : PySem.Expr) (h : vMeth f x = true) (k : ∀ b t ap as p, baseOk b = true → (ap.endLine == p.line) = true → f b t as = true → P (.Call (.Attribute b t ap) as [] p)) : P x :=
 vCall_inv x h fun g as ks p h => v0_inv ks (a2 h).1 (vAttr_inv g (a2 h).2 fun b t ap h => k b t ap as p (a2 h).1 (a2 (a2 h).2).1 (a2 (a2 h).2).2)
theorem method_get (B : Base X) {a : Addr} {C : Addr} {fs : List (Nat × V)} {m f : Nat} {σ : AHeap} {s : Shared} {A : Around} (S : St X N σ s) (e : σ a = some (.inst C fs)) (hf : fs.lookup m = none) (hm : meth C m = some f) (pl : Sem Bool) (G' : Value × List Value → Shared → Prop) (hG : G' (.ref f, [.ref a]) s) : wpAny (model X.prog X.w) A (getMethod (.ref a) (an m) pl) G' NoE s :=
 (inst_at S e).rec fun _ es' n _ I _ _ y hc _ hp => have c := (B.cls C hc).2.1
  method_fn (B.inK.keeps S.keep) I (plainGet_of c).1 (plainGet_of (name := an 0) c).2 (B.meths C m f hm).1 (beq_iff_eq.mp (B.meths C m f hm).2.1) (show (lookIn _ (dictOf es' n)).map _ = _ from lookIn_dict .. ▸ (y.look (meth_lt hm) (fun p hp' => Nat.lt_trans (hp p hp') (by decide))).2 hf ▸ rfl) hG
theorem ET.meth (B : Base X) {o : E} {m : Nat} {es : Es} (ho : ET X k o) (h : EsT X k es) : ET X k (.meth o m es) := fun {N _ _ _ x _ _ _ A _} hm hq R S F => vMeth_inv x hm fun _ _ _ _ _ m3 m4 hm => (eq_of_beq (a2 hm).1).symm ▸ have m := a2 (a2 hm).2
 call_dot B ho h m3 (of_decide_eq_true m.1) m4 (a2 m.2).1 hq (a2 m.2).2 R S F fun u val s₁ σ₁ S₁ V₁ h₁ F₁ => refP.inv (P := fun u => VRel _ _ u val → _) u h₁ (fun a h V₁ => V₁.toRef val (h.inv fun C fs e h => h.2.elim fun f y =>
  ⟨.ref f, [.ref a], _, kept_K (B.meths C _ f y.1).2.2, fun pl G' hG => method_get B S₁ e h.1 y.1 pl G' hG, y.2, fun vals s₂ l σ₂ S₂ T₂ V₂ h₂ => h₂ N A s₂ _ R S₂ (.cons .ref V₂)⟩)) V₁
theorem ET.cmeth (B : Base X) {c m : Nat} {es : Es} (h : EsT X k es) : ET X k (.cmeth c m es) := by
 intro N sc nm env x ρ σ Q A s hm hq R S F
 refine vMeth_inv x hm fun b t ap xs pos m3 m4 hm => vName_inv b hm fun id p hm => ?_
 have h1 := a2 hm
 have h2 := a2 h1.2
 have h3 := a2 h2.2
 have h4 := a2 h3.2
 have h5 := a2 h4.2
 have i := isGlob_inv h3.1
 obtain rfl := eq_of_beq h1.1
 obtain rfl := eq_of_beq h2.1
 rw [eq_of_beq h4.1,i.1]
 refine hq.elim fun f hq => ?_
 have hf' : f = 110 := inj_some hq.1 (show Mine.meth (ga 1) 27 = some 110 by decide +kernel)
 have hq2 := hf' ▸ hq.2
 rw [arm_eval_Call]
 refine wpAny_bind (load_glob B S F (i.1 ▸ i.2.1) (i.1 ▸ i.2.2) (B.gl 1 (by decide)).1 (wpAny_bind (wpAny_standAt ?_)))
 unfold methodCall
 rw [form_ok h5.2 (of_decide_eq_true h5.1)]
 have S₁ := S.tok (s.toks + 1)
 have T₁ := Step.tok (X := X) (σ := σ) (s := s) (s.toks + 1)
 exact B.minit.2.elim fun mc y => wpAny_bind (wpAny_holding (method_cls (B.inK.keeps S.keep) B.minit.1 (cls_value (B.inK.keeps S.keep) y.1 y.2 rfl (wpAny_bind (wpAny_of_eq (pos_ok m4)
  (callWith_E B (first := []) h (kept_K (B.meths 183 27 110 (by decide +kernel)).2.2) h5.2 hq2 R S₁ (F.step S S₁ T₁) fun vals s₂ l σ₂ S₂ T₂ V₂ h₂ => upE S (T₁.trans T₂ S.gfree S₂.gfree) (h₂ N A s₂ vals R S₂ V₂)))))))
end
end Mine
end

section
open PySem PySem.Calls PyProof.Rows PySem.W
set_option maxRecDepth 20000
namespace Mine
variable {N : Hid}
section
variable {X : Cx} {k : Nat}
theorem intsOf_eq {l : List V} : ∀ {x : List Int}, intsOf l = some x → l = x.map .int :=
 List.rec (motive := fun l => ∀ {x : List Int}, intsOf l = some x → l = x.map .int) (fun e => Option.some.inj e ▸ rfl) (fun v r ih => V.casesOn (motive_1 := fun v => ∀ {x : List Int}, intsOf (v :: r) = some x → v :: r = x.map .int) v
  (fun e => (nos rfl e).elim) (fun e => (nos rfl e).elim) (fun _ _ e => (nos rfl e).elim) (fun i _ e => (Option.map_eq_some_iff.mp e).elim fun _ h => h.2 ▸ congrArg (V.int i :: ·) (ih h.1)) (fun _ _ e => (nos rfl e).elim) (fun _ _ e => (nos rfl e).elim) (fun _ _ e => (nos rfl e).elim) (fun _ _ e => (nos rfl e).elim) (fun _ _ e => (nos rfl e).elim)) l
theorem intsOf_map (x : List Int) : intsOf (x.map .int) = some x := List.rec (motive := fun x => intsOf (x.map .int) = some x) rfl (fun i _ ih => congrArg (Option.map (i :: ·)) ih) x
theorem VRels.ints {σ : AHeap} {h : Heap} (x : List Int) : ∀ {vs : List Value}, VRels (hid N σ) h (x.map .int) vs → IntsAre vs x :=
 List.rec (motive := fun x => ∀ {vs : List Value}, VRels (hid N σ) h (x.map .int) vs → IntsAre vs x) (fun {vs} y => y.zero vs .nil) (fun i _ ih {vs} y => y.uncons vs fun val _ a b => a.toInt val fun t => .cons i t (ih b)) x
theorem VRels.of_ints {τ : AHeap} {h : Heap} {vs : List Value} {x : List Int} (y : IntsAre vs x) : VRels τ h (x.map .int) vs := IntsAre.rec (motive := fun vs x _ => VRels τ h (x.map .int) vs) .nil (fun _ _ {_ _} _ ih => .cons .int ih) y
theorem size_63 {n m : Nat} (e : n = m) (h : m ≤ 1000) : ((n : Nat) : Int) < 2 ^ 63 := Int.lt_of_le_of_lt (Int.ofNat_le.mpr (e ▸ h)) (by decide)
theorem VRels.sz {τ : AHeap} {h : Heap} {l : List V} {vs : Array Value} (x : VRels τ h l vs.toList) : l.length = vs.size := x.length
theorem bytes_len {ls : List Nat} {b : Array UInt8} {l : List V} (a : b.toList.map UInt8.toNat = ls) (e : some (ls.map fun (n : Nat) => V.int (n : Int)) = some l) : l.length = b.size := (bytes_array a).symm ▸ Option.some.inj e ▸ List.length_map _
theorem len_call {u : V} {val : Value} {σ : AHeap} {s : Shared} {A : Around} {Q : Int → Prop} {G : Value → Shared → Prop} (S : St X N σ s) (x : VRel (hid N σ) s.heap u val) (h : lenP u σ Q) (g : ∀ i t tk, Q i → G (.int i t) { s with toks := tk }) :
  wpAny (model X.prog X.w) A (call (.builtin "len") [val]) G NoE s :=
 h.inv fun l e h => VRel.casesOn (motive_1 := fun u val _ => asItems σ u = some l → VRel (hid N σ) s.heap u val → wpAny (model X.prog X.w) A (call (.builtin "len") [val]) G NoE s) x
  (fun e => (nos rfl e).elim) (fun e => (nos rfl e).elim) (fun e => (nos rfl e).elim) (fun e => (nos rfl e).elim) (fun e => (nos rfl e).elim)
  (fun a1 a2 e _ => PySem.W.len_bytes (Nat.le_trans a2 (by decide)) (g _ _ _ (bytes_len a1 e ▸ h)))
  (fun _ a2 a3 a4 e _ => PyProof.Rows.len_tuple a2 (size_63 rfl a3) (g _ _ _ (a4.sz ▸ Option.some.inj e ▸ h)))
  (fun _ i1 i2 i3 e _ => PyProof.Rows.len_list i1.isList (size_63 rfl i2) (g _ _ _ (i3.sz ▸ Option.some.inj e ▸ h)))
  (fun {a} e x => S.aslist (P := fun val => wpAny (model X.prog X.w) A (call (.builtin "len") [val]) G NoE s) (.ref a) (show asList σ (.ref a) = some l from e) x fun _ _ i1 i2 i3 => PyProof.Rows.len_list i1.isList (size_63 rfl i2) (g _ _ _ (i3.sz ▸ h))) e x
noncomputable def on1 (Q : V → AHeap → Prop) : List V → AHeap → Prop
 | [u], σ => Q u σ
 | _, _ => False
noncomputable def on2 (Q : V → V → AHeap → Prop) : List V → AHeap → Prop
 | [], _ => False
 | u :: l, σ => on1 (Q u) l σ
noncomputable def on3 (Q : V → V → V → AHeap → Prop) : List V → AHeap → Prop
 | [], _ => False
 | u :: l, σ => on2 (Q u) l σ
@[elab_as_elim] theorem on1.inv {P : List V → Prop} {Q σ} (l : List V) (h : on1 Q l σ) (k : ∀ u, Q u σ → P [u]) : P l := List.casesOn (motive := fun l => on1 Q l σ → P l) l False.elim (fun u l => List.casesOn (motive := fun l => on1 Q (u :: l) σ → P (u :: l)) l (k u) fun _ _ => False.elim) h
@[elab_as_elim] theorem on2.inv {P : List V → Prop} {Q σ} (l : List V) (h : on2 Q l σ) (k : ∀ u v, Q u v σ → P [u, v]) : P l := List.casesOn (motive := fun l => on2 Q l σ → P l) l False.elim (fun u l h => on1.inv (P := fun l => P (u :: l)) l h (k u)) h
@[elab_as_elim] theorem on3.inv {P : List V → Prop} {Q σ} (l : List V) (h : on3 Q l σ) (k : ∀ u v w, Q u v w σ → P [u, v, w]) : P l := List.casesOn (motive := fun l => on3 Q l σ → P l) l False.elim (fun u l h => on2.inv (P := fun l => P (u :: l)) l h (k u)) h
@[elab_as_elim] theorem vB1_inv {sc name f} {P : PySem.Expr → Prop} (x : PySem.Expr) (h : vB1 sc name f x = true) (k : ∀ id q a p, gs sc id name = true → f a = true → P (.Call (.Name id q) [a] [] p)) : P x :=
 vCall_inv x h fun g as ks p h => v0_inv ks (a2 h).1 (vName_inv g (a2 h).2 fun id q h => v1_inv as (a2 h).2 fun a h' => k id q a p (a2 h).1 h')
@[elab_as_elim] theorem vB2_inv {sc name f} {P : PySem.Expr → Prop} (x : PySem.Expr) (h : vB2 sc name f x = true) (k : ∀ id q a b p, gs sc id name = true → f a b = true → P (.Call (.Name id q) [a, b] [] p)) : P x :=
 vCall_inv x h fun g as ks p h => v0_inv ks (a2 h).1 (vName_inv g (a2 h).2 fun id q h => v2_inv as (a2 h).2 fun a b h' => k id q a b p (a2 h).1 h')
@[elab_as_elim] theorem vB3_inv {sc name f} {P : PySem.Expr → Prop} (x : PySem.Expr) (h : vB3 sc name f x = true) (k : ∀ id q a b c p, gs sc id name = true → f a b c = true → P (.Call (.Name id q) [a, b, c] [] p)) : P x :=
 vCall_inv x h fun g as ks p h => v0_inv ks (a2 h).1 (vName_inv g (a2 h).2 fun id q h => v3_inv as (a2 h).2 fun a b c h' => k id q a b c p (a2 h).1 h')
theorem a2' {a b : Bool} (h : a = true) (h' : b = true) : (a && b) = true := Bool.and_eq_true_iff.mpr ⟨h, h'⟩
theorem blt1 (B : Base X) {name : String} {f : Value} {a : E} (ha : ET X k a) (hn : name ∈ (["len", "range", "min", "max", "list", "tuple", "bytes", "sorted"] : List String)) (hb : bootBuiltins (PySem.Str.ofString name) = some f)
  (hne : PySem.Str.ofString name ≠ "__name__") (hk : Kept X f)
  {sc : Scope} {nm : List (PySem.Str × Nat)} {env : Env} {x : PySem.Expr} {ρ : List V} {σ : AHeap} {Q' Q : V → AHeap → Prop} {A : Around} {s : Shared}
  (hm : vB1 sc name (fun l => matE sc nm a l) x = true) (hq : wpE X k a ρ σ Q') (R : Room k A) (S : St X N σ s) (F : FrOk X N sc nm env ρ σ s.heap)
  (g : ∀ val s₁ u σ₁, St X N σ₁ s₁ → VRel (hid N σ₁) s₁.heap u val → Q' u σ₁ → wpAny (model X.prog X.w) A (call f [val]) (PostE X N σ₁ s₁ Q) NoE s₁) :
  wpAny (model X.prog X.w) A (eval x env) (PostE X N σ s Q) NoE s :=
 vB1_inv x hm fun _ _ _ _ h h' => blt_call B (EsT.one ha) hn hb hne hk (Q' := on1 Q') h (a2' h' rfl) hq R S F fun vals s₁ l σ₁ S₁ V₁ h₁ => on1.inv (P := fun l => VRels _ _ l vals → _) l h₁ (fun u h V₁ => V₁.one vals fun val v => g val s₁ u σ₁ S₁ v h) V₁
theorem blt2 (B : Base X) {name : String} {f : Value} {a b : E} (ha : ET X k a) (hb' : ET X k b) (hn : name ∈ (["len", "range", "min", "max", "list", "tuple", "bytes", "sorted"] : List String)) (hb : bootBuiltins (PySem.Str.ofString name) = some f)
  (hne : PySem.Str.ofString name ≠ "__name__") (hk : Kept X f)
  {sc : Scope} {nm : List (PySem.Str × Nat)} {env : Env} {x : PySem.Expr} {ρ : List V} {σ : AHeap} {Q' : V → V → AHeap → Prop} {Q : V → AHeap → Prop} {A : Around} {s : Shared}
  (hm : vB2 sc name (fun l r => matE sc nm a l && matE sc nm b r) x = true) (hq : wpE X k a ρ σ fun u σ₁ => wpE X k b ρ σ₁ fun v σ₂ => Q' u v σ₂) (R : Room k A) (S : St X N σ s) (F : FrOk X N sc nm env ρ σ s.heap)
  (g : ∀ val val' s₁ u v σ₁, St X N σ₁ s₁ → VRel (hid N σ₁) s₁.heap u val → VRel (hid N σ₁) s₁.heap v val' → Q' u v σ₁ → wpAny (model X.prog X.w) A (call f [val, val']) (PostE X N σ₁ s₁ Q) NoE s₁) :
  wpAny (model X.prog X.w) A (eval x env) (PostE X N σ s Q) NoE s :=
 vB2_inv x hm fun _ _ _ _ _ h h' => blt_call B (EsT.two ha hb') hn hb hne hk (Q' := on2 Q') h (a2' (a2 h').1 (a2' (a2 h').2 rfl)) hq R S F fun vals s₁ l σ₁ S₁ V₁ h₁ => on2.inv (P := fun l => VRels _ _ l vals → _) l h₁ (fun u w h V₁ => V₁.two vals fun val val' v v' => g val val' s₁ u w σ₁ S₁ v v' h) V₁
theorem ET.len (B : Base X) {a : E} (ha : ET X k a) : ET X k (.len a) := fun {_ _ _ _ _ _ _ _ _ _} hm hq R S F =>
 blt1 B (name := "len") (f := .builtin "len") ha (by decide) (by kernel_rfl) (by decide +kernel) (kept_b _) hm hq R S F fun _ _ _ _ S₁ v h₁ => len_call S₁ v h₁ fun _ _ _ hq' => .tok S₁ .int hq'
theorem ints2 {b a : Value} {u v : V} {σ : AHeap} {s : Shared} {f : Int → Int → Prop} {P : Prop} (h : intP u fun x => intP v fun y => f x y) (V₁ : VRel (hid N σ) s.heap u a) (V₂ : VRel (hid N σ) s.heap v b) (k : ∀ x y t t', a = .int x t → b = .int y t' → f x y → P) : P :=
 intP.inv (P := fun u => VRel (hid N σ) s.heap u a → P) u h (fun x h V₁ => intP.inv (P := fun v => VRel (hid N σ) s.heap v b → P) v h (fun y h V₂ => V₁.int_inv.elim fun t e => V₂.int_inv.elim fun t' e' => k x y t t' e e' h) V₂) V₁
theorem two_end {σ : AHeap} {s : Shared} {h' : Heap} {tk : Nat} {c : Prop} [Decidable c] {i j m : Int} {t t' : Tok} {Q : V → AHeap → Prop} (S : St X N σ s) (hk : ∀ c o, s.heap.get? c = some o → h'.get? c = some o) (q : Q (.int m) σ) (h1 : c → m = j) (h2 : ¬ c → m = i) :
  PostE X N σ s Q (if c then .int j t' else .int i t) { s with heap := h', toks := tk } :=
 have g : Grow X s.heap h' := .of_all hk
 (Decidable.em c).elim (fun e => if_pos e ▸ ⟨_, σ, S.grow g, .grow g, .int, h1 e ▸ q⟩) fun e => if_neg e ▸ ⟨_, σ, S.grow g, .grow g, .int, h2 e ▸ q⟩
theorem ET.min2 (B : Base X) {a b : E} (ha : ET X k a) (hb : ET X k b) : ET X k (.min2 a b) := fun {_ _ _ _ _ _ _ _ _ _} hm hq R S F =>
 blt2 (Q' := fun u v σ₂ => intP u fun x => intP v fun y => _) B (name := "min") (f := .builtin "min") ha hb (by decide) (by kernel_rfl) (by decide +kernel) (kept_b _) hm hq R S F fun _ _ _ _ _ _ S₁ V₁ V₂ h₁ => ints2 h₁ V₁ V₂ fun _ _ _ _ e e' h => e ▸ e' ▸ min_two_ints R.1 fun _ _ hk =>
  two_end S₁ hk h (fun q => Int.min_eq_right (Int.le_of_lt q)) fun q => Int.min_eq_left (Int.not_lt.mp q)
theorem ET.max2 (B : Base X) {a b : E} (ha : ET X k a) (hb : ET X k b) : ET X k (.max2 a b) := fun {_ _ _ _ _ _ _ _ _ _} hm hq R S F =>
 blt2 (Q' := fun u v σ₂ => intP u fun x => intP v fun y => _) B (name := "max") (f := .builtin "max") ha hb (by decide) (by kernel_rfl) (by decide +kernel) (kept_b _) hm hq R S F fun _ _ _ _ _ _ S₁ V₁ V₂ h₁ => ints2 h₁ V₁ V₂ fun _ _ _ _ e e' h => e ▸ e' ▸ max_two_ints R.1 fun _ _ hk =>
  two_end S₁ hk h (fun q => Int.max_eq_right (Int.le_of_lt q)) fun q => Int.max_eq_left (Int.not_lt.mp q)
theorem bytes_lookup : typeLookup (.type "bytes") "__bytes__" = pure (some (.builtin "bytes.__bytes__")) := by rw [typeLookup_type,builtinLookup_eq_fast]; kernel_rfl
theorem call_bytes_bytes {prog : Program} {w : World} {A : Around} {E : Value → Shared → Prop} {s : Shared} {b : Array UInt8} {t : Tok} {Q : Value → Shared → Prop} (h : Q (.bytes b t) s) : wpAny (model prog w) A (call (.type "bytes") [.bytes b t]) Q E s := by
 have new : codeAny (model prog w) A.in1 (.call (.builtin "bytes.__new__") ⟨[.type "bytes", .bytes b t], []⟩) (wants (fun obj s₁ => s₁.TypeIs obj "bytes" ∧ Q obj s₁) E) s := by
  refine codeAny_of_tree ?_
  show wpAny _ A.in1.in1 (do checkBuiltinCall "bytes.__new__" ⟨[.type "bytes", .bytes b t], []⟩; again (.builtin "bytes.__new__" ⟨[.type "bytes", .bytes b t], []⟩)) _ _ s
  refine wpAny_bind (wpAny_of_eq (F.bm_newCall _) (wpAny_pure ⟨plainId_quiet F.bm_plain _, codeAny_builtin F.bm_entry ?_⟩))
  rw [Around.under_plainId F.bm_plain _]
  have hT : s.TypeIs (.bytes b t) "bytes" := typeIs_bytes s b t
  unfold Builtin.«bytes.__new__»
  refine wpAny_bind (wpAny_of_eq (a := true) rfl ?_)
  refine bm_if_false rfl ?_
  refine wpAny_bind (wpAny_of_eq F.bm_sub ?_)
  refine bm_if_false rfl ?_
  refine wpAny_bind (wpAny_of_eq (F.bm_bind _) ?_)
  refine wpAny_bind (wpAny_of_eq (a := ()) rfl ?_)
  refine wpAny_bind (wpAny_of_eq (a := ()) rfl ?_)
  refine bm_if_false rfl ?_
  refine wpAny_bind (wpAny_specialOf hT bytes_lookup ?_)
  refine wpAny_bind (wpAny_rule (wpAny_bind (wpAny_of_eq (a := .type "bytes") rfl ?_)))
  refine bm_if_true (by decide +kernel) ?_
  exact wpAny_pure ⟨hT, h⟩
 refine callType_codes (Q₁ := fun obj s₁ => s₁.TypeIs obj "bytes" ∧ Q obj s₁) F.bm_called (F.bm_typeCall _) F.entry_object_init new fun obj s₁ h₁ => ?_
 exact ⟨h₁.1, F.args_object_init_2 obj _, object_init_meets F.bm_called.init.lookup F.bm_called.made (by decide) prog w A.in1 _ s₁ ⟨h₁.1, rfl, h₁.2⟩⟩
theorem bytes_back {ns : List Nat} (h : ∀ n ∈ ns, n < 256) : (byteArr (ns.map fun (n : Nat) => (n : Int))).toList.map UInt8.toNat = ns := by
 show ((ns.map fun (n : Nat) => (n : Int)).map fun n => n.toNat.toUInt8).toArray.toList.map UInt8.toNat = ns
 rw [List.map_map,List.map_map]
 exact (List.map_congr_left fun m hm' => (UInt8.toNat_ofNat_of_lt' (h m hm') : m.toUInt8.toNat = m)).trans (List.map_id ns)
theorem bytes_list {l : List V} {c : Addr} {vs : Array Value} {σ : AHeap} {s : Shared} {A : Around} {Q : V → AHeap → Prop} (R : A.handled = none) (S : St X N σ s) (i1 : s.heap.PlainList c vs) (i2 : vs.size ≤ 1000) (i3 : VRels (hid N σ) s.heap l vs.toList)
  (h : ∃ ns : List Nat, l = ns.map (fun (n : Nat) => V.int (n : Int)) ∧ (∀ n ∈ ns, n < 256) ∧ ns.length ≤ 1000 ∧ Q (.bytes ns) σ) : wpAny (model X.prog X.w) A (call (.type "bytes") [.ref c]) (PostE X N σ s Q) NoE s :=
 h.elim fun ns y => call_bytes_ints (l := c) (vs := vs.toList) (ns := ns.map fun (n : Nat) => (n : Int)) i1.isList (VRels.ints (N := N) (σ := σ) (h := s.heap) _ ((y.1.trans (List.map_map (f := fun (n : Nat) => (n : Int)) (g := V.int)).symm) ▸ i3))
  (fun n hn => (List.mem_map.mp hn).elim fun m z => z.2 ▸ ⟨Int.natCast_nonneg m, Int.ofNat_lt.mpr (y.2.1 m z.1)⟩) (size_line _ i2) R fun h' t k hk => have g : Grow X s.heap h' := .of_all hk
   ⟨_, σ, S.grow (tk := k) g, .grow (tk := k) g, .bytes (bytes_back y.2.1) (byteArr_size _ ▸ List.length_map (as := ns) _ ▸ y.2.2.1), y.2.2.2⟩
theorem ET.bytes (B : Base X) {a : E} (ha : ET X k a) : ET X k (.bytes a) := fun {_ _ _ _ _ _ _ _ _ _} hm hq R S F =>
 blt1 B (name := "bytes") (f := .type "bytes") ha (by decide) (by kernel_rfl) (by decide +kernel) (kept_t _) hm hq R S F fun val s₁ u σ₁ S₁ v h₁ => byP.inv (P := fun u => VRel (hid _ σ₁) s₁.heap u val → _) u h₁
  (fun _ h v => v.bytes_inv.elim fun _ y => y.elim fun _ y => y.1 ▸ call_bytes_bytes (.here S₁ (.bytes y.2.1 y.2.2) h)) (fun _ h _ => h.inv fun l e h => S₁.aslist val e v fun _ _ i1 i2 i3 => bytes_list R.1 S₁ i1 i2 i3 h) v
theorem ET.tuple (B : Base X) {a : E} (ha : ET X k a) : ET X k (.tuple a) := fun {_ _ _ _ _ _ _ _ _ _} hm hq R S F =>
 blt1 B (name := "tuple") (f := .type "tuple") ha (by decide) (by kernel_rfl) (by decide +kernel) (kept_t _) hm hq R S F fun val s₁ u σ₁ S₁ v h₁ => tupP.inv (P := fun u => VRel (hid _ σ₁) s₁.heap u val → _) u h₁
  (fun _ h v => v.tup_inv.elim fun _ y => y.elim fun _ y => y.1 ▸ call_tuple_tup y.2.2.1 (.here S₁ (y.1 ▸ v) h)) v
end
end Mine
end

section
open PySem PySem.Calls PyProof.Rows PySem.W
set_option maxRecDepth 20000
namespace Mine
variable {N : Hid}
section
variable {X : Cx} {k : Nat}
inductive Src (τ : AHeap) (h : Heap) : Value → List V → Prop
 | list {a vs l} : τ a = none → h.PlainList a vs → vs.size ≤ 1000 → VRels τ h l vs.toList → Src τ h (.ref a) l
 | tup {a vs l} : τ a = none → IsTup h a vs → vs.size ≤ 1000 → VRels τ h l vs.toList → Src τ h (.ref a) l
 | bytes {b t ls l} : b.toList.map UInt8.toNat = ls → b.size ≤ 1000 → l = ls.map (fun (n : Nat) => V.int (n : Int)) → Src τ h (.bytes b t) l
 | range {a x y z t u v n l} : τ a = none → IsRange h a x y z t u v → Builtin.Range.small x y z = true → Builtin.Range.rangeSize x y z = ((n : Nat) : Int) → n ≤ 2001 → l = (List.range n).map (fun (i : Nat) => V.int (x + (i : Int) * z)) → Src τ h (.ref a) l
inductive Iter (τ : AHeap) (h : Heap) (it : Addr) : List V → Prop
 | list {a i vs l} : h.IsListIter it a i → τ a = none → h.PlainList a vs → VRels τ h l (vs.toList.drop i) → Iter τ h it l
 | tup {a i vs l} : h.IsTupleIter it a i → τ a = none → h.IsTuple a vs → VRels τ h l (vs.toList.drop i) → Iter τ h it l
 | bytes {b t i l} : KBw.IsBytesIter h it b t i → l = ((b.toList.drop i).map fun c => V.int (c.toNat : Int)) → Iter τ h it l
 | range {x left step} {n : Nat} {l} : IsRangeIter h it x left step → left = (n : Int) → l = (List.range n).map (fun (i : Nat) => V.int (x + (i : Int) * step)) → Iter τ h it l
noncomputable def isFields (o : Obj) : Prop := ∃ fs, o.data = .fields fs
theorem Iter.fields {τ : AHeap} {h : Heap} {it : Addr} {l : List V} (x : Iter τ h it l) : ∃ o, h.get? it = some o ∧ isFields o :=
 Iter.casesOn (motive := fun _ _ => ∃ o, h.get? it = some o ∧ isFields o) x (fun y _ _ _ => y.elim fun o y => ⟨o, y.1, _, y.2.2⟩) (fun y _ _ _ => y.elim fun o y => ⟨o, y.1, _, y.2.2⟩) (fun y _ => y.elim fun o y => ⟨o, y.1, _, y.2.2⟩) (fun y _ _ => ⟨_, y, _, rfl⟩)
theorem Iter.map {τ τ' : AHeap} {h h' : Heap} (f : Kept2 τ h τ' h') {it : Addr} {l : List V} (x : Iter τ h it l) (hi : ∀ o, h.get? it = some o → h'.get? it = some o) : Iter τ' h' it l :=
 Iter.casesOn (motive := fun l _ => Iter τ' h' it l) x
  (fun y e p r => y.elim fun o y => p.elim fun k p => .list ⟨o, hi _ y.1, y.2⟩ (f _ _ _ k e p rfl).1 ⟨k, (f _ _ _ k e p rfl).2⟩ (r.map f))
  (fun y e p r => y.elim fun o y => p.elim fun q p => p.2.2.elim fun k d => .tup ⟨o, hi _ y.1, y.2⟩ (f _ _ _ k e p.1 d).1 ⟨q, (f _ _ _ k e p.1 d).2, p.2⟩ (r.map f))
  (fun y e => y.elim fun o y => .bytes ⟨o, hi _ y.1, y.2⟩ e) (fun y e1 e2 => .range (hi _ y) e1 e2)
theorem Iter.up {G : Addr} {τ τ' : AHeap} {h h' : Heap} (u : Up G τ h τ' h') {it : Addr} {l : List V} (x : Iter τ h it l) (hi : ∀ o, h.get? it = some o → h'.get? it = some o) : Iter τ' h' it l := x.map u.kept hi
theorem Iter.poke {σ : AHeap} {s : Shared} {p : Addr} {h' : Heap} (u : Poke X N σ s p h') {it : Addr} {l : List V} (x : Iter (hid N σ) s.heap it l) (ne : it ≠ p) : Iter (hid N σ) h' it l := x.map u.kept fun _ e => u.at_ _ _ ne e
theorem iter_begin {val : Value} {l : List V} {σ : AHeap} {s : Shared} {A : Around} {E : Value → Shared → Prop} {Q : Value → Shared → Prop} (S : St X N σ s) (x : Src (hid N σ) s.heap val l)
  (h : ∀ ob, isFields ob → Iter (hid N σ) (s.heap.push ob) s.heap.objs.size l → Q (.ref s.heap.objs.size) { s with heap := s.heap.push ob }) : wpAny (model X.prog X.w) A (pyIter val) Q E s :=
 have g : ∀ ob, Up X.G (hid N σ) s.heap (hid N σ) (s.heap.push ob) := fun ob => (Grow.push (X := X) s.heap ob).up S
 Src.casesOn (motive := fun val l _ => (∀ ob, isFields ob → Iter (hid N σ) (s.heap.push ob) s.heap.objs.size l → Q (.ref s.heap.objs.size) { s with heap := s.heap.push ob }) → wpAny (model X.prog X.w) A (pyIter val) Q E s) x
  (fun e p _ r h => wpAny_pyIter_list p.isList (h _ ⟨_, rfl⟩ (p.elim fun k hp => .list ⟨_, Heap.get?_push_size _ rfl, rfl, rfl⟩ e ⟨k, Heap.get?_push_of_some _ hp⟩ (r.up (g _)))))
  (fun e p _ r h => wpAny_pyIter_tuple p (h _ ⟨_, rfl⟩ (p.elim fun o hp => .tup ⟨_, Heap.get?_push_size _ rfl, rfl, rfl⟩ e ⟨o, Heap.get?_push_of_some _ hp.1, hp.2⟩ (r.up (g _)))))
  (fun {b} _ _ _ e _ hl h => KBw.pyIter_bytes (h _ ⟨_, rfl⟩ (.bytes ⟨_, Heap.get?_push_size _ rfl, rfl, rfl⟩ (by rw [hl,← e,List.drop_zero,List.map_map]; rfl))))
  (fun _ p hs hn _ hl h => wpAny_pyIter_range p hs (h _ ⟨_, rfl⟩ (.range (Heap.get?_push_size _ rfl) hn hl))) h
theorem drop_case {P : Prop} {α : Type} {vs : List α} {i : Nat} (k0 : vs[i]? = none → vs.drop i = [] → P) (k1 : ∀ c, vs[i]? = some c → vs.drop i = c :: vs.drop (i + 1) → P) : P :=
 Option.casesOn (motive := fun o => vs[i]? = o → P) vs[i]? (fun e => k0 e (List.drop_eq_nil_of_le (List.getElem?_eq_none_iff.mp e))) (fun c e => k1 c e ((List.getElem?_eq_some_iff.mp e).elim fun h q => (List.drop_eq_getElem_cons h).trans (q ▸ rfl))) rfl
structure ItOk (X : Cx) (σ : AHeap) (it : Addr) : Prop where
 free : σ it = none
 h0 : X.H0.get? it = none
 neG : it ≠ X.G
theorem ItOk.poke {σ : AHeap} {s : Shared} {it : Addr} {l : List V} {h' : Heap} (S : St X N σ s) (I : ItOk X σ it) (x : Iter (hid N σ) s.heap it l) (at_ : ∀ b o, b ≠ it → s.heap.get? b = some o → h'.get? b = some o) (live : ∃ o', h'.get? it = some o') : Poke X N σ s it h' :=
 x.fields.elim fun _ f => f.2.elim fun _ hf => .mk' S I.free I.h0 I.neG (.inl fun o _ _ e q => Data.noConfusion (hf.symm.trans ((congrArg Obj.data (inj_some f.1 e)).trans q))) at_ fun _ => live
theorem step_range {x step : Int} {n : Nat} : (List.range (n + 1)).map (fun (i : Nat) => V.int (x + (i : Int) * step)) = V.int x :: (List.range n).map (fun (i : Nat) => V.int (x + step + (i : Int) * step)) := by
 rw [List.range_succ_eq_map,List.map_cons,List.map_map]
 refine congr (congrArg _ (congrArg V.int (by rw [Int.natCast_zero,Int.zero_mul,Int.add_zero]))) (List.map_congr_left fun i _ => ?_)
 show V.int (x + ((i + 1 : Nat) : Int) * step) = _
 rw [Int.natCast_add,Int.add_mul,Int.natCast_one,Int.one_mul,Int.add_comm _ step,Int.add_assoc]
theorem iter_next {it : Addr} {l : List V} {σ : AHeap} {s : Shared} {A : Around} {E : Value → Shared → Prop} {Q : Option Value → Shared → Prop} (hh : A.handled = none) (S : St X N σ s) (I : ItOk X σ it) (x : Iter (hid N σ) s.heap it l)
  (h0 : l = [] → ∀ h', Heap.ExtBut it s.heap h' → Q none { s with heap := h' })
  (h1 : ∀ v r, l = v :: r → ∀ val h' tk, Poke X N σ s it h' → VRel (hid N σ) h' v val → Iter (hid N σ) h' it r → Q (some val) { s with heap := h', toks := tk }) : wpAny (model X.prog X.w) A (pyNext (.ref it)) Q E s :=
 have pk : ∀ {h' : Heap}, (∀ b, b ≠ it → h'.get? b = s.heap.get? b) → (∃ o', h'.get? it = some o') → Poke X N σ s it h' := fun f g => ItOk.poke S I x (fun b _ ne e => (f b ne).trans e) g
 Iter.casesOn (motive := fun l _ => (l = [] → ∀ h', Heap.ExtBut it s.heap h' → Q none { s with heap := h' }) → (∀ v r, l = v :: r → ∀ val h' tk, Poke X N σ s it h' → VRel (hid N σ) h' v val → Iter (hid N σ) h' it r → Q (some val) { s with heap := h', toks := tk }) → wpAny (model X.prog X.w) A (pyNext (.ref it)) Q E s) x
  (fun {a i vs _} y e p r h0 h1 => drop_case (fun hi hd => wpAny_pyNext_list_end hh y p.isList (Array.getElem?_toList ▸ hi) fun h' he => h0 (VRels.nil_r (hd ▸ r)) h' he)
   fun c hc hd => (VRels.cons_r (hd ▸ r)).elim fun v z => z.elim fun rr z => wpAny_pyNext_list_item y p.isList (x := c) (Array.getElem?_toList ▸ hc) fun h' hit hs => have P := pk hs.2 (hit.elim fun o z => ⟨o, z.1⟩)
    h1 v rr z.1 c h' s.toks P (z.2.1.poke P) (.list hit e (p.elim fun k hp => ⟨k, (P.kept _ _ _ k e hp rfl).2⟩) (z.2.2.poke P)))
  (fun {a i vs _} y e p r h0 h1 => drop_case (fun hi hd => wpAny_pyNext_tuple_end hh y p (Array.getElem?_toList ▸ hi) fun h' he => h0 (VRels.nil_r (hd ▸ r)) h' he)
   fun c hc hd => (VRels.cons_r (hd ▸ r)).elim fun v z => z.elim fun rr z => wpAny_pyNext_tuple_item y p (x := c) (Array.getElem?_toList ▸ hc) fun h' hit hs => have P := pk hs.2 (hit.elim fun o z => ⟨o, z.1⟩)
    h1 v rr z.1 c h' s.toks P (z.2.1.poke P) (.tup hit e (p.elim fun o hp => hp.2.2.elim fun k hk => ⟨o, (P.kept _ _ _ k e hp.1 hk).2, hp.2⟩) (z.2.2.poke P)))
  (fun {b t i _} y e h0 h1 => drop_case (vs := b.toList) (fun hi hd => KBw.next_end hh y (Array.getElem?_toList ▸ hi) fun h' he => h0 (e.trans (congrArg _ hd)) h' he)
   fun c hc hd => KBw.next_item y (c := c) (Array.getElem?_toList ▸ hc) fun h' hit hs => have P := pk hs.2 (hit.elim fun o z => ⟨o, z.1⟩)
    h1 _ _ (e.trans (congrArg _ hd)) _ h' _ P .int (.bytes hit rfl))
  (fun {x left step n _} y e1 e2 h0 h1 => Nat.casesOn (motive := fun n => left = ((n : Nat) : Int) → _ = (List.range n).map (fun (i : Nat) => V.int (x + (i : Int) * step)) → wpAny (model X.prog X.w) A (pyNext (.ref it)) Q E s) n
   (fun e1 e2 => wpAny_pyNext_range_end hh y (Int.le_of_eq e1) fun h' he => h0 e2 h' he)
   (fun n e1 e2 => wpAny_pyNext_range_item y (e1 ▸ Int.ofNat_lt.mpr (Nat.succ_pos n)) fun h' hit hs => have P := pk hs.2 ⟨_, hit⟩
    h1 (.int x) _ (e2.trans step_range) _ h' _ P .int (.range hit ((congrArg (· - 1) e1).trans (Int.add_sub_cancel (n : Int) 1)) rfl)) e1 e2) h0 h1
end
end Mine
end

section
open PySem PySem.Calls PyProof.Rows PySem.W
set_option maxRecDepth 20000
namespace Mine
variable {N : Hid}
section
variable {X : Cx} {k : Nat}
inductive PostI (X : Cx) (N : Hid) (σ : AHeap) (s : Shared) (Q : List V → AHeap → Prop) (val : Value) (s' : Shared) : Prop
 | mk (l : List V) (σ' : AHeap) (st : St X N σ' s') (step : Step X σ s σ' s') (src : Src (hid N σ') s'.heap val l) (q : Q l σ') : PostI X N σ s Q val s'
noncomputable def IT (X : Cx) (k : Nat) (it : It) : Prop := ∀ {N : Hid} {sc : Scope} {nm : List (PySem.Str × Nat)} {env : Env} {x : PySem.Expr} {ρ : List V} {σ : AHeap} {Q : List V → AHeap → Prop} {A : Around} {s : Shared},
 matI sc nm it x = true → wpI X k it ρ σ Q → Room k A → St X N σ s → FrOk X N sc nm env ρ σ s.heap → wpAny (model X.prog X.w) A (eval x env) (PostI X N σ s Q) NoE s
theorem seqI {M : Model} {A : Around} {t : Sem Value} {X : Cx} {σ : AHeap} {s : Shared} {Q : List V → AHeap → Prop} {G : Value → Shared → Prop} (h : wpAny M A t (PostI X N σ s Q) NoE s)
  (k : ∀ val s₁ l σ₁, St X N σ₁ s₁ → Step X σ s σ₁ s₁ → Src (hid N σ₁) s₁.heap val l → Q l σ₁ → G val s₁) : wpAny M A t G NoE s :=
 wpAny_mono h (fun val s₁ p => p.rec fun l σ₁ a b c d => k val s₁ l σ₁ a b c d) fun _ _ x => x
inductive IsRng (τ : AHeap) (h : Heap) (val : Value) (l : List V) : Prop
 | mk (a : Addr) (x y z : Int) (t u v : Tok) (n : Nat) (e : val = .ref a) (fr : τ a = none) (is : IsRange h a x y z t u v) (sm : Builtin.Range.small x y z = true) (sz : Builtin.Range.rangeSize x y z = (n : Int)) (le : n ≤ 2001)
  (eq : l = (List.range n).map (fun (i : Nat) => V.int (x + (i : Int) * z))) : IsRng τ h val l
inductive PostR (X : Cx) (N : Hid) (σ : AHeap) (s : Shared) (Q : List V → AHeap → Prop) (val : Value) (s' : Shared) : Prop
 | mk (l : List V) (σ' : AHeap) (st : St X N σ' s') (step : Step X σ s σ' s') (rng : IsRng (hid N σ') s'.heap val l) (q : Q l σ') : PostR X N σ s Q val s'
theorem PostR.up {X : Cx} {σ σ₁ : AHeap} {s s₁ : Shared} {Q : List V → AHeap → Prop} {val : Value} {s' : Shared} (S : St X N σ s) (T : Step X σ s σ₁ s₁) (p : PostR X N σ₁ s₁ Q val s') : PostR X N σ s Q val s' :=
 p.rec fun l σ' a b c d => ⟨l, σ', a, T.trans b S.gfree a.gfree, c, d⟩
noncomputable def RT (X : Cx) (k : Nat) (it : It) : Prop := ∀ {N : Hid} {sc : Scope} {nm : List (PySem.Str × Nat)} {env : Env} {x : PySem.Expr} {ρ : List V} {σ : AHeap} {Q : List V → AHeap → Prop} {A : Around} {s : Shared},
 matI sc nm it x = true → wpI X k it ρ σ Q → Room k A → St X N σ s → FrOk X N sc nm env ρ σ s.heap → wpAny (model X.prog X.w) A (eval x env) (PostR X N σ s Q) NoE s
theorem IT.ofR {it : It} (h : RT X k it) : IT X k it := fun hm hq R S F => wpAny_mono (h hm hq R S F) (fun _ _ p => p.rec fun l σ' a b r d => r.rec fun _ _ _ _ _ _ _ _ e c1 c2 c3 c4 c5 c6 => ⟨l, σ', a, b, e ▸ .range c1 c2 c3 c4 c5 c6, d⟩) fun _ _ x => x
theorem asFrozen_src {u : V} {val : Value} {l : List V} {τ : AHeap} {h : Heap} (x : VRel τ h u val) : asFrozen u = some l → Src τ h val l :=
 VRel.casesOn (motive_1 := fun u val _ => asFrozen u = some l → Src τ h val l) x (fun e => (nos rfl e).elim) (fun e => (nos rfl e).elim) (fun e => (nos rfl e).elim) (fun e => (nos rfl e).elim) (fun e => (nos rfl e).elim)
  (fun a b e => .bytes a b (Option.some.inj e).symm) (fun a b c d e => .tup a b c (Option.some.inj e ▸ d)) (fun a b c d e => .list a b c (Option.some.inj e ▸ d)) (fun e => (nos rfl e).elim)
theorem IT.e {a : E} (ha : ET X k a) : IT X k (.e a) := fun {_ _ _ _ _ _ _ _ _ _} hm hq R S F => seqE (ha hm hq R S F) fun _ _ _ σ₁ S₁ T₁ V₁ h₁ => h₁.inv fun l e h => ⟨l, σ₁, S₁, T₁, asFrozen_src V₁ e, h⟩
theorem range_up (x y : Int) : (if x < y then (y - x - 1) / 1 + 1 else 0) = (((y - x).toNat : Nat) : Int) :=
 (Decidable.em (x < y)).elim (fun h => by rw [if_pos h,Int.ediv_one,Int.sub_add_cancel,Int.toNat_of_nonneg (Int.le_of_lt (Int.sub_pos_of_lt h))]) fun h => by rw [if_neg h,Int.toNat_of_nonpos (Int.sub_nonpos_of_le (Int.not_lt.mp h))]; rfl
theorem size1 (a b : Int) : Builtin.Range.rangeSize a b 1 = (((b - a).toNat : Nat) : Int) := range_up a b
theorem sizeM (a b : Int) : Builtin.Range.rangeSize a b (-1) = (((a - b).toNat : Nat) : Int) := range_up b a
theorem diff_le {a b : Int} (ha : small a) (hb : small b) : (b - a).toNat ≤ 2000 := Int.toNat_le.mpr (Int.le_trans (Int.sub_le_sub hb.2 ha.1) (by decide))
theorem fits {i : Int} (h : small i) : Builtin.Range.rangeFitsLong i = true := a2' (decide_eq_true (Int.le_trans (by decide) h.1)) (decide_eq_true (Int.lt_of_le_of_lt h.2 (by decide)))
theorem fitsN {n : Nat} (h : n ≤ 2000) : Builtin.Range.rangeFitsLong (n : Int) = true := a2' (decide_eq_true (Int.le_trans (by decide) (Int.natCast_nonneg n))) (decide_eq_true (Int.lt_of_le_of_lt (Int.ofNat_le.mpr h) (by decide)))
theorem small_c {a b c : Int} {n : Nat} (ha : small a) (hb : small b) (e : Builtin.Range.rangeSize a b c = (n : Int)) (hn : n ≤ 2000) (hc : small c) (hd : (if c > 0 then Builtin.Range.rangeFitsLong (b + (c - 1)) else Builtin.Range.rangeFitsLong (b + (c + 1))) = true) : Builtin.Range.small a b c = true := by
 unfold Builtin.Range.small
 rw [e]
 exact a2' (a2' (a2' (a2' (fits ha) (fits hb)) (fits hc)) (fitsN hn)) (Bool.or_eq_true_iff.mpr (.inr hd))
theorem small_of {a b : Int} (ha : small a) (hb : small b) (c : Int) (hc : c = 1 ∨ c = -1) : Builtin.Range.small a b c = true :=
 have z : Builtin.Range.rangeFitsLong (b + 0) = true := (Int.add_zero b).symm ▸ fits hb
 hc.elim (fun e => e ▸ small_c ha hb (size1 a b) (diff_le ha hb) ⟨by decide, by decide⟩ ((if_pos (by decide)).trans z)) fun e => e ▸ small_c ha hb (sizeM a b) (diff_le hb ha) ⟨by decide, by decide⟩ ((if_neg (by decide)).trans z)
theorem range_end {σ : AHeap} {s₁ : Shared} (S : St X N σ s₁) {x y z : Int} {t u v : Tok} {n tk : Nat} {l : List V} {Q : List V → AHeap → Prop} (hs : Builtin.Range.small x y z = true) (hn : Builtin.Range.rangeSize x y z = ((n : Nat) : Int)) (hb : n ≤ 2000)
  (hl : l = (List.range n).map (fun (i : Nat) => V.int (x + (i : Int) * z))) (hq : Q l σ) :
  PostR X N σ s₁ Q (.ref s₁.heap.objs.size) { s₁ with heap := s₁.heap.push { cls := .type "range", data := .fields #[.int x t, .int y u, .int z v] }, toks := tk } :=
 have g := Grow.push (X := X) s₁.heap { cls := .type "range", data := .fields #[.int x t, .int y u, .int z v] }
 ⟨l, σ, S.grow g, .grow g, ⟨_, _, _, _, _, _, _, _, rfl, S.hfree_of_none (get_ge_none (Nat.le_refl _)), IsRange.new .., hs, hn, Nat.le_succ_of_le hb, hl⟩, hq⟩
theorem call_nameI (B : Base X) {es : Es} (h : EsT X k es) {name : String} {f : Value} (hn : name ∈ (["len", "range", "min", "max", "list", "tuple", "bytes", "sorted"] : List String)) (hb : bootBuiltins (PySem.Str.ofString name) = some f)
  (hne : PySem.Str.ofString name ≠ "__name__") (hk : Kept X f)
  {sc : Scope} {nm : List (PySem.Str × Nat)} {env : Env} {xs : List PySem.Expr} {id : PySem.Str} {p pos : Pos} {ρ : List V} {σ : AHeap} {Q' : List V → AHeap → Prop} {G : Value → Shared → Prop} {A : Around} {s : Shared}
  (m1 : isGlob sc id (PySem.Str.ofString name) = true) (hm : matEs sc nm es xs = true) (hq : wpEs X k es ρ σ Q') (R : Room k A) (S : St X N σ s) (F : FrOk X N sc nm env ρ σ s.heap)
  (g : ∀ vals s₁ l σ₁, St X N σ₁ s₁ → Step X σ s σ₁ s₁ → VRels (hid N σ₁) s₁.heap l vals → Q' l σ₁ → wpAny (model X.prog X.w) A (call f vals) G NoE s₁) :
  wpAny (model X.prog X.w) A (eval (.Call (.Name id p) xs [] pos) env) G NoE s := by
 have i := isGlob_inv m1
 refine Call_Name rfl (load_blt B S F i.2.1 i.2.2 (i.1 ▸ B.blt _ hn) (i.1 ▸ hb) (i.1 ▸ hne) ?_)
 exact callWith_E B (first := []) h hk hm hq R S F fun vals s₁ l σ₁ S₁ T₁ V₁ h₁ => g vals s₁ l σ₁ S₁ T₁ V₁ h₁
theorem RT.r1 (B : Base X) {a : E} (ha : ET X k a) : RT X k (.r1 a) := fun {_ _ _ _ x _ _ Q _ _} hm hq R S F => vB1_inv x hm fun _ _ _ _ h h' =>
 call_nameI B (EsT.one ha) (name := "range") (f := .type "range") (by decide) (by kernel_rfl) (by decide +kernel) (kept_t _) (Q' := on1 fun u σ₁ => range1P u fun l => Q l σ₁) h (a2' h' rfl) hq R S F fun vals s₁ l σ₁ S₁ T₁ V₁ h₁ =>
  on1.inv (P := fun l => VRels _ _ l vals → _) l h₁ (fun u h V₁ => V₁.one vals fun val v => intP.inv (P := fun u => VRel _ _ u val → _) u h (fun n h v => v.toInt val fun t => call_range_1 (PostR.up S T₁
   (range_end (t := s₁.toks) (u := t) (v := s₁.toks + 1) (tk := s₁.toks + 1 + 1) S₁ (small_of ⟨by decide, by decide⟩ h.1 1 (.inl rfl)) ((size1 0 n).trans (congrArg (fun z : Int => ((z.toNat : Nat) : Int)) (Int.sub_zero n))) (congrArg Int.toNat (Int.sub_zero n) ▸ diff_le ⟨by decide, by decide⟩ h.1)
    (List.map_congr_left fun i _ => congrArg V.int (by rw [Int.mul_one,Int.zero_add])) h.2))) v) V₁
theorem RT.r2 (B : Base X) {a b : E} (ha : ET X k a) (hb : ET X k b) : RT X k (.r2 a b) := fun {_ _ _ _ x _ _ Q _ _} hm hq R S F => vB2_inv x hm fun _ _ _ _ _ h h' =>
 call_nameI B (EsT.two ha hb) (name := "range") (f := .type "range") (by decide) (by kernel_rfl) (by decide +kernel) (kept_t _) (Q' := on2 fun u v σ₁ => range2P u v fun l => Q l σ₁) h (a2' (a2 h').1 (a2' (a2 h').2 rfl)) hq R S F fun vals s₁ l σ₁ S₁ T₁ V₁ h₁ =>
  on2.inv (P := fun l => VRels _ _ l vals → _) l h₁ (fun u v h V₁ => V₁.two vals fun val val' v v' => ints2 h v v' fun n m t t' e e' h => e ▸ e' ▸ call_range_2 (PostR.up S T₁
   (range_end (t := t) (u := t') (v := s₁.toks) (tk := s₁.toks + 1) S₁ (small_of h.1 h.2.1 1 (.inl rfl)) (size1 n m) (diff_le h.1 h.2.1) (List.map_congr_left fun i _ => congrArg V.int (by rw [Int.mul_one])) h.2.2))) V₁
theorem RT.r3 (B : Base X) {a b c : E} (ha : ET X k a) (hb : ET X k b) (hc : ET X k c) : RT X k (.r3 a b c) := fun {_ _ _ _ x _ _ Q _ _} hm hq R S F => vB3_inv x hm fun _ _ _ _ _ _ h h' =>
 call_nameI B (EsT.cons ha (EsT.two hb hc)) (name := "range") (f := .type "range") (by decide) (by kernel_rfl) (by decide +kernel) (kept_t _) (Q' := on3 fun u v w σ₁ => range3P u v w fun l => Q l σ₁) h (a2' (a2 h').1 (a2' (a2 (a2 h').2).1 (a2' (a2 (a2 h').2).2 rfl))) hq R S F fun vals s₁ l σ₁ S₁ T₁ V₁ h₁ =>
  on3.inv (P := fun l => VRels _ _ l vals → _) l h₁ (fun u v w h V₁ => V₁.three vals fun val val' val'' v v' v'' => intP.inv (P := fun u => VRel _ _ u val → _) u h (fun n h v => ints2 h v' v'' fun m z t' t'' e' e'' h => v.toInt val fun t => e' ▸ (e''.trans (congrArg (Value.int · t'') h.2.2.1)) ▸ call_range_3 (by decide) (PostR.up S T₁
   (range_end (t := t) (u := t') (v := t'') (tk := s₁.toks) S₁ (small_of h.1 h.2.1 (-1) (.inr rfl)) (sizeM n m) (diff_le h.2.1 h.1) (List.map_congr_left fun i _ => congrArg V.int (by rw [Int.mul_neg,Int.mul_one]; rfl)) h.2.2.2)) (.inl (PyProof.noPylong_of_log2 (by decide +kernel)))) v) V₁
theorem VRels.of_get {τ : AHeap} {h : Heap} (l : List V) : ∀ vs : List Value, l.length = vs.length → (∀ (i : Nat) (v : V) (val : Value), l[i]? = some v → vs[i]? = some val → VRel τ h v val) → VRels τ h l vs :=
 List.rec (motive := fun l => ∀ vs : List Value, l.length = vs.length → (∀ (i : Nat) (v : V) (val : Value), l[i]? = some v → vs[i]? = some val → VRel τ h v val) → VRels τ h l vs) (fun _ e _ => List.length_eq_zero_iff.mp e.symm ▸ .nil)
  (fun a _ ih vs => List.casesOn (motive := fun vs => (_ :: _).length = vs.length → (∀ (i : Nat) (v : V) (val : Value), (_ :: _)[i]? = some v → vs[i]? = some val → VRel τ h v val) → VRels τ h (_ :: _) vs) vs (fun e _ => nomatch e) fun b vs e f => .cons (f 0 a b rfl rfl) (ih vs (Nat.succ.inj e) fun i v val e e' => f (i + 1) v val e e')) l
theorem range_get {n i : Nat} {f : Nat → V} {v : V} (e : ((List.range n).map f)[i]? = some v) : v = f i := by
 rw [List.getElem?_map] at e
 obtain ⟨j, hj, rfl⟩ := Option.map_eq_some_iff.mp e
 rw [List.getElem?_eq_some_iff] at hj
 obtain ⟨_, hj⟩ := hj
 rw [← hj,List.getElem_range]
theorem items_ints (n : Nat) {x z : Int} {acc : Array Value} (ha : ItemsOf (fun i v => ∃ t, v = .int (x + i * z) t) acc n) {τ : AHeap} {h : Heap} : VRels τ h ((List.range n).map (fun (i : Nat) => V.int (x + (i : Int) * z))) acc.toList :=
 VRels.of_get _ _ (by rw [List.length_map,List.length_range]; exact ha.1.symm) fun i v val e e' => (ha.2 i val (Array.getElem?_toList ▸ e')).elim fun t q => range_get e ▸ q ▸ .int
theorem ET.listr' (B : Base X) {it : It} (h0 : notE it = true → RT X k it) : ET X k (.listr it) := fun {_ _ _ env x _ _ _ _ _} hm hq R S F => vB1_inv x hm fun _ _ l _ h h' => have m := a2 h'; have i := isGlob_inv h
 have hst : starEach [l] env = [(false, eval l env)] := It.casesOn (motive_3 := fun it => notE it = true → matI _ _ it l = true → starEach [l] env = [(false, eval l env)]) it (fun _ h => (Bool.false_ne_true h).elim)
  (fun _ _ h => vB1_inv l h fun _ _ _ _ _ _ => rfl) (fun _ _ _ h => vB2_inv l h fun _ _ _ _ _ _ _ => rfl) (fun _ _ _ _ h => vB3_inv l h fun _ _ _ _ _ _ _ _ => rfl) m.1 m.2
 Call_Name1 (load_blt B S F i.2.1 i.2.2 (i.1 ▸ B.blt "list" (by decide)) (val := .type "list") (i.1 ▸ (by kernel_rfl)) (i.1 ▸ (by decide +kernel)) (callWith_of (P := fun h => X.K.In h) rfl (kept_t _) (evalArgs_plain (spliced_cons (wpAny_mono (h0 m.1 m.2 hq R S F) (fun val s₁ z => spliced_nil
  (z.rec fun l' σ₁ S₁ T₁ r hq' => r.rec fun a x y z t u v n e c1 c2 c3 c4 c5 c6 => ⟨B.inK.keeps S₁.keep, e ▸ upE S T₁ (call_list_range R.1 c2 c3 c4 (Nat.le_trans c5 (by decide)) fun h' tk acc' c' hk ho hi =>
   newList_end (new := false) S₁ (tk := tk) (.of_all hk) (get_ge_none (Nat.le_refl _)) ⟨_, ho⟩ (c6 ▸ items_ints n hi) hq')⟩)) fun _ _ x => x))))) hst
end
end Mine
end

section
open PySem PySem.Calls PyProof.Rows PySem.W
set_option maxRecDepth 20000
namespace Mine
variable {N : Hid}
section
variable {X : Cx} {k : Nat}
theorem St.change {σ : AHeap} {s : Shared} (S : St X N σ s) {p : Addr} {o o' : AObj} {h' : Heap} {tk : Nat} (e : σ p = some o) (hs : Heap.SameBut p s.heap h') (hl : ∃ ob, h'.get? p = some ob) (hns : ∀ a, o ≠ .sub a)
  (hr : ∀ u : Up X.G (hid N σ) s.heap (hid N (upd σ p o')) h', ORel X (hid N (upd σ p o')) h' p o') : St X N (upd σ p o') { s with heap := h', toks := tk } ∧ Step X σ s (upd σ p o') { s with heap := h', toks := tk } :=
 have at_ : ∀ b ob, b ≠ p → s.heap.get? b = some ob → h'.get? b = some ob := fun b ob ne q => (hs.2 b ne).trans q
 have ne : ∀ {b}, σ b = none → b ≠ p := fun q z => nos q (z ▸ e)
 have u : Up X.G (hid N σ) s.heap (hid N (upd σ p o')) h' := ⟨fun b ob _ q z => have z := hid_none.mp z; ⟨at_ b ob (ne z.2) q, hid_none.mpr ⟨z.1, (upd_ne (ne z.2)).trans z.2⟩⟩, S.ns⟩
 have sink : ∀ m, s.heap.Ns X.G m → h'.Ns X.G m := fun m n => ns_at m n fun o => at_ _ o (ne S.gfree)
 ⟨⟨fun b ob q => at_ b ob (fun z => nos (S.fresh _ _ e) (z ▸ q)) (S.keep b ob q), upd_elim (S.fresh _ _ e) fun b ob _ q => S.fresh b ob q,
  upd_elim (hr u) fun b ob z q => (S.objs b ob q).up u (fun ob' q' => at_ b ob' z q') (fun dx y => have y := hid_sub.mp y; have nd : dx ≠ p := ne_objs y.2 e (Ne.symm (hns b)); ⟨hid_sub.mpr ⟨y.1, (upd_ne nd).trans y.2⟩, fun ob' q' => at_ dx ob' nd q'⟩),
  upd_elim hl fun b ob z q => (S.live b ob q).elim fun ob' q' => ⟨ob', at_ b ob' z q'⟩, S.ns.elim fun m n => ⟨m, sink m n⟩, (upd_ne (ne S.gfree)).trans S.gfree, S.gH0,
  fun b ob q => have h := S.hids b ob q; ⟨(upd_ne (ne h.1)).trans h.1, h.2.1.elim fun ob' h2 => ⟨ob', at_ b ob' (ne h.1) h2⟩, h.2.2⟩⟩,
  ⟨fun b ob _ q z => at_ b ob (ne z) q, sink, fun b ob q q' => (nos q ((upd_ne (ne q)).symm.trans q')).elim, fun b ob q => (Decidable.em (b = p)).elim (fun z => z ▸ hl) fun z => ⟨ob, at_ b ob z q⟩, h', tk, rfl⟩⟩
theorem append_call {u x : V} {a b : Value} {σ : AHeap} {s : Shared} {A : Around} {Q : V → AHeap → Prop} (S : St X N σ s) (xu : VRel (hid N σ) s.heap u a) (xx : VRel (hid N σ) s.heap x b) (h : appendP u x σ Q) :
  wpAny (model X.prog X.w) A (call (.builtin "list.append") [a, b]) (PostE X N σ s Q) NoE s :=
 refP.inv (P := fun u => VRel (hid N σ) s.heap u a → _) u h (fun c h xu => xu.toRef a (h.inv fun l e h => (S.objs _ _ e).elim fun vs y => wpAny_list_append_plain y.1 (fun h' hp hs =>
  have z := S.change (tk := s.toks) (o' := .list (l ++ [x])) e hs (hp.elim fun _ q => ⟨_, q⟩) (fun _ q => nomatch q) fun up => ⟨vs.push b, hp, Array.size_push b ▸ y.2.2.sz ▸ h.1, (by rw [Array.toList_push]; exact (y.2.2.up up).snoc (xx.up up))⟩
  ⟨.none, _, z.1, z.2, .none, h.2⟩) (size_line _ y.2.1))) xu
theorem list_method {u : V} {val : Value} {l : List V} {σ : AHeap} {s : Shared} {A : Around} {name : PySem.Str} {id : String} {pl : Sem Bool} {G : Value × List Value → Shared → Prop} (S : St X N σ s) (e : asList σ u = some l) (x : VRel (hid N σ) s.heap u val)
  (slot : Slot "list" name id) (hty : typeOf (.builtin id) = pure (.type "method_descriptor")) (h : G (.builtin id, [val]) s) : wpAny (model X.prog X.w) A (getMethod val name pl) G NoE s :=
 S.aslist (P := fun val => G (.builtin id, [val]) s → wpAny (model X.prog X.w) A (getMethod val name pl) G NoE s) val e x (fun c vs i1 _ _ h => i1.elim fun _ i1 => getMethod_builtin ⟨_, i1, rfl⟩ PySem.F.plainAttrs_list slot hty (fun a q => Value.ref.inj q ▸ ⟨_, i1, rfl⟩) h) h
theorem isSome_ex {α : Type} {o : Option α} (h : o.isSome = true) : ∃ a, o = some a := Option.isSome_iff_exists.mp h
theorem ET.lappend (B : Base X) {o e : E} (ho : ET X k o) (he : ET X k e) : ET X k (.lappend o e) := fun {_ _ _ _ x _ _ Q _ _} hm hq R S F => vMeth_inv x hm fun _ _ _ as _ m3 m4 hm => (eq_of_beq (a2 hm).1).symm ▸ v1_inv as (a2 hm).2 fun _ hm =>
 call_dot B ho (EsT.one he) m3 (show 1 < 30 by decide) m4 (a2 hm).1 hq (a2' (a2 hm).2 rfl) R S F fun u val s₁ σ₁ S₁ V₁ h₁ F₁ => (isSome_ex h₁.1).elim fun ls hl =>
  ⟨.builtin "list.append", [val], on1 fun v σ₂ => appendP u v σ₂ Q, kept_b _, fun pl G' hG => list_method S₁ hl V₁ PySem.F.slot_list_append PySem.F.type_list_append hG, h₁.2, fun vals s₂ l₂ σ₂ S₂ T₂ V₂ h₂ =>
   on1.inv (P := fun l => VRels _ _ l vals → _) l₂ h₂ (fun w h V₂ => V₂.one vals fun val' v => append_call S₂ (V₁.up (T₂.up S₁)) v h) V₂⟩
theorem isDict_inv {u : V} {σ : AHeap} (e : isDict σ u = true) : ∃ a n m, u = .ref a ∧ σ a = some (.dict n m) := by
 unfold isDict at e
 rcases u with _ | _ | _ | _ | _ | _ | _ | _ | a <;> first | exact (Bool.false_ne_true e).elim | skip
 dsimp only at e
 rcases q : σ a with _ | (_ | ⟨n, m⟩ | _ | _ | _) <;> rw [q] at e <;> first | exact (Bool.false_ne_true e).elim | exact ⟨a, n, m, rfl, q⟩
theorem dict_method {u : V} {val : Value} {σ : AHeap} {s : Shared} {A : Around} {pl : Sem Bool} {G : Value × List Value → Shared → Prop} (S : St X N σ s) (e : isDict σ u = true) (x : VRel (hid N σ) s.heap u val)
  (h : G (.builtin "dict.get", [val]) s) : wpAny (model X.prog X.w) A (getMethod val (PySem.Str.ofString "get") pl) G NoE s :=
 (isDict_inv e).elim fun a y => y.elim fun n y => y.elim fun m y => (S.objs _ _ y.2).elim fun f z => have e := (y.1 ▸ x : VRel _ _ (.ref a) val).ref_inv
  e ▸ getMethod_builtin z.1.typeIs PySem.F.plainAttrs_dict PySem.F.slot_dict_get PySem.F.type_dict_get z.1.noDict (e ▸ h)
theorem ORelO.getD {τ : AHeap} {h : Heap} {o : Option V} {o' : Option Value} {d : V} {c : Value} (x : VRel τ h d c) : ORelO τ h o o' → VRel τ h (o.getD d) (o'.getD c) :=
 Option.casesOn (motive := fun o => ORelO τ h o o' → VRel τ h (o.getD d) (o'.getD c)) o (Option.casesOn (motive := fun o' => ORelO τ h none o' → VRel τ h d (o'.getD c)) o' (fun _ => x) fun _ => False.elim) fun v => Option.casesOn (motive := fun o' => ORelO τ h (some v) o' → VRel τ h v (o'.getD c)) o' False.elim fun _ => id
theorem dget_call (B : Base X) {u key d : V} {a b c : Value} {σ : AHeap} {s : Shared} {A : Around} {Q : V → AHeap → Prop} (S : St X N σ s) (xu : VRel (hid N σ) s.heap u a) (xk : VRel (hid N σ) s.heap key b) (xd : VRel (hid N σ) s.heap d c) (h : dgetP u key d σ fun r => Q r σ) :
  wpAny (model X.prog X.w) A (call (.builtin "dict.get") [a, b, c]) (PostE X N σ s Q) NoE s :=
 refP.inv (P := fun u => VRel (hid N σ) s.heap u a → _) u h (fun p h xu => xu.toRef a (intP.inv (P := fun key => VRel (hid N σ) s.heap key b → _) key h (fun i h xk => xk.toInt b fun t => h.inv fun n m e h => (S.objs _ _ e).elim fun f z =>
  have hd : (p == sysModules) = false := beq_false_of_ne fun w => B.sysm.elim fun o ho => nos (S.fresh _ _ e) (w ▸ ho)
  call_meetsIn PySem.F.slot_dict_get z.1.typeIs PySem.F.entry_dict_get (PySem.F.args_dict_get_3 _ _ _) (meets_dict_get_default (intKind X.prog X.w) p (intKind_is _ _ _ _) hd c) ⟨f, z.1, .tok S ((z.2.2 i).getD xd) h⟩) xk)) xu
theorem ET.dget (B : Base X) {o key d : E} (ho : ET X k o) (hk : ET X k key) (hd : ET X k d) : ET X k (.dget o key d) := fun {_ _ _ _ x _ _ Q _ _} hm hq R S F => vMeth_inv x hm fun _ _ _ as _ m3 m4 hm => (eq_of_beq (a2 hm).1).symm ▸ v2_inv as (a2 hm).2 fun _ _ hm =>
 call_dot B ho (EsT.two hk hd) m3 (show 2 < 30 by decide) m4 (a2 hm).1 hq (a2' (a2 (a2 hm).2).1 (a2' (a2 (a2 hm).2).2 rfl)) R S F fun u val s₁ σ₁ S₁ V₁ h₁ F₁ =>
  ⟨.builtin "dict.get", [val], on2 fun v z σ₂ => dgetP u v z σ₂ fun r => Q r σ₂, kept_b _, fun pl G' hG => dict_method S₁ h₁.1 V₁ hG, h₁.2, fun vals s₂ l₂ σ₂ S₂ T₂ V₂ h₂ =>
   on2.inv (P := fun l => VRels _ _ l vals → _) l₂ h₂ (fun w z h V₂ => V₂.two vals fun val' val'' v v' => dget_call B S₂ (V₁.up (T₂.up S₁)) v v' h) V₂⟩
theorem index_ints {c : Addr} {vs : Array Value} {ns : List Int} {i : Int} {t : Tok} {n : Nat} {σ : AHeap} {s : Shared} {A : Around} {Q : V → AHeap → Prop} (S : St X N σ s) (ho : s.heap.get? c = some { cls := .type "list", data := .seq vs n }) (i2 : vs.size ≤ 1000) (hi : IntsAre vs.toList ns) (hm : i ∈ ns) (hq : Q (.int (ns.idxOf i : Nat)) σ) :
  wpAny (model X.prog X.w) A (call (.builtin "list.index") [.ref c, .int i t]) (PostE X N σ s Q) NoE s :=
 have hlen : vs.size = ns.length := hi.length
 have hj : ns.idxOf i < ns.length := List.idxOf_lt_length_iff.mpr hm
 have at_ : ∀ j (h1 : j < vs.size) (h2 : j < ns.length), isInt i vs[j] = (ns[j] == i) := fun j h1 h2 => isInt_at i hi j h1 h2
 call_meets PySem.F.slot_list_index ⟨_, ho, rfl⟩ PySem.F.entry_list_index (PySem.F.args_list_index_2 _ _)
  (PySem.SeqAt.list_indexAt c vs n Option.none #[] (.int i t) (isInt i) (ns.idxOf i) (hlen ▸ hj) (Int.lt_of_lt_of_le (Int.ofNat_lt.mpr (Nat.lt_of_lt_of_le (hlen ▸ hj) i2)) (by decide))
   ((at_ _ (hlen ▸ hj) hj).trans (beq_iff_eq.mpr (List.getElem_idxOf hj))) fun j hjs hlt => (at_ j hjs (hlen ▸ hjs)).trans (ne_of_lt_idxOf hlt _)) ⟨ho, fun y hy => (eq_isInt i t hi y (Array.mem_toList_iff.mpr hy)).at _ _, .tok S .int hq⟩
theorem index_call {u x : V} {a b : Value} {σ : AHeap} {s : Shared} {A : Around} {Q : V → AHeap → Prop} (S : St X N σ s) (xu : VRel (hid N σ) s.heap u a) (xx : VRel (hid N σ) s.heap x b) (h : indexP u x σ fun r => Q (.int r) σ) :
  wpAny (model X.prog X.w) A (call (.builtin "list.index") [a, b]) (PostE X N σ s Q) NoE s :=
 h.inv fun l e h => intP.inv (P := fun x => VRel (hid N σ) s.heap x b → _) x h (fun i h xx => xx.toInt b fun t => by
  split at h
  ·rename_i ns hns
   exact S.aslist a e xu fun c vs i1 i2 i3 => i1.elim fun n ho => index_ints S ho i2 (VRels.ints (N := N) (σ := σ) (h := s.heap) _ (intsOf_eq hns ▸ i3)) h.1 h.2
  ·exact h.elim) xx
theorem ET.lindex (B : Base X) {o e : E} (ho : ET X k o) (he : ET X k e) : ET X k (.lindex o e) := fun {_ _ _ _ x _ _ Q _ _} hm hq R S F => vMeth_inv x hm fun _ _ _ as _ m3 m4 hm => (eq_of_beq (a2 hm).1).symm ▸ v1_inv as (a2 hm).2 fun _ hm =>
 call_dot B ho (EsT.one he) m3 (show 1 < 30 by decide) m4 (a2 hm).1 hq (a2' (a2 hm).2 rfl) R S F fun u val s₁ σ₁ S₁ V₁ h₁ F₁ => (isSome_ex h₁.1).elim fun ls hl =>
  ⟨.builtin "list.index", [val], on1 fun v σ₂ => indexP u v σ₂ fun r => Q (.int r) σ₂, kept_b _, fun pl G' hG => list_method S₁ hl V₁ PySem.F.slot_list_index PySem.F.type_list_index hG, h₁.2, fun vals s₂ l₂ σ₂ S₂ T₂ V₂ h₂ =>
   on1.inv (P := fun l => VRels _ _ l vals → _) l₂ h₂ (fun w h V₂ => V₂.one vals fun val' v => index_call S₂ (V₁.up (T₂.up S₁)) v h) V₂⟩
theorem fold_rep (val : Value) (n : Nat) : ∀ acc : Array Value, (List.foldl (fun x1 x2 => x1 ++ x2) acc (List.replicate n #[val])).toList = acc.toList ++ List.replicate n val :=
 Nat.rec (motive := fun n => ∀ acc : Array Value, (List.foldl (fun x1 x2 => x1 ++ x2) acc (List.replicate n #[val])).toList = acc.toList ++ List.replicate n val) (fun acc => (List.append_nil _).symm) (fun n ih acc => (ih (acc ++ #[val])).trans (by rw [Array.toList_append,List.append_assoc]; rfl)) n
theorem VRels.rep {τ : AHeap} {h : Heap} {v : V} {val : Value} (x : VRel τ h v val) (n : Nat) : VRels τ h (List.replicate n v) (List.replicate n val) := Nat.rec (motive := fun n => VRels τ h (List.replicate n v) (List.replicate n val)) .nil (fun _ ih => .cons x ih) n
noncomputable def lst1P (z : V) (f : V → Prop) : Prop := match z with | .list [u] => f u | _ => False
theorem lst1P.inv {P : V → Prop} {f} (z : V) (h : lst1P z f) (k : ∀ u, f u → P (.list [u])) : P z := by
 rcases z with _ | _ | _ | _ | _ | _ | _ | (_ | ⟨u, _ | ⟨_, _⟩⟩) | _ <;> first | exact h.elim | exact k u h
theorem nrep_end {c : Addr} {vs : Array Value} {u : V} {i m : Int} {t : Tok} {σ : AHeap} {s : Shared} {A : Around} {Q : V → AHeap → Prop} (S : St X N σ s) (i1 : s.heap.PlainList c vs) (i3 : VRels (hid N σ) s.heap [.int i] vs.toList) (h0 : 0 ≤ m) (hq : mkList true (List.replicate m.toNat (.int i)) σ Q) :
  wpAny (model X.prog X.w) A (binaryOp .Mult (.ref c) (.int m t)) (PostE X N σ s Q) NoE s := by
 obtain ⟨vl⟩ := vs
 refine VRels.one (P := fun vl => s.heap.PlainList c ⟨vl⟩ → wpAny (model X.prog X.w) A (binaryOp .Mult (.ref c) (.int m t)) (PostE X N σ s Q) NoE s) vl i3 (fun w v i1 => i1.elim fun _ ho => (ledger S).elim fun mm L => L.elim fun news L => ?_) i1
 have hl : m.toNat ≤ 1000 := Nat.le_trans (Nat.le_of_eq List.length_replicate.symm) hq.1
 refine mul_list L.1 L.2.1 ho (Int.le_trans (by decide) h0) (Int.lt_of_le_of_lt (Int.toNat_le.mp hl) (by decide)) (Nat.le_trans (Nat.le_of_eq (Nat.one_mul _)) (Nat.le_trans hl (by decide))) fun h' F' N' => ?_
 exact newList_end (new := true) S (tk := s.toks) (Grow.of_news L.1 L.2.2 F' N' fun p hp => List.mem_cons_of_mem _ hp) (get_ge_none (Nat.le_refl _)) ⟨_, (N' _ List.mem_cons_self).1⟩ ((fold_rep w m.toNat #[]).symm ▸ VRels.rep v _) hq
theorem ET.nrep {e n : E} (he : ET X k e) (hn : ET X k n) : ET X k (.nrep e n) := fun {_ _ _ _ x ρ σ Q _ _} hm hq R S F => vBin_inv x hm fun l o _ _ hm => (eq_of_beq (a2 hm).1 : o = .Mult).symm ▸ vList_inv l (a2 hm).2 fun es _ hm => v1_inv es hm fun _ hm =>
 have hl : wpEs X k (.cons e .nil) ρ σ (fun l σ₁ => mkList false l σ₁ fun z σ₁ => lst1P z fun u => wpE X k n ρ σ₁ fun v σ₂ => intP u fun i => intP v fun m => 0 ≤ m ∧ mkList true (List.replicate m.toNat (.int i)) σ₂ Q) :=
  cast (congrArg (wpE X k e ρ σ) (funext fun u => funext fun σ₁ => propext ⟨fun h => ⟨show 1 ≤ 1000 by decide, h⟩, And.right⟩)) hq
 wpAny_BinOp (seqE (list_disp (new := false) (EsT.one he) (a2' (a2 hm).1 rfl) hl R S F) fun val _ z _ S₁ T₁ V₁ h₁ => lst1P.inv (P := fun z => VRel _ _ z val → _) z h₁ (fun u h V₁ => seqE (hn (a2 hm).2 h R S₁ (F.step S S₁ T₁)) fun val' _ v _ S₂ T₂ V₂ h₂ =>
  intP.inv (P := fun u => VRel _ _ (.list [u]) val → _) u h₂ (fun i h V₁ => intP.inv (P := fun v => VRel _ _ v val' → _) v h (fun m h V₂ => V₂.toInt val' fun t => V₁.list_inv.elim fun c y => y.elim fun vs y => y.1 ▸
   upE S (T₁.trans T₂ S.gfree S₂.gfree) (nrep_end (u := u) S₂ y.2.2.1 y.2.2.2.2 h.1 h.2)) V₂) (V₁.up (T₂.up S₁))) V₁)
theorem ET.ncat {a b : E} (ha : ET X k a) (hb : ET X k b) : ET X k (.ncat a b) := fun {_ _ _ _ x _ _ Q _ _} hm hq R S F => vBin_inv x hm fun _ o _ _ hm => (eq_of_beq (a2 hm).1 : o = .Add).symm ▸
 wpAny_BinOp (seq2 (P := fun u v σ₂ => ncatP u v σ₂ Q) ha hb (a2 hm).2 hq R S F fun _ _ _ _ _ _ S₂ T V₁ V₂ h₂ => h₂.inv fun _ e1 h => h.inv fun _ e2 h => upE S T (bin_lists S₂ e1 e2 V₁ V₂ h))
end
end Mine
end

section
open PySem PySem.Calls PyProof.Rows PySem.W
set_option maxRecDepth 20000
namespace Mine
variable {N : Hid}
section
variable {prog : Program} {w : World} {A : Around} {E : Value → Shared → Prop} {s : Shared}
theorem draw_list {it t : Addr} {items : Array Value} (hne : t ≠ it) : ∀ (n i : Nat) (s : Shared) (Q : List Value → Shared → Prop), s.heap.IsListIter it t i → s.heap.IsList t items → i + n ≤ items.size →
  (∀ h', h'.IsListIter it t (i + n) → Heap.SameBut it s.heap h' → Q ((items.toList.drop i).take n) { s with heap := h' }) → wpAny (model prog w) A (draw (.ref it) n) Q E s := by
 intro n
 induction n with
 | zero => exact fun i s Q hit _ _ hQ => wpAny_pure (hQ s.heap hit (Heap.SameBut.refl ..))
 | succ n ih =>
  intro i s Q hit ht hle hQ
  have hlt : i < items.size := Nat.lt_of_lt_of_le (Nat.lt_add_of_pos_right (Nat.succ_pos n)) hle
  have e1 : i + (n + 1) = i + 1 + n := by rw [Nat.add_assoc,Nat.add_comm 1 n]
  show wpAny _ _ (pyNext (.ref it) >>= _) Q E s
  refine wpAny_bind (wpAny_pyNext_list_item hit ht (x := items[i]) (Array.getElem?_eq_getElem hlt) fun h₁ hit₁ hs₁ => wpAny_bind (wpAny_holding (ih (i + 1) _ _ hit₁ (ht.extBut hs₁.extBut hne) (e1 ▸ hle) fun h₂ hit₂ hs₂ => wpAny_pure ?_)))
  have q := hQ h₂ (e1 ▸ hit₂) (hs₁.trans hs₂)
  rw [List.drop_eq_getElem_cons (show i < items.toList.length from hlt),List.take_succ_cons] at q
  exact q
theorem unpackItems_list {t : Addr} {items : Array Value} {Q : List Value → Shared → Prop} (hh : A.handled = none) (ht : s.heap.IsList t items)
  (hQ : ∀ h', Heap.ExtBut s.heap.objs.size s.heap h' → Q items.toList { s with heap := h' }) : wpAny (model prog w) A (unpackItems (.ref t) items.size none) Q E s := by
 have hlt : t ≠ s.heap.objs.size := ht.elim fun o y => Nat.ne_of_lt (Heap.lt_size y.1)
 unfold unpackItems
 refine wpAny_bind ?_
 ·unfold notIterableAtAll
  refine wpAny_bind (wpAny_specialOf ht.typeIs slot_list_iter.lookup ?_)
  refine wpAny_pure ?_
  simp only [Bool.false_eq_true,if_false]
  refine wpAny_bind (wpAny_holding (wpAny_pyIter_list ht ?_))
  refine wpAny_bind (wpAny_holding (draw_list hlt items.size 0 _ _ ⟨_, Heap.get?_push_size _ rfl, rfl, rfl⟩ (ht.push _) (Nat.le_of_eq (Nat.zero_add _)) fun h₁ hit₁ hs₁ => ?_))
  have hall : List.take items.size (List.drop 0 items.toList) = items.toList := by
   rw [List.drop_zero]; exact List.take_of_length_le (by simp)
  rw [hall]
  rw [if_neg (by simp)]
  have ht₁ : h₁.IsList t items := (ht.push _).extBut hs₁.extBut hlt
  refine wpAny_bind (wpAny_holding (wpAny_pyNext_list_end hh hit₁ ht₁ (by simp) fun h₂ he₂ => ?_))
  simp only [Option.isSome_none,Bool.false_eq_true,if_false]
  refine wpAny_pure (hQ h₂ fun b o hb e => he₂ b o hb (hs₁.extBut b o hb (Heap.get?_push_of_some _ e)))
end
section
variable {X : Cx} {k : Nat}
noncomputable def isSlotObj (o : Obj) : Prop := (∃ es ep, o.data = .dict es ep) ∨ ∃ v, o.data = .cell v
structure StepX (X : Cx) (P : Addr → Prop) (σ : AHeap) (s : Shared) (σ' : AHeap) (s' : Shared) : Prop where
 keep : ∀ b o, ¬ P b → b ≠ X.G → s.heap.get? b = some o → σ b = none → s'.heap.get? b = some o
 sink : ¬ P X.G → ∀ m, s.heap.Ns X.G m → s'.heap.Ns X.G m
 new : ∀ b o, σ b = none → σ' b = some o → s.heap.get? b = none
 live : ∀ b o, s.heap.get? b = some o → ∃ o', s'.heap.get? b = some o'
 rest : ∃ h' tk, s' = { s with heap := h', toks := tk }
theorem StepX.of {P : Addr → Prop} {σ σ' : AHeap} {s s' : Shared} (T : Step X σ s σ' s') : StepX X P σ s σ' s' := ⟨fun b o _ n e q => T.keep b o n e q, fun _ => T.sink, T.new, T.live, T.rest⟩
theorem StepX.refl (P : Addr → Prop) (σ : AHeap) (s : Shared) : StepX X P σ s σ s := .of (.refl ..)
theorem StepX.old {P : Addr → Prop} {σ σ' : AHeap} {s s' : Shared} (T : StepX X P σ s σ' s') {b : Addr} {o : Obj} (e : s.heap.get? b = some o) (q : σ b = none) : σ' b = none := none_of fun o' q' => nos (T.new b o' q q') e
theorem StepX.trans {P : Addr → Prop} {σ σ₁ σ₂ : AHeap} {s s₁ s₂ : Shared} (x : StepX X P σ s σ₁ s₁) (y : StepX X P σ₁ s₁ σ₂ s₂) : StepX X P σ s σ₂ s₂ where
 keep := fun b o p n e q => y.keep b o p n (x.keep b o p n e q) (x.old e q)
 sink := fun p m n => y.sink p m (x.sink p m n)
 new := fun b o q q' => none_of fun o' e => (x.live b o' e).elim fun o1 e1 => nos (y.old e1 (x.old e q)) q'
 live := fun b o e => (x.live b o e).elim fun o' e' => y.live b o' e'
 rest := x.rest.elim fun _ p => p.elim fun _ p => y.rest.elim fun h2 q => q.elim fun t2 q => ⟨h2, t2, q.trans (p ▸ rfl)⟩
theorem StepX.poke {P : Addr → Prop} {σ₀ σ : AHeap} {s₀ s : Shared} {p : Addr} {h' : Heap} {tk : Nat} (T : StepX X P σ₀ s₀ σ s) (u : Poke X N σ s p h') (hp : (P p ∧ ∃ o', h'.get? p = some o') ∨ s₀.heap.get? p = none) : StepX X P σ₀ s₀ σ { s with heap := h', toks := tk } where
 keep := fun b o pb n e q => u.at_ b o (fun z => hp.elim (fun hp => pb (z ▸ hp.1)) fun hp => nos hp (z ▸ e)) (T.keep b o pb n e q)
 sink := fun pG m n => ns_at m (T.sink pG m n) fun o e => u.at_ _ o (fun z => hp.elim (fun hp => pG (z ▸ hp.1)) fun hp => (ns_get n).elim fun _ e' => nos hp (z ▸ e')) e
 new := T.new
 live := fun b o e => (T.live b o e).elim fun o' e' => (Decidable.em (b = p)).elim (fun z => hp.elim (fun hp => z ▸ hp.2) fun hp => (nos hp (z ▸ e)).elim) fun z => ⟨o', u.at_ _ _ z e'⟩
 rest := T.rest.elim fun _ q => q.elim fun _ q => ⟨h', tk, q ▸ rfl⟩
theorem StepX.fresh {P : Addr → Prop} {σ₀ σ : AHeap} {s₀ s : Shared} (T : StepX X P σ₀ s₀ σ s) {p : Addr} (h : s.heap.get? p = none) : s₀.heap.get? p = none := none_of fun o e => (T.live p o e).elim fun _ y => nos h y
theorem StepX.after {P : Addr → Prop} {σ σ₁ σ₂ : AHeap} {s s₁ s₂ : Shared} (x : Step X σ s σ₁ s₁) (y : StepX X P σ₁ s₁ σ₂ s₂) (hp : ∀ p, P p → s.heap.get? p = none) : Step X σ s σ₂ s₂ where
 keep := fun b o n e q => y.keep b o (fun p => nos (hp b p) e) n (x.keep b o n e q) (x.up0 b o n e q).2
 sink := fun m n => y.sink (fun p => (ns_get n).elim fun _ e => nos (hp _ p) e) m (x.sink m n)
 new := ((StepX.of (P := P) x).trans y).new
 live := ((StepX.of (P := P) x).trans y).live
 rest := ((StepX.of (P := P) x).trans y).rest
theorem StepX.mono {P P' : Addr → Prop} {σ σ' : AHeap} {s s' : Shared} (T : StepX X P σ s σ' s') (h : ∀ p, P p → P' p ∨ s.heap.get? p = none) : StepX X P' σ s σ' s' :=
 ⟨fun b o p n e q => T.keep b o (fun z => (h b z).elim p fun y => nos y e) n e q, fun p m n => T.sink (fun z => (h _ z).elim p fun y => (ns_get n).elim fun _ e => nos y e) m n, T.new, T.live, T.rest⟩
inductive Pokes (X : Cx) (N : Hid) (σ : AHeap) (P : Addr → Prop) : Shared → Shared → Prop
 | refl (s) : Pokes X N σ P s s
 | step {s h' tk s'} (p : Addr) : Poke X N σ s p h' → ((P p ∧ ∃ o', h'.get? p = some o') ∨ s.heap.get? p = none) → (∀ o, s.heap.get? p = some o → isSlotObj o) → Pokes X N σ P { s with heap := h', toks := tk } s' → Pokes X N σ P s s'
section
variable {P : Addr → Prop}
theorem Pokes.trans {σ : AHeap} {s s₁ s₂ : Shared} (x : Pokes X N σ P s s₁) (y : Pokes X N σ P s₁ s₂) : Pokes X N σ P s s₂ := Pokes.rec (motive := fun s s₁ _ => Pokes X N σ P s₁ s₂ → Pokes X N σ P s s₂) (fun _ y => y) (fun p a b c _ ih y => .step p a b c (ih y)) x y
theorem Pokes.vrel {σ : AHeap} {s s' : Shared} (x : Pokes X N σ P s s') {v : V} {val : Value} (r : VRel (hid N σ) s.heap v val) : VRel (hid N σ) s'.heap v val := Pokes.rec (motive := fun s s' _ => VRel (hid N σ) s.heap v val → VRel (hid N σ) s'.heap v val) (fun _ r => r) (fun _ a _ _ _ ih r => ih (r.poke a)) x r
theorem Pokes.vrels {σ : AHeap} {s s' : Shared} (x : Pokes X N σ P s s') {l : List V} {vs : List Value} (r : VRels (hid N σ) s.heap l vs) : VRels (hid N σ) s'.heap l vs := Pokes.rec (motive := fun s s' _ => VRels (hid N σ) s.heap l vs → VRels (hid N σ) s'.heap l vs) (fun _ r => r) (fun _ a _ _ _ ih r => ih (r.poke a)) x r
theorem Pokes.st {σ : AHeap} {s s' : Shared} (x : Pokes X N σ P s s') (r : St X N σ s) : St X N σ s' := Pokes.rec (motive := fun s s' _ => St X N σ s → St X N σ s') (fun _ r => r) (fun _ a _ _ _ ih r => ih (r.poke a)) x r
theorem Pokes.stepX {σ : AHeap} {s s' : Shared} (x : Pokes X N σ P s s') : StepX X P σ s σ s' := Pokes.rec (motive := fun s s' _ => StepX X P σ s σ s') (fun _ => .refl ..) (fun _ a b _ _ ih => ((StepX.refl _ _ _).poke a b).trans ih) x
theorem Pokes.get {σ : AHeap} {s s' : Shared} (x : Pokes X N σ P s s') {b : Addr} {o : Obj} (e : s.heap.get? b = some o) (ho : ¬ isSlotObj o) : s'.heap.get? b = some o := Pokes.rec (motive := fun s s' _ => s.heap.get? b = some o → s'.heap.get? b = some o) (fun _ e => e) (fun _ a _ c _ ih e => ih (a.at_ _ _ (fun z => ho (c _ (z ▸ e))) e)) x e
theorem fields_not_slot {o : Obj} (h : isFields o) : ¬ isSlotObj o := fun h' => h.elim fun _ e => h'.elim (fun z => z.elim fun _ z => z.elim fun _ q => Data.noConfusion (e.symm.trans q)) fun z => z.elim fun _ q => Data.noConfusion (e.symm.trans q)
theorem Pokes.iter {σ : AHeap} {s s' : Shared} (x : Pokes X N σ P s s') {it : Addr} {l : List V} (r : Iter (hid N σ) s.heap it l) : Iter (hid N σ) s'.heap it l :=
 Pokes.rec (motive := fun s s' _ => Iter (hid N σ) s.heap it l → Iter (hid N σ) s'.heap it l) (fun _ r => r) (fun _ a _ c _ ih r => ih (r.poke a fun z => r.fields.elim fun _ f => fields_not_slot f.2 (c _ (z ▸ f.1)))) x r
end
structure Own (P : Addr → Prop) (sc : Scope) (env : Env) (loc : Bool) : Prop where
 here : P env.locals
 cell : loc = false → ∀ x c, sc.names.lookup x = some .cell → env.cells.lookup x = some c → P c
theorem set_get {ρ : List V} {i j : Nat} {v u : V} (h : (ρ.set i v)[j]? = some u) : (j = i ∧ u = v) ∨ (j ≠ i ∧ ρ[j]? = some u) :=
 (Decidable.em (j = i)).elim (fun e => .inl ⟨e, by
  subst e
  rw [List.getElem?_set_self'] at h
  exact (Option.map_eq_some_iff.mp h).elim fun _ q => q.2.symm⟩) fun e => .inr ⟨e, (List.getElem?_set_ne (Ne.symm e)).symm.trans h⟩
theorem slot_set {G : Prop} {nm : List (PySem.Str × Nat)} (inj : ∀ x y i, nm.lookup x = some i → nm.lookup y = some i → x = y) {ρ : List V} {i j : Nat} {v u : V} {x id : PySem.Str} (hn : nm.lookup id = some i) (hx : nm.lookup x = some j) (hu : (ρ.set i v)[j]? = some u)
  (h1 : x = id → u = v → G) (h2 : x ≠ id → ρ[j]? = some u → G) : G :=
 (set_get hu).elim (fun e => h1 (inj _ _ _ (e.1 ▸ hx) hn) e.2) fun e => h2 (fun z => e.1 (inj_some hx (z ▸ hn))) e.2
theorem eq_kind {α β : Type} {f : α → Option β} {x y : α} {a b : β} (e : x = y) (h : f y = some a) (h' : f x = some b) : a = b := Option.some.inj (h.symm.trans ((congrArg f e.symm).trans h'))
theorem cell_ne_ns {h : Heap} {c a : Addr} {ov m} (x : h.IsCell c ov) (n : h.Ns a m) : c ≠ a := fun z => x.elim fun _ q => (ns_dict n).elim fun _ y => y.elim fun _ y => y.elim fun _ y => Data.noConfusion (q.2.symm.trans ((congrArg Obj.data (inj_some (z ▸ q.1) y.1)).trans y.2))
theorem ns_slot {h : Heap} {a : Addr} {m} (n : h.Ns a m) (o : Obj) (e : h.get? a = some o) : isSlotObj o := (ns_dict n).elim fun _ y => y.elim fun es y => y.elim fun ep y => .inl ⟨es, ep, (congrArg Obj.data (inj_some e y.1)).trans y.2⟩
theorem cell_slot {h : Heap} {a : Addr} {ov} (n : h.IsCell a ov) (o : Obj) (e : h.get? a = some o) : isSlotObj o := n.elim fun _ y => .inr ⟨_, (congrArg Obj.data (inj_some e y.1)).trans y.2⟩
theorem slot_not_seq {o : Obj} (h : isSlotObj o) (xs n) : o.data ≠ .seq xs n := fun q => h.elim (fun z => z.elim fun _ z => z.elim fun _ z => Data.noConfusion (z.symm.trans q)) fun z => z.elim fun _ z => Data.noConfusion (z.symm.trans q)
theorem assign_name {sc : Scope} {nm : List (PySem.Str × Nat)} {env : Env} {ρ : List V} {σ : AHeap} {P : Addr → Prop} {s : Shared} {A : Around} {id : PySem.Str} {i : Nat} {v : V} {val : Value} {loc : Bool} {Q : Unit → Shared → Prop} (O : Own P sc env loc)
  (hn : nm.lookup id = some i) (hk : sc.names.lookup id = some .local ∨ (loc = false ∧ sc.names.lookup id = some .cell)) (S : St X N σ s) (F : FrOk X N sc nm env ρ σ s.heap) (V₁ : VRel (hid N σ) s.heap v val)
  (h : ∀ s', Pokes X N σ P s s' → FrOk X N sc nm env (ρ.set i v) σ s'.heap → Q () s') : wpAny (model X.prog X.w) A (storeName env id val) Q NoE s :=
 F.ns.rec fun m y yr => hk.elim
  (fun hk => wpAny_storeName_local ((F.of id).trans hk) y (fun h' n' hs =>
   have PK : Poke X N σ s env.locals h' := ⟨(hid_none.mp F.own.1).2, F.own.2, (Decidable.em (env.locals = X.G)).elim (fun z => z ▸ ⟨_, n'⟩) (fun z => S.ns.elim fun m2 n2 => ⟨m2, ns_at m2 n2 fun o e => (hs.2 _ (Ne.symm z)).trans e⟩),
    .inl (fun o xs k e => slot_not_seq (ns_slot y o e) xs k), fun b o ne e => (hs.2 b ne).trans e, fun _ => ns_get n'⟩
   h _ (.step env.locals PK (.inl ⟨O.here, ns_get n'⟩) (ns_slot y) (.refl _))
    ⟨F.scope, F.kind, F.glob, F.blt, ⟨_, n', fun x j hx hxl u hu hne => slot_set F.inj hn hx hu (fun e ev => ⟨val, if_pos e, ev ▸ V₁.poke PK⟩) fun ne hu' => (yr x j hx hxl u hu' hne).elim fun w z => ⟨w, (if_neg ne).trans z.1, z.2.poke PK⟩⟩,
     fun x hx => (F.cell x hx).rec fun c ov a b d e r => ⟨c, ov, a, b.elim fun oc q => ⟨oc, (hs.2 c (cell_ne_ns b y)).trans q.1, q.2⟩, d, e, fun j hx' u hu hne => slot_set F.inj hn hx' hu
      (fun e _ => hx.elim (fun hx => nomatch eq_kind (f := fun z => sc.names.lookup z) e hk hx) fun hx => nomatch eq_kind (f := fun z => sc.names.lookup z) e hk hx) fun _ hu' => (r j hx' u hu' hne).elim fun w z => ⟨w, z.1, z.2.poke PK⟩⟩, F.own, F.inj, F.cinj⟩) (F.fn ▸ rfl))
  fun hk => (F.cell id (.inl hk.2)).rec fun c ov a2 b2 d2 e2 r2 => wpAny_storeName_cell F.fn ((F.of id).trans hk.2) a2 b2 (fun h' hc hs =>
   have hlive : ∃ o', h'.get? c = some o' := hc.elim fun o2 q => ⟨o2, q.1⟩
   have PK : Poke X N σ s c h' := .mk' S (hid_none.mp d2).2 e2 (S.ns.elim fun _ n => cell_ne_ns b2 n) (.inl fun o xs k e => slot_not_seq (cell_slot b2 o e) xs k) (fun b o ne e => (hs.2 b ne).trans e) fun _ => hlive
   h { s with heap := h' } (.step (tk := s.toks) c PK (.inl ⟨O.cell hk.1 _ _ hk.2 a2, hlive⟩) (cell_slot b2) (.refl _))
    ⟨F.scope, F.kind, F.glob, F.blt, ⟨m, ns_at m y fun o e => (hs.2 _ (Ne.symm (cell_ne_ns b2 y))).trans e, fun x j hx hxl u hu hne => slot_set F.inj hn hx hu (fun e _ => nomatch eq_kind (f := fun z => sc.names.lookup z) e hk.2 hxl) fun _ hu' => (yr x j hx hxl u hu' hne).elim fun w z => ⟨w, z.1, z.2.poke PK⟩⟩,
     fun x hx => (F.cell x hx).rec fun c' ov' a b d e r => (Decidable.em (c' = c)).elim
      (fun q => have xi := F.cinj _ _ _ (q ▸ a) a2
       ⟨c, some val, q ▸ a, hc, d2, e2, fun j hx' u hu hne => slot_set F.inj hn hx' hu (fun _ ev => ⟨val, rfl, ev ▸ V₁.poke PK⟩) fun ne _ => (ne xi).elim⟩)
      fun q => ⟨c', ov', a, b.elim fun oc w => ⟨oc, (hs.2 c' q).trans w.1, w.2⟩, d, e, fun j hx' u hu hne => slot_set F.inj hn hx' hu (fun e _ => (q (inj_some a (e ▸ a2))).elim) fun _ hu' => (r j hx' u hu' hne).elim fun w z => ⟨w, z.1, z.2.poke PK⟩⟩, F.own, F.inj, F.cinj⟩)
noncomputable def tgOk (sc : Scope) (nm : List (PySem.Str × Nat)) (loc : Bool) (i : Nat) (id : PySem.Str) : Prop := nm.lookup id = some i ∧ (sc.names.lookup id = some .local ∨ (loc = false ∧ sc.names.lookup id = some .cell))
theorem tgId_inv {sc : Scope} {nm : List (PySem.Str × Nat)} {loc : Bool} {i : Nat} {id : PySem.Str} (h : tgId sc nm loc i id = true) : tgOk sc nm loc i id :=
 ⟨eq_of_beq (a2 h).1, (o2 (a2 h).2).imp eq_of_beq fun h => ⟨(Bool.not_eq_true' _).mp (a2 h).1, eq_of_beq (a2 h).2⟩⟩
theorem assign_in_order {sc : Scope} {nm : List (PySem.Str × Nat)} {env : Env} {σ : AHeap} {P : Addr → Prop} {A : Around} {loc : Bool} {Q : Unit → Shared → Prop} (O : Own P sc env loc) (is : List Nat) : ∀ {es : List PySem.Expr} {l : List V} {vals : List Value} {ρ : List V} {s : Shared},
  matTgs sc nm loc is es = true → l.length = is.length → St X N σ s → FrOk X N sc nm env ρ σ s.heap → VRels (hid N σ) s.heap l vals →
  (∀ s', Pokes X N σ P s s' → FrOk X N sc nm env (setAll ρ is l) σ s'.heap → Q () s') → wpAny (model X.prog X.w) A (assignInOrder ((assignEach es env).map (·.2)) vals) Q NoE s := by
 induction is with
 | nil =>
  intro es l vals ρ s hm hl S F Vs h
  refine v0_inv (P := fun es => wpAny (model X.prog X.w) A (assignInOrder ((assignEach es env).map (·.2)) vals) Q NoE s) es hm ?_
  rcases l with _ | ⟨_, _⟩
  ·exact Vs.zero vals (wpAny_pure (h s (.refl s) F))
  ·cases hl
 | cons i is ih =>
  intro es l vals ρ s hm hl S F Vs h
  refine vc_inv (P := fun es => wpAny (model X.prog X.w) A (assignInOrder ((assignEach es env).map (·.2)) vals) Q NoE s) es hm fun x es hm => vName_inv x (a2 hm).1 fun id pos ht => ?_
  rcases l with _ | ⟨v1, l1⟩
  ·cases hl
  ·exact Vs.uncons (P := fun vals => wpAny (model X.prog X.w) A (assignInOrder ((assignEach (.Name id pos :: es) env).map fun x : Bool × (Value → Sem Unit) => x.2) vals) Q NoE s) vals fun val vs1 v r => (wpAny_bind (wpAny_holding (wpAny_assign_Name (assign_name O (tgId_inv ht).1 (tgId_inv ht).2 S F v fun s' P1 F' =>
    ih (a2 hm).2 (Nat.succ.inj hl) (P1.st S) F' (P1.vrels r) fun s'' P' F'' => h s'' (P1.trans P') F''))) : wpAny _ _ (holding vs1 (assign (.Name id pos) env val) >>= fun _ => assignInOrder ((assignEach es env).map (·.2)) vs1) Q NoE s)
theorem eachPlain {env : Env} {sc : Scope} {nm : List (PySem.Str × Nat)} {loc : Bool} (is : List Nat) : ∀ {es : List PySem.Expr}, matTgs sc nm loc is es = true → (assignEach es env).length = is.length ∧ (assignEach es env).findIdx? (·.1) = none :=
 List.rec (motive := fun is => ∀ {es : List PySem.Expr}, matTgs sc nm loc is es = true → (assignEach es env).length = is.length ∧ (assignEach es env).findIdx? (·.1) = none) (fun {es} hm => v0_inv es hm ⟨rfl, rfl⟩)
  (fun i is ih {es} hm => vc_inv es hm fun x es hm => vName_inv x (a2 hm).1 fun id pos _ => have z := ih (a2 hm).2
   ⟨congrArg (· + 1) z.1, (List.findIdx?_cons (p := fun (x : Bool × (Value → Sem Unit)) => x.1)).trans (by rw [z.2]; rfl)⟩) is
theorem ext_poke {P : Addr → Prop} {σ : AHeap} {s : Shared} {h' : Heap} (S : St X N σ s) (he : Heap.ExtBut s.heap.objs.size s.heap h') : Pokes X N σ P s { s with heap := h' } :=
 have hn : s.heap.get? s.heap.objs.size = Option.none := get_ge_none (Nat.le_refl _)
 .step (tk := s.toks) _ (.mk' S (S.free_of_none hn) (S.H0_of_none hn) (S.neG_none hn) (.inl fun _ _ _ e => (nos hn e).elim) he fun z => z.elim fun _ e => (nos (S.hid_fresh hn) e).elim) (.inr hn) (fun _ e => (nos hn e).elim) (.refl _)
theorem ext_fr {sc : Scope} {nm : List (PySem.Str × Nat)} {env : Env} {ρ : List V} {σ : AHeap} {s : Shared} {h' : Heap} (S : St X N σ s) (he : Heap.ExtBut s.heap.objs.size s.heap h') (F : FrOk X N sc nm env ρ σ s.heap) : FrOk X N sc nm env ρ σ h' :=
 have g : Grow X s.heap h' := .of_all fun b o e => he b o (Nat.ne_of_lt (Heap.lt_size e)) e
 F.up (g.up S) g.sink (hid_none.mpr ⟨S.hid_G, S.gfree⟩)
theorem assign_tg {sc : Scope} {nm : List (PySem.Str × Nat)} {env : Env} {σ : AHeap} {P : Addr → Prop} {A : Around} {loc : Bool} {Q : Unit → Shared → Prop} {t : Tg} {tg : PySem.Expr} {v : V} {val : Value} {ρ : List V} {s : Shared} {QR : List V → Prop} (O : Own P sc env loc)
  (hh : A.handled = none) (hm : matTg sc nm loc t tg = true) (S : St X N σ s) (F : FrOk X N sc nm env ρ σ s.heap) (V₁ : VRel (hid N σ) s.heap v val) (hq : asgP t v ρ QR)
  (h : ∀ s' ρ', Pokes X N σ P s s' → FrOk X N sc nm env ρ' σ s'.heap → QR ρ' → Q () s') : wpAny (model X.prog X.w) A (assign tg env val) Q NoE s := by
 rcases t with i | is
 ·exact vName_inv tg hm fun id pos ht => wpAny_assign_Name (assign_name O (tgId_inv ht).1 (tgId_inv ht).2 S F V₁ fun s' P1 F' => h s' _ P1 F' hq)
 ·refine vTup_inv tg hm fun es n pos hm => ?_
  have e := eachPlain (env := env) is hm
  have go : ∀ (l : List V) (vs : Array Value) (h' : Heap), l.length = is.length → VRels (hid N σ) s.heap l vs.toList → Heap.ExtBut s.heap.objs.size s.heap h' → QR (setAll ρ is l) →
    wpAny (model X.prog X.w) A (assignInOrder ((assignEach es env).map (·.2)) vs.toList) Q NoE { s with heap := h' } := fun l vs h' hl Vs he hq =>
   have PP := ext_poke (P := P) S he
   assign_in_order O is hm hl (PP.st S) (ext_fr S he F) (PP.vrels Vs) fun s' P' F' => h s' _ (PP.trans P') F' hq
  rcases v with _ | _ | _ | _ | _ | _ | l | l | _ <;> first | exact hq.elim | skip
  ·exact V₁.tup_inv.elim fun a y => y.elim fun vs y => y.1 ▸ wpAny_assign_Tuple hh y.2.2.1 (e.1.trans (hq.1.symm.trans y.2.2.2.2.sz)) e.2 fun h' he => go l _ h' hq.1 y.2.2.2.2 he hq.2
  ·refine V₁.list_inv.elim fun a y => y.elim fun vs y => y.1 ▸ ?_
   rw [arm_assign_Tuple]
   refine wpAny_bind (wpAny_standAt ?_)
   unfold unpack
   rw [show (assignEach es env).length = vs.size from e.1.trans (hq.1.symm.trans y.2.2.2.2.sz),e.2]
   exact wpAny_bind (wpAny_holding (unpackItems_list hh y.2.2.1.isList fun h' he => go l _ h' hq.1 y.2.2.2.2 he hq.2))
end
end Mine
end

section
open PySem PySem.Calls PyProof.Rows PySem.W
set_option maxRecDepth 20000
namespace Mine
variable {N : Hid}
section
variable {prog : Program} {w : World} {A : Around} {s : Shared} {R : Result → Shared → Prop}
noncomputable def testsOf (ifs : List PySem.Expr) (env : Env) : Sem Bool :=
 forIn ifs true fun c r => if r = true then do let ok ← isTrue c env (eval c env); pure (ForInStep.yield ok) else pure (ForInStep.yield r)
theorem compTurn_in {elt : PySem.Expr} {gens : List Comprehension} {scope : Scope} {pos : Pos} {d : Nat} {it acc : Value} {env : Env} {tg iter : PySem.Expr} {ifs : List PySem.Expr} {tg' iter' : PySem.Expr} {ifs' : List PySem.Expr}
  (h : gens[d]? = some ⟨tg, iter, ifs, 0⟩) (h' : gens[d + 1]? = some ⟨tg', iter', ifs', 0⟩) :
  compTurn (.ListComp elt gens scope pos) d it acc env = (do
   standAt iter.pos
   match ← pyNext it with
   | none => pure (.done .next)
   | some v =>
    letOwnedTupleGo tg it v
    assign tg env v
    let ok ← testsOf ifs env
    if ok then
     let x ← eval iter' env
     standAt iter'.pos
     let x ← foldedSetIterable iter' env x
     let _ ← runOwn (.compStart (.ListComp elt gens scope pos) (d + 1) (← holding [x] (pyIter x)) acc env) env
    again (.compLoop (.ListComp elt gens scope pos) d it acc env)) := by
 unfold compTurn
 simp only [h,h']
 rfl
theorem compTurn_end {elt : PySem.Expr} {gens : List Comprehension} {scope : Scope} {pos : Pos} {d : Nat} {it acc : Value} {env : Env} {tg iter : PySem.Expr} {ifs : List PySem.Expr}
  (h : gens[d]? = some ⟨tg, iter, ifs, 0⟩) (h' : gens[d + 1]? = none) :
  compTurn (.ListComp elt gens scope pos) d it acc env = (do
   standAt iter.pos
   match ← pyNext it with
   | none => pure (.done .next)
   | some v =>
    letOwnedTupleGo tg it v
    assign tg env v
    let ok ← testsOf ifs env
    if ok then
     (do let _ ← call (.builtin "list.append") [acc, ← eval elt env])
    again (.compLoop (.ListComp elt gens scope pos) d it acc env)) := by
 unfold compTurn
 simp only [h,h']
 rfl
noncomputable def innerP (prog : Program) (w : World) (A : Around) (elt : PySem.Expr) (gens : List Comprehension) (scope : Scope) (pos : Pos) (d : Nat) (acc : Value) (env : Env) (Q : Shared → Prop) (s : Shared) : Prop := match gens[d + 1]? with
 | some g => wpAny (model prog w) A (eval g.iter env) (fun x s₁ => wpAny (model prog w) A (foldedSetIterable g.iter env x) (fun x s₂ => wpAny (model prog w) A (pyIter x) (fun it s₃ =>
   codeAny (model prog w) A (.compStart (.ListComp elt gens scope pos) (d + 1) it acc env) (fun r s₄ => match r with | .ok _ => Q s₄ | .error _ => False) s₃) NoE s₂) NoE s₁) NoE s
 | none => wpAny (model prog w) A (eval elt env) (fun x s₁ => wpAny (model prog w) A (call (.builtin "list.append") [acc, x]) (fun _ s₂ => Q s₂) NoE s₁) NoE s
theorem innerP_mono {elt : PySem.Expr} {gens : List Comprehension} {scope : Scope} {pos : Pos} {d : Nat} {acc : Value} {env : Env} {Q Q' : Shared → Prop} (f : ∀ s, Q s → Q' s) (h : innerP prog w A elt gens scope pos d acc env Q s) : innerP prog w A elt gens scope pos d acc env Q' s := by
 unfold innerP at h ⊢
 rcases e : gens[d + 1]? with _ | g <;> rw [e] at h
 ·exact wpAny_mono h (fun _ _ h => wpAny_mono h (fun _ _ q => f _ q) fun _ _ x => x) fun _ _ x => x
 ·exact wpAny_mono h (fun _ _ h => wpAny_mono h (fun _ _ h => wpAny_mono h (fun _ _ h => codeAny_mono h fun r s q => Except.casesOn (motive := fun r => (match r with | .ok _ => Q s | .error _ => False) → (match r with | .ok _ => Q' s | .error _ => False)) r (fun _ => id) (fun _ => f s) q) fun _ _ x => x) fun _ _ x => x) fun _ _ x => x
theorem compLoop_at {elt : PySem.Expr} {gens : List Comprehension} {scope : Scope} {pos : Pos} {d : Nat} {it acc : Value} {env : Env} {tg iter : PySem.Expr} {ifs : List PySem.Expr}
  (hg : gens[d]? = some ⟨tg, iter, ifs, 0⟩) (hs : ∀ g, gens[d + 1]? = some g → g.is_async = 0) (I : Nat → Shared → Prop)
  (turn : ∀ n s, I n s → wpAny (model prog w) A (pyNext it) (fun r s₁ => match r with
   | none => R (.ok .next) s₁
   | some v => wpAny (model prog w) A (letOwnedTupleGo tg it v) (fun _ s₁' => wpAny (model prog w) A (assign tg env v) (fun _ s₂ =>
     wpAny (model prog w) A (testsOf ifs env) (fun ok s₃ =>
      if ok = true then innerP prog w A elt gens scope pos d acc env (fun s₄ => ∃ m, m < n ∧ I m s₄) s₃
      else ∃ m, m < n ∧ I m s₃) NoE s₂) NoE s₁') NoE s₁) NoE s)
  (n : Nat) (h : I n s) : codeAny (model prog w) A (.compLoop (.ListComp elt gens scope pos) d it acc env) R s := by
 refine codeAny_loop rfl I (fun n s hI => ?_) n h
 show wpAny _ A ((compTurn (.ListComp elt gens scope pos) d it acc env).onRaise (fun x => do noteFrame x env; theTreesLotGoes x)) _ _ s
 refine wpAny_noted ?_
 cases h' : gens[d + 1]? with
 | none =>
  rw [compTurn_end hg h']
  refine wpAny_bind (wpAny_standAt (wpAny_bind (wpAny_mono (turn n s hI) (fun r s₁ h₁ => ?_) fun _ _ h' => h'.elim)))
  cases r with
  | none => exact wpAny_pure h₁
  | some v =>
   refine wpAny_bind (wpAny_mono h₁ (fun _ s₁' h₁' => wpAny_bind (wpAny_mono h₁' (fun _ s₂ h₂ => wpAny_bind (wpAny_mono h₂ (fun ok s₃ h₃ => ?_) fun _ _ h' => h'.elim)) fun _ _ h' => h'.elim)) fun _ _ h' => h'.elim)
   cases ok with
   | false => exact wpAny_pure ⟨rfl, h₃⟩
   | true =>
    unfold innerP at h₃
    rw [if_pos rfl,h'] at h₃
    exact wpAny_bind (wpAny_bind (wpAny_mono h₃ (fun x s₄ h₄ => wpAny_bind (wpAny_mono h₄ (fun _ s₅ h₅ => wpAny_pure (wpAny_pure ⟨rfl, h₅⟩)) fun _ _ h' => h'.elim)) fun _ _ h' => h'.elim))
 | some g =>
  obtain ⟨a, b, c, e⟩ := g
  obtain rfl : e = 0 := hs _ h'
  rw [compTurn_in hg h']
  refine wpAny_bind (wpAny_standAt (wpAny_bind (wpAny_mono (turn n s hI) (fun r s₁ h₁ => ?_) fun _ _ h' => h'.elim)))
  cases r with
  | none => exact wpAny_pure h₁
  | some v =>
   refine wpAny_bind (wpAny_mono h₁ (fun _ s₁' h₁' => wpAny_bind (wpAny_mono h₁' (fun _ s₂ h₂ => wpAny_bind (wpAny_mono h₂ (fun ok s₃ h₃ => ?_) fun _ _ h' => h'.elim)) fun _ _ h' => h'.elim)) fun _ _ h' => h'.elim)
   cases ok with
   | false => exact wpAny_pure ⟨rfl, h₃⟩
   | true =>
    unfold innerP at h₃
    rw [if_pos rfl,h'] at h₃
    refine wpAny_bind (wpAny_mono h₃ (fun x s₄ h₄ => ?_) fun _ _ h' => h'.elim)
    refine wpAny_bind (wpAny_standAt ?_)
    refine wpAny_bind (wpAny_mono h₄ (fun x' s₅ h₅ => ?_) fun _ _ h' => h'.elim)
    refine wpAny_bind (wpAny_holding (wpAny_mono h₅ (fun it' s₆ h₆ => ?_) fun _ _ h' => h'.elim))
    have h₆' : codeAny (model prog w) (A.mark none) (.compStart (.ListComp elt gens scope pos) (d + 1) it' acc env) _ s₆ := h₆
    refine wpAny_bind (wpAny_runOwn (codeAny_mono h₆' fun r s₇ h₇ => ?_))
    cases r with
    | ok f => exact wpAny_pure ⟨rfl, h₇⟩
    | error x => exact h₇.elim
theorem compStart_at {elt : PySem.Expr} {gens : List Comprehension} {scope : Scope} {pos : Pos} {d : Nat} {it acc : Value} {env : Env} {g : Comprehension}
  (hg : gens[d]? = some g) (hs : g.is_async = 0)
  (h0 : codeAny (model prog w) A (.compLoop (.ListComp elt gens scope pos) d it acc env) R s)
  (h : wpAny (model prog w) A (pyIter it) (fun it' s' => codeAny (model prog w) A (.compLoop (.ListComp elt gens scope pos) d it' acc env) R s') NoE s) :
  codeAny (model prog w) A (.compStart (.ListComp elt gens scope pos) d it acc env) R s := by
 refine codeAny_of_tree ?_
 have hA : A.under (.compStart (.ListComp elt gens scope pos) d it acc env) = A := rfl
 show wpAny _ _ ((compStart (.ListComp elt gens scope pos) d it acc env).onRaise (fun x => do noteFrame x env; standAt theWindowsPlace)) _ _ s
 refine wpAny_notedAt ?_
 rw [hA]
 unfold compStart
 have hc : clausesOf (.ListComp elt gens scope pos) = gens := rfl
 rw [hc,hg]
 have ha : (some g).elim false (fun x => x.is_async != 0) = false := by show (g.is_async != 0) = false; rw [hs]; rfl
 rw [ha]
 show wpAny _ _ (ask >>= _) _ _ s
 refine wpAny_bind (wpAny_askSetting (wpAny_ite ?_))
 split
 ·first
   | exact wpAny_bind (wpAny_pure (wpAny_pure (And.intro rfl h0)))
   | exact wpAny_pure (And.intro rfl h0)
 ·first
   | exact wpAny_bind (wpAny_rule (wpAny_bind (wpAny_standAt (wpAny_bind (wpAny_mono h (fun it' s' h' => wpAny_pure (And.intro rfl h')) fun _ _ x => x.elim)))))
   | (refine wpAny_bind (wpAny_rule ?_); show wpAny _ _ (standAt g.iter.pos >>= _) _ _ s; exact wpAny_bind (wpAny_standAt (wpAny_bind (wpAny_mono h (fun it' s' h' => wpAny_pure (And.intro rfl h')) fun _ _ x => x.elim))))
end
end Mine
end

section
open PySem PySem.Calls PyProof.Rows PySem.W
set_option maxRecDepth 20000
namespace Mine
variable {N : Hid}
section
variable {X : Cx} {k : Nat}
theorem FrOk.poke {sc : Scope} {nm : List (PySem.Str × Nat)} {env : Env} {ρ : List V} {σ : AHeap} {s : Shared} {p : Addr} {h' : Heap} (F : FrOk X N sc nm env ρ σ s.heap) (u : Poke X N σ s p h') (hp : ∀ o, s.heap.get? p = some o → ¬ isSlotObj o) : FrOk X N sc nm env ρ σ h' :=
 F.map (fun m n => ns_at m n fun o e => u.at_ _ o (fun z => hp o (z ▸ e) (ns_slot n o e)) e) (fun _ c _ _ _ b d => ⟨b.elim fun o y => ⟨o, u.at_ c o (fun z => hp o (z ▸ y.1) (cell_slot b o y.1)) y.1, y.2⟩, d⟩) F.own.1 (fun _ _ e _ => e) fun _ _ x => x.poke u
theorem FrOk.mono {sc : Scope} {nm : List (PySem.Str × Nat)} {env : Env} {ρ ρ' : List V} {σ : AHeap} {h : Heap} (F : FrOk X N sc nm env ρ σ h) (le : ∀ (i : Nat) (v : V), ρ'[i]? = some v → v ≠ .undef → ρ[i]? = some v) : FrOk X N sc nm env ρ' σ h :=
 F.map (fun _ n => n) (fun _ _ _ _ _ b d => ⟨b, d⟩) F.own.1 le fun _ _ x => x
theorem seq_not_slot {o : Obj} {xs : Array Value} {n : Nat} (h : o.data = .seq xs n) : ¬ isSlotObj o := fun h' => slot_not_seq h' xs n h
theorem Iter.self {τ : AHeap} {s : Shared} {it : Addr} {l : List V} {A : Around} {E : Value → Shared → Prop} {Q : Value → Shared → Prop} (x : Iter τ s.heap it l) (h : Q (.ref it) s) : wpAny (model X.prog X.w) A (pyIter (.ref it)) Q E s :=
 Iter.casesOn (motive := fun _ _ => wpAny (model X.prog X.w) A (pyIter (.ref it)) Q E s) x (fun y _ _ _ => wpAny_pyIter_listiter y h) (fun y _ _ _ => wpAny_pyIter_tupleiter y h) (fun y _ => KBw.pyIter_self y h) (fun y _ _ => wpAny_pyIter_rangeiter y h)
theorem owned_go {s : Shared} {it : Addr} {A : Around} {E : Value → Shared → Prop} {Q : Unit → Shared → Prop} {tg : PySem.Expr} {v : Value} {o : Obj} {T : String} {fs : Array Value} (ho : s.heap.get? it = some o) (hc : o.cls = .type T) (hd : o.data = .fields fs)
  (hT : ["enumerate", "zip", "dict_itemiterator", "dict_reverseitemiterator", "odict_iterator", "itertools.zip_longest", "itertools.pairwise"].contains T = false) (h : Q () s) : wpAny (model X.prog X.w) A (letOwnedTupleGo tg (.ref it) v) Q E s := by
 refine PySem.Expr.casesOn (motive_1 := fun tg => wpAny (model X.prog X.w) A (letOwnedTupleGo tg (.ref it) v) Q E s) tg (fun _ _ _ => wpAny_pure h) (fun _ _ _ => wpAny_pure h) (fun _ _ _ _ => wpAny_pure h) (fun _ _ _ => wpAny_pure h) (fun _ _ _ _ => wpAny_pure h) (fun _ _ _ _ => wpAny_pure h) (fun _ _ _ => wpAny_pure h) (fun _ _ _ => wpAny_pure h) (fun _ _ _ _ => wpAny_pure h) (fun _ _ _ _ => wpAny_pure h) (fun _ _ _ _ _ => wpAny_pure h) (fun _ _ _ _ => wpAny_pure h) (fun _ _ => wpAny_pure h) (fun _ _ => wpAny_pure h) (fun _ _ => wpAny_pure h) (fun _ _ _ _ => wpAny_pure h) (fun _ _ _ _ => wpAny_pure h) (fun _ _ _ _ => wpAny_pure h) (fun _ _ => wpAny_pure h) (fun _ _ _ => wpAny_pure h) (fun _ _ _ => wpAny_pure h) (fun _ _ _ => wpAny_pure h) (fun _ _ => wpAny_pure h) (fun _ _ => wpAny_pure h) ?_ ?_ (fun _ _ _ _ => wpAny_pure h)
 all_goals (intros; rcases v with _ | _ | _ | _ | _ | _ | _ | _ | _ | _ | _ | _ | _ | _ <;> first | exact wpAny_pure h | (unfold letOwnedTupleGo; refine wpAny_bind (wpAny_load ho ?_); rw [hc,hd]; dsimp only; rw [hT]; exact wpAny_pure h))
theorem Iter.owned {τ : AHeap} {s : Shared} {it : Addr} {l : List V} {A : Around} {E : Value → Shared → Prop} {Q : Unit → Shared → Prop} {tg : PySem.Expr} {v : Value} (x : Iter τ s.heap it l) (h : Q () s) : wpAny (model X.prog X.w) A (letOwnedTupleGo tg (.ref it) v) Q E s :=
 Iter.casesOn (motive := fun _ _ => wpAny (model X.prog X.w) A (letOwnedTupleGo tg (.ref it) v) Q E s) x (fun y _ _ _ => y.elim fun _ y => owned_go y.1 y.2.1 y.2.2 (by decide) h) (fun y _ _ _ => y.elim fun _ y => owned_go y.1 y.2.1 y.2.2 (by decide) h) (fun y _ => y.elim fun _ y => owned_go y.1 y.2.1 y.2.2 (by decide) h) (fun y _ _ => owned_go y rfl rfl (by decide) h)
theorem tests_ok {c : E} {ifs : List PySem.Expr} (hc : BT X k c) {sc : Scope} {nm : List (PySem.Str × Nat)} {env : Env} {ρ : List V} {σ : AHeap} {Q : Bool → AHeap → Prop} {A : Around} {s : Shared}
  (hm : ifsE (tst c && !isTrueE c) (matE sc nm c) (isTrueE c) ifs = true) (hq : wpE X k c ρ σ (fun u σ₁ => truthP u fun b => Q b σ₁)) (R : Room k A) (S : St X N σ s) (F : FrOk X N sc nm env ρ σ s.heap) :
  wpAny (model X.prog X.w) A (testsOf ifs env) (PostB X N σ s Q) NoE s := by
 rcases ifs with _ | ⟨x, _ | ⟨_, _⟩⟩
 ·have hm : isTrueE c = true := hm
  unfold isTrueE at hm
  split at hm
  ·rename_i e
   exact E.bool.elim (motive_1 := fun c => (if h : c.ctorIdx = 2 then E.bool.elim (motive_1 := fun _ => Bool) c h (fun b => b) else false) = true → (wpE X k c ρ σ fun u σ₁ => truthP u fun b => Q b σ₁) → wpAny (model X.prog X.w) A (testsOf [] env) (PostB X N σ s Q) NoE s) c e
    (fun b hb hq => wpAny_tests_nil ⟨σ, S, .refl .., (show b = true from hb) ▸ hq⟩) ((dif_pos e).trans hm) hq
  ·exact (Bool.false_ne_true hm).elim
 ·exact wpAny_tests_one (hc (a2 (a2 hm).1).1 (a2 hm).2 hq R S F)
 ·exact (Bool.false_ne_true hm).elim
theorem fold_ok {x : PySem.Expr} (h : okTop x = true) (env : Env) (v : Value) : foldedSetIterable x env v = pure v :=
 PySem.Expr.casesOn (motive_1 := fun x => okTop x = true → foldedSetIterable x env v = pure v) x (fun _ _ _ _ => rfl) (fun _ _ _ _ => rfl) (fun _ _ _ _ _ => rfl) (fun _ _ _ _ => rfl) (fun _ _ _ _ _ => rfl) (fun _ _ _ _ _ => rfl) (fun _ _ _ _ => rfl) (fun _ _ _ h => (Bool.false_ne_true h).elim) (fun _ _ _ _ _ => rfl) (fun _ _ _ _ _ => rfl) (fun _ _ _ _ _ _ => rfl) (fun _ _ _ _ _ => rfl) (fun _ _ _ => rfl) (fun _ _ _ => rfl) (fun _ _ _ => rfl) (fun _ _ _ _ _ => rfl) (fun _ _ _ _ _ => rfl) (fun _ _ _ _ _ => rfl) (fun _ _ _ => rfl) (fun _ _ _ _ => rfl) (fun _ _ _ _ => rfl) (fun _ _ _ _ => rfl) (fun _ _ _ => rfl) (fun _ _ _ => rfl) (fun _ _ _ => rfl) (fun _ _ _ _ => rfl) (fun _ _ _ _ _ => rfl) h
theorem folded_of {it : It} {sc : Scope} {nm : List (PySem.Str × Nat)} {x : PySem.Expr} (h : matI sc nm it x = true) (env : Env) (v : Value) : foldedSetIterable x env v = pure v :=
 It.casesOn (motive_3 := fun it => matI sc nm it x = true → foldedSetIterable x env v = pure v) it (fun a h => fold_ok (mat_ok a x h) env v) (fun _ h => vB1_inv x h fun _ _ _ _ _ _ => rfl) (fun _ _ h => vB2_inv x h fun _ _ _ _ _ _ _ => rfl) (fun _ _ _ h => vB3_inv x h fun _ _ _ _ _ _ _ _ => rfl) h
noncomputable def GsT (X : Cx) (k : Nat) : Gs → Prop
 | .nil => True
 | .cons _ it c r => IT X k it ∧ BT X k c ∧ GsT X k r
inductive AccAt (N : Hid) (σ : AHeap) (h : Heap) (D : Addr) (acc : List V) : Prop
 | mk (vs : Array Value) (p : h.PlainList D vs) (n : acc.length ≤ 1000) (r : VRels (hid N σ) h acc vs.toList) : AccAt N σ h D acc
theorem AccAt.step {σ σ' : AHeap} {s s' : Shared} {D : Addr} {acc : List V} (x : AccAt N σ s.heap D acc) (S : St X N σ s) (hD : ∃ o, N D = some o) (T : Step X σ s σ' s') : AccAt N σ' s'.heap D acc :=
 x.rec fun vs p n r => hD.elim fun _ ho => have h := S.hids _ _ ho; ⟨vs, p.elim fun k p => ⟨k, T.keep _ _ h.2.2.2 p h.1⟩, n, r.up (T.up S)⟩
theorem AccAt.poke {σ : AHeap} {s : Shared} {p : Addr} {h' : Heap} {D : Addr} {acc : List V} (x : AccAt N σ s.heap D acc) (u : Poke X N σ s p h') (ne : D ≠ p) : AccAt N σ h' D acc := x.rec fun vs p n r => ⟨vs, p.elim fun k p => ⟨k, u.at_ _ _ ne p⟩, n, r.poke u⟩
theorem AccAt.pokes {P : Addr → Prop} {σ : AHeap} {s s' : Shared} {D : Addr} {acc : List V} (x : AccAt N σ s.heap D acc) (u : Pokes X N σ P s s') : AccAt N σ s'.heap D acc := x.rec fun vs p n r => ⟨vs, p.elim fun k p => ⟨k, u.get p (seq_not_slot rfl)⟩, n, u.vrels r⟩
theorem setAll_keep {j : Nat} (is : List Nat) : ∀ {l : List V} {ρ : List V}, j ∉ is → (setAll ρ is l)[j]? = ρ[j]? :=
 List.rec (motive := fun is => ∀ {l : List V} {ρ : List V}, j ∉ is → (setAll ρ is l)[j]? = ρ[j]?) (fun {l ρ} _ => List.casesOn (motive := fun l => (setAll ρ [] l)[j]? = ρ[j]?) l rfl fun _ _ => rfl)
  (fun i is ih {l ρ} h => List.casesOn (motive := fun l => (setAll ρ (i :: is) l)[j]? = ρ[j]?) l rfl fun v l => (ih (l := l) (ρ := ρ.set i v) fun z => h (.tail _ z)).trans (List.getElem?_set_ne fun e => h (List.mem_cons.mpr (.inl e.symm)))) is
theorem asgP_slots {t : Tg} {v : V} {ρ : List V} {Q : List V → Prop} (h : asgP t v ρ Q) : asgP t v ρ fun ρ' => Q ρ' ∧ (∀ j, j ∉ t.slots → ρ'[j]? = ρ[j]?) := by
 rcases t with i | is
 ·exact ⟨h, fun j hj => List.getElem?_set_ne fun e => hj (List.mem_cons.mpr (.inl e.symm))⟩
 ·rcases v with _ | _ | _ | _ | _ | _ | _ | _ | _ <;> first | exact h.elim | exact ⟨h.1, h.2, fun j hj => setAll_keep is hj⟩
noncomputable def Und (ρ : List V) (is : List Nat) : Prop := ∀ i ∈ is, ∀ v, ρ[i]? = some v → v = .undef
end
end Mine
end

section
open PySem PySem.Calls PyProof.Rows PySem.W
set_option maxRecDepth 20000
namespace Mine
variable {N : Hid}
section
variable {X : Cx} {k : Nat}
noncomputable def PSlot (N : Hid) (P : Addr → Prop) (s : Shared) : Prop := ∀ p, P p → (∃ o, N p = some o) ∨ ∃ o, s.heap.get? p = some o ∧ isSlotObj o
theorem PSlot.not {P : Addr → Prop} {s : Shared} (hP : PSlot N P s) {b : Addr} {o : Obj} (hN : N b = none) (e : s.heap.get? b = some o) (ho : ¬ isSlotObj o) : ¬ P b := fun z => (hP b z).elim (fun y => y.elim fun _ e' => nos hN e') fun y => y.elim fun _ y => ho (inj_some y.1 e ▸ y.2)
theorem StepX.ups {P : Addr → Prop} {σ σ' : AHeap} {s s' : Shared} (T : StepX X P σ s σ' s') (S : St X N σ s) (hP : PSlot N P s) : Kept2 (hid N σ) s.heap (hid N σ') s'.heap := fun b o xs n q e hd => have q := hid_none.mp q
 ⟨hid_none.mpr ⟨q.1, T.old e q.2⟩, T.keep b o (hP.not q.1 e (seq_not_slot hd)) (S.ns.ne e (seq_ne_dict hd)) e q.2⟩
theorem fields_not_seq {o : Obj} (h : isFields o) (xs n) : o.data ≠ .seq xs n := fun q => h.elim fun _ e => Data.noConfusion (e.symm.trans q)
theorem StepX.iter {P : Addr → Prop} {σ σ' : AHeap} {s s' : Shared} (T : StepX X P σ s σ' s') (S : St X N σ s) (hP : PSlot N P s) {it : Addr} {l : List V} (I : ItOk X σ it) (hN : N it = none) (x : Iter (hid N σ) s.heap it l) : Iter (hid N σ') s'.heap it l ∧ ItOk X σ' it :=
 x.fields.elim fun _ f => have np := hP.not hN f.1 (fields_not_slot f.2)
 ⟨x.map (T.ups S hP) fun o' e => T.keep it o' np I.neG e I.free, T.old f.1 I.free, I.h0, I.neG⟩
noncomputable abbrev stepG (X : Cx) (k : Nat) (elt : E) (t : Tg) (ρ : List V) (c : E) (r : Gs) : V → (List V → AHeap → Prop) → List V → AHeap → Prop :=
 fun x (K : List V → AHeap → Prop) acc σ => asgP t x ρ fun ρ' => wpE X k c ρ' σ fun u σ₂ => truthP u fun b => if b = true then acc.length < 1000 ∧ wpG X k (fun ρ σ Q => wpE X k elt ρ σ Q) r none ρ' σ₂ acc K else K acc σ₂
inductive PostG (X : Cx) (N : Hid) (P : Addr → Prop) (σ₀ : AHeap) (s₀ : Shared) (FR : AHeap → Heap → Prop) (D : Addr) (Q : List V → AHeap → Prop) (r : Result) (s' : Shared) : Prop
 | mk (acc : List V) (σ' : AHeap) (e : r = .ok .next) (st : St X N σ' s') (step : StepX X P σ₀ s₀ σ' s') (fr : FR σ' s'.heap) (a : AccAt N σ' s'.heap D acc) (q : Q acc σ') : PostG X N P σ₀ s₀ FR D Q r s'
theorem it_poke {σ : AHeap} {s : Shared} {it : Addr} {l : List V} {h' : Heap} (S : St X N σ s) (I : ItOk X σ it) (hN : N it = none) (x : Iter (hid N σ) s.heap it l) (e : Heap.ExtBut it s.heap h') : Poke X N σ s it h' :=
 x.fields.elim fun _ f => .mk' S I.free I.h0 I.neG (.inl fun _ xs n e' => fields_not_seq (inj_some f.1 e' ▸ f.2) xs n) (fun b o' ne q => e b o' ne q) fun z => z.elim fun _ q => (nos hN q).elim
inductive GI (X : Cx) (N : Hid) (P : Addr → Prop) (σ₀ : AHeap) (s₀ : Shared) (FR : AHeap → Heap → Prop) (D it : Addr) (items : List V) (Q : List V → AHeap → Prop) (s : Shared) : Prop
 | mk (acc : List V) (σ : AHeap) (st : St X N σ s) (step : StepX X P σ₀ s₀ σ s) (fr : FR σ s.heap) (x : Iter (hid N σ) s.heap it items) (I : ItOk X σ it) (a : AccAt N σ s.heap D acc) (q : Q acc σ) : GI X N P σ₀ s₀ FR D it items Q s
theorem GI.fr {P : Addr → Prop} {σ₀ : AHeap} {s₀ : Shared} {FR FR' : AHeap → Heap → Prop} {D it : Addr} {items : List V} {Q : List V → AHeap → Prop} {s : Shared} (f : ∀ σ h, FR σ h → FR' σ h) (g : GI X N P σ₀ s₀ FR D it items Q s) : GI X N P σ₀ s₀ FR' D it items Q s :=
 g.rec fun acc σ S T F x I a q => ⟨acc, σ, S, T, f _ _ F, x, I, a, q⟩
theorem Iter.step {σ σ' : AHeap} {s s' : Shared} {it : Addr} {l : List V} (x : Iter (hid N σ) s.heap it l) (S : St X N σ s) (T : Step X σ s σ' s') (I : ItOk X σ it) : Iter (hid N σ') s'.heap it l ∧ ItOk X σ' it :=
 ⟨x.up (T.up S) fun o e => T.keep it o I.neG e I.free, x.fields.elim fun o f => ⟨(T.up0 it o I.neG f.1 I.free).2, I.h0, I.neG⟩⟩
theorem new_it {σ : AHeap} {s : Shared} (S : St X N σ s) : ItOk X σ s.heap.objs.size := have hn := get_ge_none (Nat.le_refl _); ⟨S.free_of_none hn, S.H0_of_none hn, S.neG_none hn⟩
variable {elt c : E} {t : Tg} {r : Gs} {sc : Scope} {nm : List (PySem.Str × Nat)} {cenv : Env} {eltx : PySem.Expr} {gens : List Comprehension} {scope : Scope} {pos : Pos} {D : Addr} {P : Addr → Prop} {A : Around} {d : Nat}
theorem gturns (hP : ∀ p, P p ↔ (p = cenv.locals ∨ p = D)) (hD : ∃ o, N D = some o) (R : Room k A) {g : Comprehension} (hg : gens[d]? = some ⟨g.target, g.iter, g.ifs, 0⟩) (hs : ∀ g, gens[d + 1]? = some g → g.is_async = 0) (ht : matTg sc nm true t g.target = true)
  (hi : ifsE (tst c && !isTrueE c) (matE sc nm c) (isTrueE c) g.ifs = true) (hc : BT X k c) {ρ : List V} (hu : Und ρ t.slots) {σ₀ : AHeap} {s₀ : Shared} {it : Addr} (hN : N it = none) (hs₀ : s₀.heap.get? it = none) {Q : List V → AHeap → Prop}
  (inner : ∀ (ρ' rs acc : List V) (σ : AHeap) (s : Shared) (K : List V → AHeap → Prop), (∀ j, j ∉ t.slots → ρ'[j]? = ρ[j]?) → St X N σ s → StepX X P σ₀ s₀ σ s → FrOk X N sc nm cenv ρ' σ s.heap → Iter (hid N σ) s.heap it rs → ItOk X σ it → AccAt N σ s.heap D acc → acc.length < 1000 →
   wpG X k (fun ρ σ Q => wpE X k elt ρ σ Q) r none ρ' σ acc K → innerP X.prog X.w A eltx gens scope pos d (.ref D) cenv (GI X N P σ₀ s₀ (fun σ h => FrOk X N sc nm cenv ρ' σ h) D it rs K) s)
  {items : List V} {s : Shared} (gi : GI X N P σ₀ s₀ (fun σ h => FrOk X N sc nm cenv ρ σ h) D it items (fun acc σ => items.foldr (stepG X k elt t ρ c r) Q acc σ) s) :
  codeAny (model X.prog X.w) A (.compLoop (.ListComp eltx gens scope pos) d (.ref it) (.ref D) cenv) (PostG X N P σ₀ s₀ (fun σ' h' => FrOk X N sc nm cenv ρ σ' h') D Q) s := by
 have nD : D ≠ it := fun z => hD.elim fun _ y => nos hN (z ▸ y)
 refine compLoop_at hg hs (fun n s => ∃ items : List V, items.length = n ∧ GI X N P σ₀ s₀ (fun σ h => FrOk X N sc nm cenv ρ σ h) D it items (fun acc σ => items.foldr (stepG X k elt t ρ c r) Q acc σ) s) ?_ items.length ⟨items, rfl, gi⟩
 intro n s hI
 refine hI.elim fun items hI => hI.2.rec fun acc σ S T F x I a hq => ?_
 have FP : ∀ {h' : Heap}, Poke X N σ s it h' → FrOk X N sc nm cenv ρ σ h' := fun PK => F.poke PK fun o e => x.fields.elim fun _ f => fields_not_slot (inj_some f.1 e ▸ f.2)
 refine iter_next R.1 S I x (fun e h' he => ?_) fun v rs e val h' tk PK V₁ x₁ => ?_
 ·have PK := it_poke S I hN x he
  exact ⟨acc, σ, rfl, S.poke (tk := s.toks) PK, T.poke (tk := s.toks) PK (.inr hs₀), FP PK, a.poke PK nD, (e ▸ hq : List.foldr (stepG X k elt t ρ c r) Q [] acc σ)⟩
 ·have S₁ := S.poke (tk := tk) PK
  refine Iter.owned (s := { s with heap := h', toks := tk }) x₁ (assign_tg (P := P) (s := { s with heap := h', toks := tk }) ⟨(hP _).mpr (.inl rfl), fun h => Bool.noConfusion h⟩ R.1 ht S₁ (FP PK) V₁
   (asgP_slots (show stepG X k elt t ρ c r v (fun acc σ => rs.foldr (stepG X k elt t ρ c r) Q acc σ) acc σ from (e ▸ hq : (v :: rs).foldr (stepG X k elt t ρ c r) Q acc σ))) fun s₂ ρ' PP F₂ hq₂ => ?_)
  have S₂ := PP.st S₁
  have x₂ := PP.iter x₁
  have T₂ := (T.poke (tk := tk) PK (.inr hs₀)).trans PP.stepX
  have mono : ∀ (σ : AHeap) (h : Heap), FrOk X N sc nm cenv ρ' σ h → FrOk X N sc nm cenv ρ σ h := fun σ h F => F.mono fun i w e ne => (hq₂.2 i fun z => ne (hu i z w e)).trans e
  refine wpAny_mono (tests_ok hc hi hq₂.1 R S₂ F₂) (fun ok s₃ p => p.rec fun σ₃ S₃ T₃ hb => ?_) fun _ _ z => z
  have y := x₂.step S₂ T₃ I
  have a₃ := ((a.poke PK nD).pokes PP).step S₂ hD T₃
  have F₃ := F₂.step S₂ S₃ T₃
  have T₄ := T₂.trans (.of T₃)
  have lt : rs.length < n := hI.1 ▸ e ▸ Nat.lt_succ_self _
  refine ite_B hb (fun hb => ?_) fun hb => ⟨rs.length, lt, rs, rfl, acc, σ₃, S₃, T₄, mono _ _ F₃, y.1, y.2, a₃, hb⟩
  exact innerP_mono (fun s₄ g => ⟨rs.length, lt, rs, rfl, g.fr mono⟩) (inner ρ' rs acc σ₃ s₃ _ hq₂.2 S₃ T₄ F₃ y.1 y.2 a₃ hb.1 hb.2)
theorem compr_eta (g : Comprehension) (e : g.is_async = 0) : g = ⟨g.target, g.iter, g.ifs, 0⟩ := by rcases g with ⟨a, b, c, _⟩; exact congrArg (Comprehension.mk a b c) e
theorem drop_get {α : Type} {l : List α} {d : Nat} {g : α} {rest : List α} (h : l.drop d = g :: rest) : l[d]? = some g ∧ l.drop (d + 1) = rest :=
 ⟨(List.getElem?_drop (xs := l) (i := d) (j := 0)).symm.trans (h ▸ rfl), (List.drop_drop (l := l) (i := 1) (j := d)).symm.trans (h ▸ rfl)⟩
theorem inner_end (he : ET X k elt) (hme : matE sc nm elt eltx = true) (hP : ∀ p, P p ↔ (p = cenv.locals ∨ p = D)) (hD : ∃ o, N D = some o) (R : Room k A) (hg' : gens[d + 1]? = none) {ρ' rs acc : List V} {σ σ₀ : AHeap} {s s₀ : Shared} {it : Addr} {K : List V → AHeap → Prop} (hN : N it = none)
  (S : St X N σ s) (T : StepX X P σ₀ s₀ σ s) (F : FrOk X N sc nm cenv ρ' σ s.heap) (x : Iter (hid N σ) s.heap it rs) (I : ItOk X σ it) (a : AccAt N σ s.heap D acc) (hl : acc.length < 1000) (hb : wpE X k elt ρ' σ fun v σ₁ => K (acc ++ [v]) σ₁) :
  innerP X.prog X.w A eltx gens scope pos d (.ref D) cenv (GI X N P σ₀ s₀ (fun σ h => FrOk X N sc nm cenv ρ' σ h) D it rs K) s := by
 have nD : it ≠ D := fun z => hD.elim fun _ y => nos hN (z.symm ▸ y)
 unfold innerP
 rw [hg']
 refine seqE (he hme hb R S F) fun val₄ s₄ v₄ σ₄ S₄ T₄ V₄ h₄ => (a.step S hD T₄).rec fun vs hpl hln hvr => hD.elim fun _ hND => ?_
 have h := S₄.hids _ _ hND
 have y := x.step S T₄ I
 refine wpAny_list_append_plain hpl (fun h₅ hp₅ hs₅ => ?_) (size_line _ (hvr.le hln))
 have PD : Poke X N σ₄ s₄ D h₅ := .mk' S₄ h.1 h.2.2.1 h.2.2.2 (.inr ⟨_, hND⟩) (fun b o ne e => (hs₅.2 b ne).trans e) fun _ => hp₅.elim fun _ q => ⟨_, q⟩
 exact ⟨acc ++ [v₄], σ₄, S₄.poke (tk := s₄.toks) PD, (T.trans (.of T₄)).poke (tk := s₄.toks) PD (.inl ⟨(hP _).mpr (.inr rfl), hp₅.elim fun _ q => ⟨_, q⟩⟩), (F.step S S₄ T₄).poke PD (fun o e => hpl.elim fun _ hp => inj_some hp e ▸ seq_not_slot rfl), y.1.poke PD nD, y.2,
  ⟨_, hp₅, List.length_append ▸ hl, by rw [Array.toList_push]; exact (hvr.poke PD).snoc (V₄.poke PD)⟩, h₄⟩
theorem gloop (he : ET X k elt) (hP : ∀ p, P p ↔ (p = cenv.locals ∨ p = D)) (hD : ∃ o, N D = some o) (R : Room k A) (hsync : ∀ g ∈ gens, g.is_async = 0) (hme : matE sc nm elt eltx = true) :
  ∀ (rest : List Comprehension) (r : Gs) (t : Tg) (c : E) (g : Comprehension) (d : Nat), gens.drop d = g :: rest → matTg sc nm true t g.target = true → ifsE (tst c && !isTrueE c) (matE sc nm c) (isTrueE c) g.ifs = true →
   matG sc nm sc nm r rest = true → BT X k c → GsT X k r → ∀ (ρ : List V), Und ρ (t.slots ++ r.slots) → (t.slots ++ r.slots).Nodup →
   ∀ (items : List V) (σ₀ : AHeap) (s s₀ : Shared) (it : Addr) (Q : List V → AHeap → Prop), N it = none → s₀.heap.get? it = none → GI X N P σ₀ s₀ (fun σ h => FrOk X N sc nm cenv ρ σ h) D it items (fun acc σ => items.foldr (stepG X k elt t ρ c r) Q acc σ) s →
    codeAny (model X.prog X.w) A (.compLoop (.ListComp eltx gens scope pos) d (.ref it) (.ref D) cenv) (PostG X N P σ₀ s₀ (fun σ' h' => FrOk X N sc nm cenv ρ σ' h') D Q) s := by
 have sync : ∀ {d : Nat} {g : Comprehension}, gens[d]? = some g → g.is_async = 0 := fun e => hsync _ (List.mem_of_getElem? e)
 intro rest
 induction rest with
 | nil =>
  intro r t c g d hd ht hi hr hc hG ρ hu hnd items σ₀ s s₀ it Q hN hs₀ gi
  rcases r with _ | ⟨_, _, _, _⟩ <;> first | exact (Bool.false_ne_true hr).elim | skip
  have h := drop_get hd
  have hg' : gens[d + 1]? = none := List.getElem?_eq_none_iff.mpr (List.drop_eq_nil_iff.mp h.2)
  exact gturns (elt := elt) (r := .nil) hP hD R (h.1.trans (congrArg some (compr_eta g (sync h.1)))) (fun _ e => sync e) ht hi hc (fun i hi => hu i (List.mem_append_left _ hi)) hN hs₀
   (fun ρ' rs acc σ s K _ S T F x I a hl hb => inner_end he hme hP hD R hg' hN S T F x I a hl hb) gi
 | cons g' rest ih =>
  intro r t c g d hd ht hi hr hc hG ρ hu hnd items σ₀ s s₀ it Q hN hs₀ gi
  rcases r with _ | ⟨t', it', c', r'⟩ <;> first | exact (Bool.false_ne_true hr).elim | skip
  have m := a2 (a2 hr).2
  have m2 := a2 m.2
  have m3 := a2 m2.2
  have h := drop_get hd
  have hg' := (drop_get h.2).1
  have nd := List.nodup_append.mp hnd
  refine gturns (elt := elt) (r := .cons t' it' c' r') hP hD R (h.1.trans (congrArg some (compr_eta g (sync h.1)))) (fun _ e => sync e) ht hi hc (fun i hi => hu i (List.mem_append_left _ hi)) hN hs₀ (fun ρ' rs acc σ₃ s₃ K hkeep S₃ T₃ F₃ x₃ I₃ a₃ _ hb => ?_) gi
  unfold innerP
  rw [hg']
  refine seqI (hG.1 m2.1 hb R S₃ F₃) fun val₄ s₄ l₄ σ₄ S₄ T₄ V₄ h₄ => wpAny_of_eq (folded_of m2.1 cenv val₄) (iter_begin S₄ V₄ fun ob hob x₅ => ?_)
  have F₄ := F₃.step S₃ S₄ T₄
  have y := x₃.step S₃ T₄ I₃
  have hn₅ : s₄.heap.get? s₄.heap.objs.size = none := get_ge_none (Nat.le_refl _)
  have gr := Grow.push (X := X) s₄.heap ob
  have S₅ := S₄.grow (tk := s₄.toks) gr
  have T₅ := Step.grow (X := X) (σ := σ₄) (s := s₄) (tk := s₄.toks) gr
  have run := ih r' t' c' g' (d + 1) h.2 m.1 m3.1 m3.2 hG.2.1 hG.2.2 ρ' (fun i hi w e => hu i (List.mem_append_right _ hi) w ((hkeep i fun z => nd.2.2 i z i hi rfl).symm.trans e)) nd.2.1 l₄ σ₄ { s₄ with heap := s₄.heap.push ob } s₄ s₄.heap.objs.size _ (S₄.hid_fresh hn₅) hn₅
   ⟨acc, σ₄, S₅, .of T₅, F₄.step S₄ S₅ T₅, x₅, new_it S₄, (a₃.step S₃ hD T₄).step S₄ hD T₅, h₄⟩
  have fin : ∀ rr s₆, PostG X N P σ₄ s₄ (fun σ' h' => FrOk X N sc nm cenv ρ' σ' h') D K rr s₆ → (match rr with | .ok _ => GI X N P σ₀ s₀ (fun σ h => FrOk X N sc nm cenv ρ' σ h) D it rs K s₆ | .error _ => False) := fun rr s₆ p => p.rec fun acc₆ σ₆ e S₆ T₆ F₆ a₆ q₆ =>
   have hPS : PSlot N P s₄ := fun p hp => ((hP p).mp hp).elim (fun e => .inr (F₄.ns.rec fun _ n _ => (ns_get n).elim fun o q => ⟨o, e ▸ q, ns_slot n o q⟩)) fun e => .inl (e ▸ hD)
   have z := T₆.iter S₄ hPS y.2 hN y.1
   e ▸ ⟨acc₆, σ₆, S₆, (T₃.trans (.of T₄)).trans T₆, F₆, z.1, z.2, a₆, q₆⟩
  exact compStart_at hg' (sync hg') (codeAny_mono run fin) (x₅.self (s := { s₄ with heap := s₄.heap.push ob }) (codeAny_mono run fin))
end
end Mine
end

section
open PySem PySem.Calls PyProof.Rows PySem.W
set_option maxRecDepth 20000
namespace Mine
variable {N : Hid}
theorem closure_go {env : Env} (names : List (PySem.Str × NameKind)) : ∀ (cs : List (PySem.Str × Addr)), (∀ y ∈ names, y.2 = .free → ∃ c, env.cells.lookup y.1 = some c) → (∀ x c, cs.lookup x = some c → env.cells.lookup x = some c) →
  ∃ cl, (forIn names cs (fun (x : PySem.Str × NameKind) (r : List (PySem.Str × Addr)) => if (x.2 == NameKind.free) = true then (do let a ← cellOf env x.1; pure (ForInStep.yield ((x.1, a) :: r))) else pure (ForInStep.yield r)) : Sem (List (PySem.Str × Addr))) = pure cl ∧
   (∀ x c, cl.lookup x = some c → env.cells.lookup x = some c) ∧ (∀ x, ((∃ y ∈ names, y.1 = x ∧ y.2 = .free) ∨ (cs.lookup x).isSome = true) → ∃ c, cl.lookup x = some c) := by
 induction names with
 | nil => exact fun cs _ hcs => ⟨cs, rfl, hcs, fun x h => h.elim (fun h => h.elim fun _ h => nomatch h.1) fun h => Option.isSome_iff_exists.mp h⟩
 | cons a r ih =>
  intro cs hn hcs
  rw [List.forIn_cons]
  rcases a with ⟨n, kd⟩
  by_cases hk : kd = .free
  ·refine (hn (n, kd) (.head _) hk).elim fun c hc => (ih ((n, c) :: cs) (fun y hy => hn y (.tail _ hy)) fun x c' h => ?_).elim fun cl y => ⟨cl, ?_, y.2.1, fun x h => y.2.2 x ?_⟩
   ·rw [List.lookup_cons] at h
    split at h
    ·rename_i e; rw [beq_iff_eq.mp e,← h]; exact hc
    ·exact hcs x c' h
   ·have h1 : cellOf env n = pure c := by unfold cellOf; rw [hc]
    rw [if_pos (beq_iff_eq.mpr hk),h1,pure_bind,pure_bind]
    exact y.1
   ·have hx : ∀ x, x = n → (List.lookup x ((n, c) :: cs)).isSome = true := fun x e => by rw [e,List.lookup_cons,beq_self_eq_true]; rfl
    refine h.elim (fun h => h.elim fun y h => (List.mem_cons.mp h.1).elim (fun e => .inr (hx x (h.2.1.symm.trans (congrArg Prod.fst e)))) fun hy => .inl ⟨y, hy, h.2⟩) fun h => .inr ?_
    rw [List.lookup_cons]
    split
    ·rfl
    ·exact h
  ·refine (ih cs (fun y hy => hn y (.tail _ hy)) hcs).elim fun cl y => ⟨cl, ?_, y.2.1, fun x h => y.2.2 x (h.imp_left fun h => h.elim fun y h => (List.mem_cons.mp h.1).elim (fun e => (hk ((congrArg Prod.snd e).symm.trans h.2.2)).elim) fun hy => ⟨y, hy, h.2⟩)⟩
   rw [if_neg (fun z => hk (beq_iff_eq.mp z)),pure_bind]
   exact y.1
theorem closure_ok {scope : Scope} {env : Env} (h : ∀ y ∈ scope.names, y.2 = .free → ∃ c, env.cells.lookup y.1 = some c) :
  ∃ cl, closureFor scope env = pure cl ∧ (∀ x c, cl.lookup x = some c → env.cells.lookup x = some c) ∧ (∀ y ∈ scope.names, y.2 = .free → ∃ c, cl.lookup y.1 = some c) := by
 obtain ⟨cl, e1, e2, e3⟩ := closure_go scope.names [] h (fun x c h => by cases h)
 refine ⟨cl, ?_, e2, fun y hy hf => e3 y.1 (.inl ⟨y, hy, rfl, hf⟩)⟩
 unfold closureFor
 rw [← pure_bind cl (fun x => (pure x : Sem (List (PySem.Str × Addr)))),← e1]
theorem lookup_map_key {f : PySem.Str × NameKind → PySem.Str × NameKind} (hf : ∀ y, (f y).1 = y.1) : ∀ {names : List (PySem.Str × NameKind)} {x : PySem.Str}, (names.map f).lookup x = (names.lookup x).map fun q => (f (x, q)).2
 | [], _ => rfl
 | (n, q) :: r, x => by
  rw [List.map_cons]
  have e : f (n, q) = (n, (f (n, q)).2) := Prod.ext (hf (n, q)) rfl
  rw [e,List.lookup_cons,List.lookup_cons]
  by_cases h : x = n
  ·subst h; rw [beq_self_eq_true]; rfl
  ·have : (x == n) = false := by simpa using h
   rw [this]
   exact lookup_map_key hf
theorem relabel_eq {scope sc : Scope} {env : Env} (h : env.scope = sc) : relabel scope env = relabelS scope sc := by
 unfold relabel relabelS Env.kindOf
 rw [h]
theorem relabelS_lookup {sc' sc : Scope} {x : PySem.Str} : (relabelS sc' sc).names.lookup x = (sc'.names.lookup x).map fun q => if (q == NameKind.free && sc.kind == .function && sc.names.lookup x == some .cell) then NameKind.cell else q := by
 have := lookup_map_key (f := fun (y : PySem.Str × NameKind) => if (y.2 == NameKind.free && sc.kind == .function && sc.names.lookup y.1 == some .cell) = true then (y.1, NameKind.cell) else (y.1, y.2)) (fun y => by split <;> rfl) (names := sc'.names) (x := x)
 refine Eq.trans ?_ (this.trans ?_)
 ·rfl
 ·congr 1
  funext q
  split <;> rfl
theorem lookup_append {α : Type} {l l' : List (PySem.Str × α)} {x : PySem.Str} : (l ++ l').lookup x = (l.lookup x).or (l'.lookup x) := by
 induction l with
 | nil => rfl
 | cons a r ih =>
  obtain ⟨n, v⟩ := a
  rw [List.cons_append,List.lookup_cons,List.lookup_cons]
  split
  ·rfl
  ·exact ih
theorem lookup_mem {α : Type} {l : List (PySem.Str × α)} {x : PySem.Str} {v : α} (h : l.lookup x = some v) : (x, v) ∈ l := by
 induction l with
 | nil => cases h
 | cons a r ih =>
  obtain ⟨n, u⟩ := a
  rw [List.lookup_cons] at h
  split at h
  ·rename_i e; cases h; rw [beq_iff_eq.mp e]; exact .head _
  ·exact .tail _ (ih h)
theorem mem_lookup {α : Type} {l : List (PySem.Str × α)} {x : PySem.Str} {v : α} (h : (x, v) ∈ l) : ∃ u, l.lookup x = some u := by
 induction l with
 | nil => cases h
 | cons a r ih =>
  obtain ⟨n, u⟩ := a
  rw [List.lookup_cons]
  split
  ·exact ⟨_, rfl⟩
  ·rename_i e
   rcases List.mem_cons.mp h with h | h
   ·cases h; rw [beq_self_eq_true] at e; cases e
   ·exact ih h
theorem snd_inj {l : List (PySem.Str × Nat)} (nd : (l.map (·.2)).Nodup) {x y : PySem.Str} {i : Nat} (hx : (x, i) ∈ l) (hy : (y, i) ∈ l) : x = y := by
 induction l with
 | nil => cases hx
 | cons a r ih =>
  rw [List.map_cons,List.nodup_cons] at nd
  rcases List.mem_cons.mp hx with e1 | h1 <;> rcases List.mem_cons.mp hy with e2 | h2
  ·rw [← e1] at e2; exact (Prod.mk.inj e2).1.symm
  ·have hm : i ∈ r.map (·.2) := List.mem_map.mpr ⟨(y, i), h2, rfl⟩
   rw [← e1] at nd; exact absurd hm nd.1
  ·have hm : i ∈ r.map (·.2) := List.mem_map.mpr ⟨(x, i), h1, rfl⟩
   rw [← e2] at nd; exact absurd hm nd.1
  ·exact ih nd.2 h1 h2
theorem clr_get {is : List Nat} : ∀ {ρ : List V} {j : Nat} {v : V}, (clr ρ is)[j]? = some v → (j ∈ is ∧ v = .undef) ∨ (j ∉ is ∧ ρ[j]? = some v) := by
 induction is with
 | nil => exact fun h => .inr ⟨List.not_mem_nil, h⟩
 | cons i is ih =>
  intro ρ j v h
  rcases ih (ρ := ρ.set i .undef) h with ⟨h1, h2⟩ | ⟨h1, h2⟩
  ·exact .inl ⟨.tail _ h1, h2⟩
  ·rcases set_get h2 with ⟨rfl, rfl⟩ | ⟨ne, h2⟩
   ·exact .inl ⟨.head _, rfl⟩
   ·exact .inr ⟨fun z => by rcases List.mem_cons.mp z with z | z; exact ne z; exact h1 z, h2⟩
section
variable {X : Cx} {k : Nat}
structure CompOk (sc sc' : Scope) (nm : List (PySem.Str × Nat)) (gm : List (PySem.Str × Nat)) (slots : List Nat) : Prop where
 kind : sc'.kind = .function
 nocell : ∀ y ∈ sc'.names, y.2 ≠ .cell
 loc : ∀ y ∈ sc'.names, y.2 = .local → sc'.names.lookup y.1 = some .local
 free : ∀ y ∈ sc'.names, y.2 = .free → sc.names.lookup y.1 = some .cell ∨ sc.names.lookup y.1 = some .free
 gloc : ∀ y ∈ gm, sc'.names.lookup y.1 = some .local
 gnd : (gm.map (·.1)).Nodup
 snd : (gm.map (·.2)).Nodup
 apart : ∀ y ∈ gm, ∀ z ∈ nm, z.2 ≠ y.2
 slots : gm.map (·.2) = slots
 only : ∀ y ∈ sc'.names, y.2 = .local → (∃ z ∈ gm, z.1 = y.1) ∨ nm.lookup y.1 = none
theorem CompOk.frame {sc sc' : Scope} {nm gm : List (PySem.Str × Nat)} {slots : List Nat} (K : CompOk sc sc' nm gm slots) {N' : Hid} {env : Env} {ρ : List V} {σ : AHeap} {h h' : Heap} (F : FrOk X N sc nm env ρ σ h) {cl : List (PySem.Str × Addr)} {C : Addr}
  (hcl : ∀ x c, cl.lookup x = some c → env.cells.lookup x = some c) (hall : ∀ y ∈ sc'.names, y.2 = .free → ∃ c, cl.lookup y.1 = some c) (u : Up X.G (hid N σ) h (hid N' σ) h') {m : PySem.Str → Option Value} (hn : h'.Ns C m) (hC : hid N' σ C = none ∧ X.H0.get? C = none) :
  FrOk X N' (relabelS sc' sc) (gm ++ nm) (compEnvC sc' cl C env) (clr ρ slots) σ h' where
 scope := relabel_eq F.scope
 kind := K.kind
 glob := F.glob
 blt := F.blt
 ns := ⟨m, hn, fun x i hx hl v hv hne => (clr_get hv).elim (fun z => (hne z.2).elim) fun z => by
  exfalso
  rw [relabelS_lookup] at hl
  obtain ⟨q, hq, hql⟩ := Option.map_eq_some_iff.mp hl
  have hq' : q = .local := by
   split at hql
   ·cases hql
   ·exact hql
  rw [lookup_append] at hx
  rcases hg : gm.lookup x with _ | j
  ·rw [hg,Option.none_or] at hx
   exact (K.only _ (lookup_mem hq) hq').elim (fun w => w.elim fun w y => (mem_lookup (x := w.1) (v := w.2) y.1).elim fun _ hu => nos hg ((congrArg (fun z => gm.lookup z) y.2).symm.trans hu)) fun e => nos e hx
  ·rw [hg] at hx
   exact z.1 (K.slots ▸ List.mem_map.mpr ⟨_, lookup_mem hg, Option.some.inj hx⟩)⟩
 cell := fun x hx => by
  rw [relabelS_lookup] at hx
  have hfree : sc'.names.lookup x = some .free := by
   rcases hq : sc'.names.lookup x with _ | q
   ·rw [hq] at hx; exact hx.elim (fun hx => nomatch hx) fun hx => nomatch hx
   ·rw [hq] at hx
    by_cases hqf : q = .free
    ·rw [hqf]
    ·exfalso
     have hb : (q == NameKind.free) = false := beq_false_of_ne hqf
     simp only [Option.map_some,hb,Bool.false_and,Bool.false_eq_true,if_false] at hx
     exact hx.elim (fun hx => K.nocell _ (lookup_mem hq) (Option.some.inj hx)) fun hx => hqf (Option.some.inj hx)
  have hmem := lookup_mem hfree
  have hgn : gm.lookup x = none := none_of fun j hg => nomatch inj_some hfree (K.gloc _ (lookup_mem hg))
  exact (hall _ hmem rfl).elim fun c' hc' => (F.cell x (K.free _ hmem rfl)).rec fun c ov a b d e r => have b' := cell_up u b d
   have ec : c' = c := inj_some (hcl _ _ hc') a
   ⟨c, ov, ec ▸ hc', b'.1, b'.2, e, fun i hi v hv hne => (clr_get hv).elim (fun z => (hne z.2).elim) fun z => (r i ((lookup_append.trans (by rw [hgn]; rfl)).symm.trans hi) v z.2 hne).elim fun val p => ⟨val, p.1, p.2.up u⟩⟩
 own := hC
 inj := fun x y i hx hy => by
  rw [lookup_append] at hx hy
  rcases hgx : gm.lookup x with _ | j <;> rcases hgy : gm.lookup y with _ | j' <;> rw [hgx] at hx <;> rw [hgy] at hy
  ·exact F.inj x y i hx hy
  ·exact (K.apart (y, _) (lookup_mem hgy) (x, _) (lookup_mem hx) (Option.some.inj hy).symm).elim
  ·exact (K.apart (x, _) (lookup_mem hgx) (y, _) (lookup_mem hy) (Option.some.inj hx).symm).elim
  ·exact snd_inj K.snd (lookup_mem (hgx.trans hx)) (lookup_mem (hgy.trans hy))
 cinj := fun x y c hx hy => F.cinj x y c (hcl _ _ hx) (hcl _ _ hy)
end
end Mine
end

section
open PySem PySem.Calls PyProof.Rows PySem.W
set_option maxRecDepth 20000
namespace Mine
variable {N : Hid}
section
variable {X : Cx} {k : Nat}
noncomputable def hideAt (N : Hid) (D : Addr) (o : Obj) : Hid := fun b => if b = D then some o else N b
theorem hideAt_self {D : Addr} {o : Obj} : hideAt N D o D = some o := by simp [hideAt]
theorem hideAt_ne {D b : Addr} {o : Obj} (h : b ≠ D) : hideAt N D o b = N b := by simp [hideAt,h]
theorem hideAt_none {D b : Addr} {o : Obj} {σ : AHeap} (h : hid (hideAt N D o) σ b = none) : hid N σ b = none ∧ b ≠ D :=
 have h := hid_none.mp h; have ne : b ≠ D := fun z => nos (z ▸ h.1) hideAt_self
 ⟨hid_none.mpr ⟨(hideAt_ne ne).symm.trans h.1, h.2⟩, ne⟩
theorem hid_hideAt {D b : Addr} {o : Obj} {σ : AHeap} (h : hid N σ b = none) (ne : b ≠ D) : hid (hideAt N D o) σ b = none := hid_none.mpr ⟨(hideAt_ne ne).trans (hid_none.mp h).1, (hid_none.mp h).2⟩
theorem hide_ne {D b : Addr} {o x : Obj} (hN : N D = none) (q : N b = some x) : b ≠ D := fun z => nos hN (z ▸ q)
theorem hide_no {D b : Addr} {o : Obj} (h : hideAt N D o b = none) : b ≠ D ∧ N b = none := have ne : b ≠ D := fun z => nos (z ▸ h) hideAt_self; ⟨ne, (hideAt_ne ne).symm.trans h⟩
theorem St.hideNew {σ : AHeap} {s : Shared} (S : St X N σ s) (o : Obj) (hf : o.isFreed = false) : St X (hideAt N s.heap.objs.size o) σ { s with heap := s.heap.push o } :=
 have hn : s.heap.get? s.heap.objs.size = none := get_ge_none (Nat.le_refl _)
 have g := Grow.push (X := X) s.heap o
 have S' := S.grow (tk := s.toks) g
 have ne : ∀ {b ob}, s.heap.get? b = some ob → b ≠ s.heap.objs.size := fun e z => nos hn (z ▸ e)
 have u : Up X.G (Mine.hid N σ) s.heap (Mine.hid (hideAt N s.heap.objs.size o) σ) (s.heap.push o) := ⟨fun b ob n e q => ⟨g.at_ b ob n e, hid_hideAt q (ne e)⟩, S.ns⟩
 ⟨S'.keep, S.fresh, fun a ob q => (S.objs a ob q).up u (fun ob' e => g.at_ a ob' (S.ne_G q) e) (fun dx z => have y := hid_sub.mp z
   ⟨hid_sub.mpr ⟨(S.live _ _ y.2).elim fun _ hod => (hideAt_ne (ne hod)).trans y.1, y.2⟩, fun ob' e => g.at_ dx ob' (S.ne_G y.2) e⟩), S'.live, S'.ns, S.gfree, S.gH0,
  fun a ob q => (Decidable.em (a = s.heap.objs.size)).elim (fun z => z ▸ ⟨S.free_of_none hn, ⟨o, Heap.get?_push_size _ hf⟩, S.H0_of_none hn, S.neG_none hn⟩) fun z => S'.hids a ob ((hideAt_ne z).symm.trans q)⟩
theorem St.unhide {σ : AHeap} {s : Shared} {D : Addr} {o : Obj} (S : St X (hideAt N D o) σ s) (hN : N D = none) : St X N σ s :=
 have u : Up X.G (Mine.hid (hideAt N D o) σ) s.heap (Mine.hid N σ) s.heap := ⟨fun b ob n e q => ⟨e, (hideAt_none q).1⟩, S.ns⟩
 ⟨S.keep, S.fresh, fun a ob q => (S.objs a ob q).up u (fun _ e => e) (fun dx z => have y := hid_sub.mp z; ⟨hid_sub.mpr ⟨(hide_no y.1).2, y.2⟩, fun _ e => e⟩), S.live, S.ns, S.gfree, S.gH0, fun a ob q => S.hids a ob ((hideAt_ne (hide_ne (o := o) hN q)).trans q)⟩
structure CompEnd (X : Cx) (N : Hid) (σ : AHeap) (s : Shared) (Q : List V → AHeap → Prop) (D C : Addr) (s' : Shared) (l : List V) (σ' : AHeap) (o : Obj) : Prop where
 st : St X (hideAt N D o) σ' s'
 step : Step X σ s σ' s'
 list : ∃ vs, s'.heap.PlainList D vs ∧ vs.size ≤ 1000 ∧ VRels (hid (hideAt N D o) σ') s'.heap l vs.toList
 hq : Q l σ'
 free : σ' D = none ∧ N D = none ∧ s.heap.get? D = none ∧ X.H0.get? D = none ∧ D ≠ X.G
 ns : ∃ m, s'.heap.Ns C m
 cfree : σ' C = none ∧ N C = none ∧ s.heap.get? C = none ∧ X.H0.get? C = none ∧ C ≠ X.G
 ne : D ≠ C
theorem CompEnd.poke {σ : AHeap} {s : Shared} {Q : List V → AHeap → Prop} {D C : Addr} {s' : Shared} {l : List V} {σ' : AHeap} {o : Obj} (e : CompEnd X N σ s Q D C s' l σ' o) {h' : Heap} (hs : Heap.SameBut C s'.heap h') : Poke X (hideAt N D o) σ' s' C h' :=
 e.ns.elim fun _ n => .mk' e.st e.cfree.1 e.cfree.2.2.2.1 e.cfree.2.2.2.2 (.inl fun o' xs k q => slot_not_seq (ns_slot n o' q) xs k) (fun b o' ne q => (hs.2 b ne).trans q) fun z => z.elim fun _ q => (nos ((hideAt_ne (Ne.symm e.ne)).trans e.cfree.2.1) q).elim
theorem St.trackHidden {σ : AHeap} {s : Shared} {D : Addr} {o : Obj} {l : List V} {vs : Array Value} (S : St X (hideAt N D o) σ s) (hN : N D = none) (hp : s.heap.PlainList D vs) (hsz : vs.size ≤ 1000) (hvr : VRels (Mine.hid (hideAt N D o) σ) s.heap l vs.toList) : St X N (upd σ D (.list l)) s :=
 have d := S.hids _ _ hideAt_self
 have u : Up X.G (Mine.hid (hideAt N D o) σ) s.heap (Mine.hid N (upd σ D (.list l))) s.heap := ⟨fun b ob n e q => have q := hideAt_none q; ⟨e, hid_none.mpr ⟨(hid_none.mp q.1).1, (upd_ne q.2).trans (hid_none.mp q.1).2⟩⟩, S.ns⟩
 ⟨S.keep, upd_elim d.2.2.1 fun a ob _ q => S.fresh a ob q, upd_elim ⟨vs, hp, hsz, hvr.up u⟩ fun a ob _ q => (S.objs a ob q).up u (fun _ e => e) (fun dx z => have y := hid_sub.mp z; have w := hide_no y.1; ⟨hid_sub.mpr ⟨w.2, (upd_ne w.1).trans y.2⟩, fun _ e => e⟩),
  upd_elim d.2.1 fun a ob _ q => S.live a ob q, S.ns, (upd_ne (Ne.symm d.2.2.2)).trans S.gfree, S.gH0, fun a ob q => have ne := hide_ne (o := o) hN q; have h := S.hids a ob ((hideAt_ne ne).trans q); ⟨(upd_ne ne).trans h.1, h.2⟩⟩
theorem all_mem {α : Type} {p : α → Bool} {l : List α} (h : l.all p = true) {a : α} (ha : a ∈ l) : p a = true := List.all_eq_true.mp h a ha
theorem bne_ne {α : Type} [DecidableEq α] {a b : α} (h : (a != b) = true) : a ≠ b := bne_iff_ne.mp h
theorem or_ne {α : Type} [DecidableEq α] {a b : α} {c : Bool} (h : (a != b || c) = true) (e : a = b) : c = true := (o2 h).elim (fun h => (bne_ne h e).elim) id
theorem compOk_of {sc sc' : Scope} {nm gm : List (PySem.Str × Nat)} {sl : List Nat} (h : compOk sc sc' nm gm sl = true) : CompOk sc sc' nm gm sl :=
 have h1 := a2 h; have h2 := a2 h1.2; have h3 := a2 h2.2; have h4 := a2 h3.2; have h5 := a2 h4.2; have h6 := a2 h5.2
 have b1 := a2 h1.1; have b2 := a2 b1.1; have b3 := a2 b2.1
 ⟨eq_of_beq b3.1, fun y hy => bne_ne (all_mem b3.2 hy), fun y hy e => eq_of_beq (or_ne (all_mem b2.2 hy) e),
  fun y hy e => (o2 ((Bool.or_assoc _ _ _).symm.trans (all_mem b1.2 hy))).elim (fun h => (bne_ne h e).elim) fun h => (o2 h).imp eq_of_beq eq_of_beq,
  fun y hy => eq_of_beq (all_mem h2.1 hy), of_decide_eq_true h3.1, of_decide_eq_true h4.1, fun y hy z hz => bne_ne (all_mem (all_mem h5.1 hy) hz), of_decide_eq_true h6.1,
  fun y hy e => (o2 (or_ne ((Bool.or_assoc _ _ _).symm.trans (all_mem h6.2 hy)) e)).imp (fun h => (List.any_eq_true.mp h).elim fun z q => ⟨z, q.1, eq_of_beq q.2⟩) Option.isNone_iff_eq_none.mp⟩
theorem gens_sync {sc : Scope} {nm : List (PySem.Str × Nat)} (gens : List Comprehension) : ∀ {sc₁ : Scope} {nm₁ : List (PySem.Str × Nat)} {gs : Gs}, matG sc₁ nm₁ sc nm gs gens = true → ∀ g ∈ gens, g.is_async = 0 := by
 induction gens with
 | nil => exact fun _ g h => nomatch h
 | cons g' rest ih =>
  intro _ _ gs h g hg
  rcases gs with _ | ⟨t, it, c, r⟩
  ·exact (Bool.false_ne_true h).elim
  ·exact (List.mem_cons.mp hg).elim (fun e => e ▸ eq_of_beq (a2 h).1) (ih (a2 (a2 (a2 (a2 h).2).2).2).2 g)
theorem comp_body {elt : E} (he : ET X k elt) {sc sc' : Scope} {nm gm : List (PySem.Str × Nat)} {env : Env} {l : PySem.Expr} {pos : Pos} {ρ : List V} {σ σ₁ : AHeap} {Q : List V → AHeap → Prop} {A : Around} {s s₂ : Shared} {use : Option (Value → Sem Unit)} {QV : Value → Shared → Prop}
  {g : Comprehension} {rest : List Comprehension} {t : Tg} {it : It} {c : E} {r : Gs} (K : CompOk sc sc' nm gm (Gs.cons t it c r).slots) (hme : matE (relabelS sc' sc) (gm ++ nm) elt l = true)
  (hsync : ∀ x ∈ (g :: rest : List Comprehension), x.is_async = 0) (r2 : matTg (relabelS sc' sc) (gm ++ nm) true t g.target = true) (r4 : ifsE (tst c && !isTrueE c) (matE (relabelS sc' sc) (gm ++ nm) c) (isTrueE c) g.ifs = true)
  (r5 : matG (relabelS sc' sc) (gm ++ nm) (relabelS sc' sc) (gm ++ nm) r rest = true) (g2 : BT X k c) (g3 : GsT X k r) (R : Room k A) {cl : List (PySem.Str × Addr)} (cl1 : ∀ x c, cl.lookup x = some c → env.cells.lookup x = some c) (cl2 : ∀ y ∈ sc'.names, y.2 = .free → ∃ c, cl.lookup y.1 = some c)
  {itA : Addr} {items : List V} (S : St X N σ s) (T : Step X σ s σ₁ s₂) (S₂ : St X N σ₁ s₂) (F₂ : FrOk X N sc nm env ρ σ₁ s₂.heap) (x₂ : Iter (hid N σ₁) s₂.heap itA items) (I₂ : ItOk X σ₁ itA) (hNit : N itA = none) (hit : s.heap.get? itA = none)
  (h₁ : items.foldr (stepG X k elt t (clr ρ (Gs.cons t it c r).slots) c r) Q [] σ₁)
  (fin : ∀ D C s' l σ' o, CompEnd X N σ s Q D C s' l σ' o → compPost (model X.prog X.w) A NoE use QV (.ref D) C (.ok .next) s') :
  wpAny (model X.prog X.w) A (newList []) (fun acc s₃ => wpAny (model X.prog X.w) A (newFunctionEnv sc' env.globals cl [] env.qual none .none (some env)) (fun cenv s₄ =>
    codeAny (model X.prog X.w) A (.compStart (.ListComp l (g :: rest) sc' pos) 0 (.ref itA) acc { cenv with scope := relabel sc' env }) (compPost (model X.prog X.w) A NoE use QV acc cenv.locals) s₄) NoE s₃) NoE s₂ := by
 refine wpAny_newObj_type ?_ (Nat.zero_le _)
 have hn₂ : s₂.heap.get? s₂.heap.objs.size = none := get_ge_none (Nat.le_refl _)
 have S₃ := S₂.hideNew { cls := .type "list", data := .seq ([] : List Value).toArray } rfl
 have hsz : (s₂.heap.push { cls := .type "list", data := .seq ([] : List Value).toArray }).objs.size = s₂.heap.objs.size + 1 := Heap.size_push _ _
 refine wpAny_newFunctionEnv (fun y hy => K.nocell y hy) (fun y hy => nomatch hy) (fun h' hns hsb => ?_) K.kind
 dsimp only at hns hsb ⊢
 generalize hlo : ({ cls := .type "list", data := .seq ([] : List Value).toArray } : Obj) = lo at S₃ hsz hns hsb ⊢
 generalize hCC : (s₂.heap.push lo).objs.size = C at hsz hns hsb ⊢
 have hCn : (s₂.heap.push lo).get? C = none := get_ge_none (Nat.le_of_eq hCC)
 have hDC : s₂.heap.objs.size ≠ C := hsz ▸ Nat.ne_of_lt (Nat.lt_succ_self _)
 have keep3 : ∀ b o, (s₂.heap.push lo).get? b = some o → h'.get? b = some o := fun b o e => (hsb.2 b fun z => nos hCn (z ▸ e)).trans (Heap.get?_push_of_some _ e)
 have keep2 : ∀ b o, s₂.heap.get? b = some o → h'.get? b = some o := fun b o e => keep3 b o (Heap.get?_push_of_some _ e)
 have S₄ := S₃.grow (tk := s₂.toks + 0) (.of_all keep3)
 have T₄ := T.trans (Step.grow (X := X) (σ := σ₁) (s := s₂) (tk := s₂.toks + 0) (Grow.of_all (X := X) keep2)) S.gfree S₂.gfree
 have u : Up X.G (hid N σ₁) s₂.heap (hid (hideAt N s₂.heap.objs.size lo) σ₁) h' := ⟨fun b ob n e q => ⟨keep2 b ob e, hid_hideAt q (fun z => nos hn₂ (z ▸ e))⟩, S₂.ns⟩
 have CH0 : X.H0.get? C = none := S₃.H0_of_none hCn
 have CG : C ≠ X.G := S₃.neG_none hCn
 have FC := K.frame F₂ cl1 cl2 u hns ⟨S₃.hfree_of_none hCn, CH0⟩
 have hND : (hideAt N s₂.heap.objs.size lo) s₂.heap.objs.size = some lo := hideAt_self
 have hni : itA ≠ s₂.heap.objs.size := fun z => x₂.fields.elim fun _ f => nos hn₂ (z ▸ f.1)
 have run := gloop he (cenv := compEnvC sc' cl C env) (pos := pos) (scope := sc') (D := s₂.heap.objs.size) (P := fun p => p = C ∨ p = s₂.heap.objs.size) (fun p => Iff.rfl) ⟨_, hND⟩ R hsync hme rest r t c g 0 rfl r2 r4 r5 g2 g3
  (clr ρ (Gs.cons t it c r).slots) (fun i hi v e => (clr_get e).elim (fun h => h.2) fun h => (h.1 hi).elim) (show (Gs.cons t it c r).slots.Nodup from K.slots ▸ K.snd) items σ { s₂ with heap := h', toks := s₂.toks + 0 } s itA Q ((hideAt_ne hni).trans hNit) hit
  ⟨[], σ₁, S₄, .of T₄, FC, x₂.up u fun o e => keep2 _ o e, I₂, ⟨#[], ⟨0, keep3 _ _ (hlo ▸ Heap.get?_push_size _ rfl)⟩, Nat.zero_le _, .nil⟩, h₁⟩
 have sD : s.heap.get? s₂.heap.objs.size = none := T.fresh hn₂
 have sC : s.heap.get? C = none := T.fresh (none_of fun o e => nos hCn (Heap.get?_push_of_some (h := s₂.heap) lo e))
 have done : ∀ rr s₅, PostG X (hideAt N s₂.heap.objs.size lo) (fun p => p = C ∨ p = s₂.heap.objs.size) σ s (fun σ' h' => FrOk X (hideAt N s₂.heap.objs.size lo) (relabelS sc' sc) (gm ++ nm) (compEnvC sc' cl C env) (clr ρ (Gs.cons t it c r).slots) σ' h') s₂.heap.objs.size Q rr s₅ →
   compPost (model X.prog X.w) A NoE use QV (.ref s₂.heap.objs.size) C rr s₅ := fun rr s₅ p => p.rec fun acc σ' e S₅ T₅ F₅ a q₅ => a.rec fun vs hp hln hvr => F₅.ns.rec fun m n _ =>
  have d := S₅.hids _ _ hND
  have c := hid_none.mp F₅.own.1
  e ▸ fin _ _ _ acc σ' lo ⟨S₅, StepX.after (.refl X σ s) T₅ (fun p hp => hp.elim (fun e => e ▸ sC) fun e => e ▸ sD), ⟨vs, hp, hvr.le hln, hvr⟩, q₅, ⟨d.1, S₂.hid_fresh hn₂, sD, d.2.2.1, d.2.2.2⟩, ⟨m, n⟩, ⟨c.2, (hideAt_ne (Ne.symm hDC)).symm.trans c.1, sC, CH0, CG⟩, hDC⟩
 exact compStart_at rfl (hsync g (.head _)) (codeAny_mono run done) ((x₂.up u fun o e => keep2 _ o e).self (s := { s₂ with heap := h', toks := s₂.toks + 0 }) (codeAny_mono run done))
theorem comp_run {new : Bool} {elt : E} {gs : Gs} (he : ET X k elt) (hG : GsT X k gs) {sc : Scope} {nm : List (PySem.Str × Nat)} {env : Env} {l : PySem.Expr} {gens : List Comprehension} {sc' : Scope} {pos pos' : Pos} {ρ : List V} {σ : AHeap} {Q : List V → AHeap → Prop} {A : Around} {s : Shared}
  {use : Option (Value → Sem Unit)} {QV : Value → Shared → Prop}
  (hm : (compOk sc sc' nm (gsNm gs gens) gs.slots && (!gens.isEmpty && (matG sc nm (relabelS sc' sc) (gsNm gs gens ++ nm) gs gens && matE (relabelS sc' sc) (gsNm gs gens ++ nm) elt l))) = true)
  (hq : wpG X k (fun ρ σ Q => wpE X k elt ρ σ Q) gs (some ρ) (clr ρ gs.slots) σ [] Q) (R : Room k A) (S : St X N σ s) (F : FrOk X N sc nm env ρ σ s.heap)
  (fin : ∀ D C s' l σ' o, CompEnd X N σ s Q D C s' l σ' o → compPost (model X.prog X.w) A NoE use QV (.ref D) C (.ok .next) s') :
  wpAny (model X.prog X.w) A (comprehension (.ListComp l gens sc' pos) sc' env pos' (newList []) false (firstIter gens env) use) QV NoE s := by
 have m := a2 (a2 hm).2
 have m2 := a2 m.2
 have K := compOk_of (a2 hm).1
 have hsync := gens_sync _ m2.1
 rcases gens with _ | ⟨g, rest⟩
 ·exact (Bool.false_ne_true m.1).elim
 ·rcases gs with _ | ⟨t, it, c, r⟩
  ·exact (Bool.false_ne_true m2.1).elim
  ·have h1 := a2 (a2 m2.1).2
   have h2 := a2 h1.2
   have h3 := a2 h2.2
   refine (closure_ok (scope := sc') (env := env) fun y hy hf => (F.cell y.1 (K.free y hy hf)).rec fun c ov a _ _ _ _ => ⟨c, a⟩).elim fun cl z => ?_
   obtain ⟨tg, itx, ifs, ia⟩ := g
   obtain rfl : ia = 0 := hsync _ (.head _)
   refine wpAny_comprehension_free (g := ⟨tg, itx, ifs, 0⟩) (gs := rest) rfl (folded_of h2.1 env) z.1 K.kind K.loc (seqI (hG.1 h2.1 hq R S F) fun val₁ s₁ items σ₁ S₁ T₁ V₁ h₁ => iter_begin S₁ V₁ fun ob hob x₂ => ?_)
   have hn₁ : s₁.heap.get? s₁.heap.objs.size = none := get_ge_none (Nat.le_refl _)
   have gr := Grow.push (X := X) s₁.heap ob
   have S₂ := S₁.grow (tk := s₁.toks) gr
   have T₂ := Step.grow (X := X) (σ := σ₁) (s := s₁) (tk := s₁.toks) gr
   exact comp_body he K m2.2 hsync h1.1 h3.1 h3.2 hG.2.1 hG.2.2 R z.2.1 z.2.2 S (T₁.trans T₂ S.gfree S₂.gfree) S₂ ((F.step S S₁ T₁).step S₁ S₂ T₂) x₂ (new_it S₁) (S₁.hid_fresh hn₁) (T₁.fresh hn₁) h₁ fin
inductive CEnd (X : Cx) (N : Hid) (σ : AHeap) (s : Shared) (D C : Addr) (Q : V → AHeap → Prop) (s' : Shared) : Prop
 | mk (v : V) (σ₂ : AHeap) (st : St X N σ₂ s') (step : Step X σ s σ₂ s') (rel : VRel (hid N σ₂) s'.heap v (.ref D)) (q : Q v σ₂) (c : σ₂ C = none) : CEnd X N σ s D C Q s'
theorem CompEnd.value' {new : Bool} {σ : AHeap} {s : Shared} {D C : Addr} {s' : Shared} {l : List V} {σ' : AHeap} {o : Obj} {Q : V → AHeap → Prop} (e : CompEnd X N σ s (fun l σ₁ => mkList new l σ₁ Q) D C s' l σ' o) {h' : Heap} (hs : Heap.SameBut C s'.heap h') :
  CEnd X N σ s D C Q { s' with heap := h' } :=
 have PK := e.poke hs
 have S₁ := e.st.poke (tk := s'.toks) PK
 have T₁ := e.step.poke (tk := s'.toks) PK e.cfree.2.2.1
 have f := e.free
 e.list.elim fun vs y => have hp' : h'.PlainList D vs := y.1.elim fun n hp => ⟨n, PK.at_ _ _ e.ne hp⟩
 have hvr' := y.2.2.poke PK
 Bool.casesOn (motive := fun new => (if new = true then ∀ a, σ' a = none → Q (.ref a) (upd σ' a (.list l)) else Q (.list l) σ') → CEnd X N σ s D C Q { s' with heap := h' }) new
  (fun hq => ⟨.list l, σ', S₁.unhide f.2.1, T₁, .list (hid_none.mpr ⟨f.2.1, f.1⟩) hp' y.2.1 (hvr'.light fun a q => (hideAt_none q).1), hq, e.cfree.1⟩)
  (fun hq => ⟨.ref D, upd σ' D (.list l), S₁.trackHidden f.2.1 hp' y.2.1 hvr', ⟨fun b ob nb q z => T₁.keep b ob nb q z, T₁.sink, fun b ob q q' => upd_elim (P := fun b _ => σ b = none → s.heap.get? b = none) (fun _ => f.2.2.1) (fun b ob _ q' q => T₁.new b ob q q') b ob q' q, T₁.live, T₁.rest⟩, .ref, hq D f.1,
   (upd_ne (Ne.symm e.ne)).trans e.cfree.1⟩) e.hq.2
theorem first_sync {gens : List Comprehension} (h : ∀ g ∈ gens, g.is_async = 0) (h0 : (!gens.isEmpty) = true) : firstAsync gens = false := by
 rcases gens with _ | ⟨g, r⟩
 ·exact (Bool.false_ne_true h0).elim
 ·have e := h g (.head _)
  rcases g with ⟨a, b, c, d⟩
  exact bne_eq_false_iff_eq.mpr e
theorem ET.comp {new : Bool} {elt : E} {gs : Gs} (he : ET X k elt) (hG : GsT X k gs) : ET X k (.comp new elt gs) := fun {_ _ _ env x _ _ _ A s} hm hq R S F => vComp_inv x hm fun l gens sc' pos hm => by
 rw [eval_ListComp,first_sync (gens_sync _ (a2 (a2 (a2 hm).2).2).1) (a2 (a2 hm).2).1]
 exact comp_run (new := new) (use := Option.none) he hG hm hq R S F fun D C s' l σ' o e => e.ns.elim fun m n => ⟨m, n, fun h' hs => (e.value' hs).rec fun v σ₂ a b c d _ => ⟨v, σ₂, a, b, c, d⟩⟩
end
end Mine
end

section
open PySem PySem.Calls PyProof.Rows PySem.W
set_option maxRecDepth 20000
namespace Mine
variable {N : Hid}
section
variable {X : Cx} {k : Nat}
noncomputable def ownP (sc : Scope) (env : Env) : Addr → Prop := fun p => p = env.locals ∨ ∃ x, sc.names.lookup x = some .cell ∧ env.cells.lookup x = some p
theorem ownP_own (sc : Scope) (env : Env) : Own (ownP sc env) sc env false := ⟨.inl rfl, fun _ x c h1 h2 => .inr ⟨x, h1, h2⟩⟩
theorem ownP_slot {sc : Scope} {nm : List (PySem.Str × Nat)} {env : Env} {ρ : List V} {σ : AHeap} {s : Shared} (F : FrOk X N sc nm env ρ σ s.heap) : PSlot N (ownP sc env) s := fun p hp =>
 hp.elim (fun e => .inr (F.ns.rec fun _ n _ => (ns_get n).elim fun o q => ⟨o, e ▸ q, ns_slot n o q⟩)) fun h => h.elim fun x h => (F.cell x (.inl h.1)).rec fun c ov a b _ _ _ => .inr (b.elim fun o y => ⟨o, inj_some a h.2 ▸ y.1, cell_slot b o y.1⟩)
inductive FlRel (τ : AHeap) (h : Heap) : Fl → Flow → Prop
 | next : FlRel τ h .next .next
 | brk : FlRel τ h .brk .brk
 | ret {v val} : VRel τ h v val → FlRel τ h (.ret v) (.ret val)
inductive PostF (X : Cx) (N : Hid) (sc : Scope) (nm : List (PySem.Str × Nat)) (env : Env) (σ : AHeap) (s : Shared) (Q : Fl → List V → AHeap → Prop) (f : Flow) (s' : Shared) : Prop
 | mk (fl : Fl) (ρ' : List V) (σ' : AHeap) (st : St X N σ' s') (step : StepX X (ownP sc env) σ s σ' s') (fr : FrOk X N sc nm env ρ' σ' s'.heap) (rel : FlRel (hid N σ') s'.heap fl f) (q : Q fl ρ' σ') : PostF X N sc nm env σ s Q f s'
noncomputable def ST (X : Cx) (k : Nat) (st : S) : Prop := ∀ {N : Hid} {sc : Scope} {nm : List (PySem.Str × Nat)} {env : Env} {x : Stmt} {ρ : List V} {σ : AHeap} {Q : Fl → List V → AHeap → Prop} {A : Around} {s : Shared},
 matS sc nm st x = true → wpS X k st ρ σ Q → Room k A → St X N σ s → FrOk X N sc nm env ρ σ s.heap → wpAny (model X.prog X.w) A (exec x env) (PostF X N sc nm env σ s Q) NoE s
noncomputable def SsT (X : Cx) (k : Nat) (st : Ss) : Prop := ∀ {N : Hid} {sc : Scope} {nm : List (PySem.Str × Nat)} {env : Env} {xs : List Stmt} {ρ : List V} {σ : AHeap} {Q : Fl → List V → AHeap → Prop} {A : Around} {s : Shared},
 matSs sc nm st xs = true → wpSs X k st ρ σ Q → Room k A → St X N σ s → FrOk X N sc nm env ρ σ s.heap → wpAny (model X.prog X.w) A (execs xs env) (PostF X N sc nm env σ s Q) NoE s
theorem seqF {M : Model} {A : Around} {t : Sem Flow} {sc : Scope} {nm : List (PySem.Str × Nat)} {env : Env} {σ : AHeap} {s : Shared} {Q : Fl → List V → AHeap → Prop} {G : Flow → Shared → Prop} (h : wpAny M A t (PostF X N sc nm env σ s Q) NoE s)
  (g : ∀ f s₁ fl ρ₁ σ₁, St X N σ₁ s₁ → StepX X (ownP sc env) σ s σ₁ s₁ → FrOk X N sc nm env ρ₁ σ₁ s₁.heap → FlRel (hid N σ₁) s₁.heap fl f → Q fl ρ₁ σ₁ → G f s₁) : wpAny M A t G NoE s :=
 wpAny_mono h (fun f s₁ p => p.rec fun fl ρ₁ σ₁ a b c d e => g f s₁ fl ρ₁ σ₁ a b c d e) fun _ _ x => x
theorem upF {M : Model} {A : Around} {t : Sem Flow} {sc : Scope} {nm : List (PySem.Str × Nat)} {env : Env} {σ σ₁ : AHeap} {s s₁ s₂ : Shared} {Q : Fl → List V → AHeap → Prop} (T : StepX X (ownP sc env) σ s σ₁ s₁) (h : wpAny M A t (PostF X N sc nm env σ₁ s₁ Q) NoE s₂) : wpAny M A t (PostF X N sc nm env σ s Q) NoE s₂ :=
 wpAny_mono h (fun f s₁ p => p.rec fun fl ρ₁ σ₁ a b c d e => ⟨fl, ρ₁, σ₁, a, T.trans b, c, d, e⟩) fun _ _ x => x
theorem SsT.nil : SsT X k .nil := fun {_ _ _ _ xs ρ σ _ _ _} hm hq _ S F => v0_inv xs hm (wpAny_execs_nil ⟨.next, ρ, σ, S, .refl .., F, .next, hq⟩)
theorem SsT.cons {st : S} {r : Ss} (h1 : ST X k st) (h2 : SsT X k r) : SsT X k (.cons st r) := by
 intro N sc nm env xs ρ σ Q A s hm hq R S F
 refine vc_inv xs hm fun x xs hm => (wpAny_bind (seqF (h1 (a2 hm).1 hq R S F) fun f s₁ fl ρ₁ σ₁ S₁ T₁ F₁ fr h => ?_) : wpAny _ _ (exec x env >>= fun f => match f with | .next => execs xs env | f => pure f) _ _ s)
 induction fr with
 | next => exact upF T₁ (h2 (a2 hm).2 h R S₁ F₁)
 | brk => exact wpAny_pure ⟨.brk, ρ₁, σ₁, S₁, T₁, F₁, .brk, h⟩
 | ret v => exact wpAny_pure ⟨_, ρ₁, σ₁, S₁, T₁, F₁, .ret v, h⟩
theorem FrOk.as {sc : Scope} {nm : List (PySem.Str × Nat)} {env : Env} {ρ : List V} {σ : AHeap} {h : Heap} {i : Nat} {v : V} {a : Addr} (F : FrOk X N sc nm env ρ σ h) (e : ρ[i]? = some (.ref a)) (y : VRel (hid N σ) h v (.ref a)) : FrOk X N sc nm env (ρ.set i v) σ h where
 scope := F.scope
 kind := F.kind
 glob := F.glob
 blt := F.blt
 ns := F.ns.rec fun m n r => ⟨m, n, fun x j hx hl u hu hne => (set_get hu).elim (fun z => (r x j hx hl (.ref a) (z.1 ▸ e) (fun q => V.noConfusion q)).elim fun _ p => ⟨_, p.1, p.2.ref_inv ▸ z.2 ▸ y⟩) fun z => r x j hx hl u z.2 hne⟩
 cell := fun x k => (F.cell x k).rec fun c ov a' b d e' r => ⟨c, ov, a', b, d, e', fun j hx u hu hne => (set_get hu).elim (fun z => (r j hx (.ref a) (z.1 ▸ e) (fun q => V.noConfusion q)).elim fun _ p => ⟨_, p.1, p.2.ref_inv ▸ z.2 ▸ y⟩) fun z => r j hx u z.2 hne⟩
 own := F.own
 inj := F.inj
 cinj := F.cinj
theorem SsT.fz {i : Nat} {r : Ss} (h : SsT X k r) : SsT X k (.fz i r) := fun {_ _ _ _ _ ρ _ _ _ _} hm hq R S F => (getP_inv hq).elim fun u y => refP.inv (P := fun u => ρ[i]? = some u → _) u y.2.2 (fun _ q e => q.inv fun _ e2 q => have z := S.freeze e2
 upF (.of z.2.1) (h hm q R z.1 ((F.step S z.1 z.2.1).as e z.2.2))) y.1
theorem ST.pass : ST X k .pass := fun {_ _ _ env x ρ σ _ A s} hm hq _ S F => vPass_inv x hm fun p _ => arm_exec_Pass p env ▸ wpAny_bind (wpAny_standAt (wpAny_pure ⟨.next, ρ, σ, S, .refl .., F, .next, hq⟩))
theorem ST.brk : ST X k .brk := fun {_ _ _ _ x ρ σ _ _ _} hm hq _ S F => vBrk_inv x hm fun _ _ => wpAny_Break ⟨.brk, ρ, σ, S, .refl .., F, .brk, hq⟩
theorem ST.retn : ST X k .retn := fun {_ _ _ _ x ρ σ _ _ _} hm hq _ S F => vRet_inv x hm fun o _ hm => vNoneOpt_inv o hm (wpAny_Return_none ⟨.ret .none, ρ, σ, S, .refl .., F, .ret .none, hq⟩)
theorem ST.ret {e : E} (he : ET X k e) : ST X k (.ret e) := fun {_ _ _ _ x ρ _ _ _ _} hm hq R S F => vRet_inv x hm fun o _ hm => vSomeOpt_inv o hm fun _ hm =>
 wpAny_Return_some (seqE (he hm hq R S F) fun _ _ _ σ₁ S₁ T₁ V₁ h₁ => ⟨_, ρ, σ₁, S₁, .of T₁, F.step S S₁ T₁, .ret V₁, h₁⟩)
theorem ST.raise : ST X k .raise := fun {_ _ _ _ _ _ _ _ _ _} _ hq _ _ _ => hq.elim
theorem not_inter {sc : Scope} {nm : List (PySem.Str × Nat)} {env : Env} {ρ : List V} {σ : AHeap} {h : Heap} (F : FrOk X N sc nm env ρ σ h) : interactive env = false := by unfold interactive; rw [F.scope,F.kind]; rfl
theorem ST.expr {e : E} (he : ET X k e) : ST X k (.expr e) := fun {_ _ _ env x ρ _ _ _ _} hm hq R S F => vExpr_inv x hm fun v _ hm =>
 wpAny_Expr_any (seqE (he (a2 hm).2 hq R S F) fun _ _ _ σ₁ S₁ T₁ _ h₁ => ⟨_, ρ, σ₁, S₁, .of T₁, F.step S S₁ T₁, .next, h₁⟩) (not_inter F) (PySem.Expr.Call.elim (motive_1 := fun v => swapsWith v Option.none _ env = pure false) v (eq_of_beq (a2 hm).1) fun _ _ _ _ => rfl)
theorem ST.ife {c : E} {a b : Ss} (hc : BT X k c) (ha : SsT X k a) (hb : SsT X k b) : ST X k (.ife c a b) := fun {_ _ _ _ x ρ _ Q _ _} hm hq R S F => vIfS_inv x hm fun _ _ _ _ hm => have m := a2 (a2 hm).2
 wpAny_If (seqB (Q := fun r σ₁ => if r = true then wpSs X k a ρ σ₁ Q else wpSs X k b ρ σ₁ Q) (hc (a2 hm).1 m.1 hq R S F) fun b' s₁ σ₁ S₁ T₁ h₁ =>
  ite_B h₁ (fun h => upF (.of T₁) (ha (a2 m.2).1 h R S₁ (F.step S S₁ T₁))) fun h => upF (.of T₁) (hb (a2 m.2).2 h R S₁ (F.step S S₁ T₁)))
noncomputable abbrev tstP (X : Cx) (k : Nat) (c : E) : List V → AHeap → (Bool → AHeap → Prop) → Prop := fun ρ σ Q => wpE X k c ρ σ fun u σ₁ => truthP u fun b => Q b σ₁
noncomputable abbrev bdyP (X : Cx) (k : Nat) (b : Ss) : List V → AHeap → (Fl → List V → AHeap → Prop) → Prop := fun ρ σ Q => wpSs X k b ρ σ Q
inductive WI (X : Cx) (N : Hid) (sc : Scope) (nm : List (PySem.Str × Nat)) (env : Env) (σ : AHeap) (s : Shared) (W : List V → AHeap → Prop) (s' : Shared) : Prop
 | mk (ρ' : List V) (σ' : AHeap) (w : W ρ' σ') (st : St X N σ' s') (step : StepX X (ownP sc env) σ s σ' s') (fr : FrOk X N sc nm env ρ' σ' s'.heap) : WI X N sc nm env σ s W s'
theorem ST.wh {c : E} {b : Ss} (hc : BT X k c) (hb : SsT X k b) : ST X k (.wh c b) := by
 intro N sc nm env x ρ σ Q A s hm hq R S F
 refine vWhile_inv x hm fun t l els _ hm => v0_inv els (a2 hm).1 ?_
 have m := a2 (a2 hm).2
 have m2 := a2 m.2
 obtain ⟨n, hq⟩ : ∃ n, whileP (tstP X k c) (bdyP X k b) Q n ρ σ := hq
 refine wpAny_While (codeAny_whileLoop (fun n s' => WI X N sc nm env σ s (whileP (tstP X k c) (bdyP X k b) Q n) s') ?_ n ⟨ρ, σ, hq, S, .refl .., F⟩)
 intro n s₁ I
 induction n with
 | zero => exact I.rec fun _ _ w _ _ _ => w.elim
 | succ n =>
  refine I.rec fun ρ₁ σ₁ hq S₁ T₁ F₁ => wpAny_mono (hc m.1 m2.1 hq R S₁ F₁) (fun b' s₂ p => p.rec fun σ₂ S₂ T₂ h₂ => ?_) fun _ _ z => z.elim
  have F₂ := F₁.step S₁ S₂ T₂
  have T := T₁.trans (.of T₂)
  rcases b' with _ | _
  ·exact wpAny_execs_nil ⟨.next, ρ₁, σ₂, S₂, T, F₂, .next, h₂⟩
  ·refine wpAny_mono (hb m2.2 h₂ R S₂ F₂) (fun f s₃ p => p.rec fun fl ρ₃ σ₃ S₃ T₃ F₃ fr h₃ => ?_) fun _ _ z => z.elim
   have T := T.trans T₃
   induction fr with
   | next => exact ⟨n, Nat.lt_succ_self _, ρ₃, σ₃, h₃, S₃, T, F₃⟩
   | brk => exact ⟨.next, ρ₃, σ₃, S₃, T, F₃, .next, h₃⟩
   | ret v => exact ⟨_, ρ₃, σ₃, S₃, T, F₃, .ret v, h₃⟩
inductive FI (X : Cx) (N : Hid) (sc : Scope) (nm : List (PySem.Str × Nat)) (env : Env) (σ : AHeap) (s : Shared) (it : Addr) (W : List V → List V → AHeap → Prop) (n : Nat) (s' : Shared) : Prop
 | mk (items ρ' : List V) (σ' : AHeap) (e : items.length = n) (w : W items ρ' σ') (st : St X N σ' s') (step : StepX X (ownP sc env) σ s σ' s') (fr : FrOk X N sc nm env ρ' σ' s'.heap) (x : Iter (hid N σ') s'.heap it items) (I : ItOk X σ' it) : FI X N sc nm env σ s it W n s'
inductive AsgE (X : Cx) (N : Hid) (sc : Scope) (nm : List (PySem.Str × Nat)) (env : Env) (σ : AHeap) (s : Shared) (QR : List V → Prop) (s' : Shared) : Prop
 | mk (ρ' : List V) (pp : Pokes X N σ (ownP sc env) s s') (fr : FrOk X N sc nm env ρ' σ s'.heap) (q : QR ρ') : AsgE X N sc nm env σ s QR s'
theorem ST.forr {t : Tg} {it : It} {b : Ss} (hi : IT X k it) (hb : SsT X k b) : ST X k (.forr t it b) := by
 intro N sc nm env x ρ σ Q A s hm hq R S F
 refine vFor_inv x hm fun tg itx l els _ hm => v0_inv els (a2 hm).1 ?_
 have m := a2 (a2 hm).2
 have m2 := a2 (a2 m.2).2
 refine wpAny_For (seqI (hi m2.1 hq R S F) fun val₁ s₁ items σ₁ S₁ T₁ V₁ h₁ => iter_begin S₁ V₁ fun ob hob x₂ => ?_) (folded_of m2.1 env)
 have hn₁ : s₁.heap.get? s₁.heap.objs.size = none := get_ge_none (Nat.le_refl _)
 have gr := Grow.push (X := X) s₁.heap ob
 have S₂ := S₁.grow (tk := s₁.toks) gr
 have T₂ := Step.grow (X := X) (σ := σ₁) (s := s₁) (tk := s₁.toks) gr
 have I₂ := new_it S₁
 have F₂ := (F.step S S₁ T₁).step S₁ S₂ T₂
 have T := (StepX.of (P := ownP sc env) T₁).trans (.of T₂)
 have hN := S₁.hid_fresh hn₁
 have hs := T₁.fresh hn₁
 generalize s₁.heap.objs.size = itA at x₂ I₂ hN hs ⊢
 refine codeAny_forLoop_any (fun n s' => FI X N sc nm env σ s itA (forP t (bdyP X k b) Q) n s') ?_ items.length ⟨items, ρ, σ₁, rfl, h₁, S₂, T, F₂, x₂, I₂⟩
 intro n s₃ I
 refine I.rec fun items ρ₃ σ₃ en hq₃ S₃ T₃ F₃ x₃ I₃ => ?_
 have FP : ∀ {h' : Heap}, Poke X N σ₃ s₃ itA h' → FrOk X N sc nm env ρ₃ σ₃ h' := fun PK => F₃.poke PK fun o e => x₃.fields.elim fun _ f => fields_not_slot (inj_some f.1 e ▸ f.2)
 refine wpAny_mono (iter_next (E := NoE) (Q := fun r s₄ => match r with | none => _ | some v => _) R.1 S₃ I₃ x₃ (fun e h' he => ?_) fun v rs e val h' tk PK V₄ x₄ => ?_) (fun r s₄ h => h) fun _ _ z => z.elim
 ·have PK := it_poke S₃ I₃ hN x₃ he
  exact wpAny_execs_nil ⟨.next, ρ₃, σ₃, S₃.poke (tk := s₃.toks) PK, T₃.poke (tk := s₃.toks) PK (.inr hs), FP PK, .next, (e ▸ hq₃ : forP t (bdyP X k b) Q [] ρ₃ σ₃)⟩
 ·have S₄ := S₃.poke (tk := tk) PK
  have lt : rs.length < n := en ▸ e ▸ Nat.lt_succ_self _
  refine Iter.owned (s := { s₃ with heap := h', toks := tk }) x₄ (wpAny_mono (assign_tg (Q := fun _ s' => AsgE X N sc nm env σ₃ { s₃ with heap := h', toks := tk } (fun ρ₁ => wpSs X k b ρ₁ σ₃ fun fl ρ' σ' => match fl with | .next => forP t (bdyP X k b) Q rs ρ' σ' | .brk => Q .next ρ' σ' | .ret v => Q (.ret v) ρ' σ') s') (P := ownP sc env) (s := { s₃ with heap := h', toks := tk }) (ownP_own sc env) R.1 m.1 S₄ (FP PK) V₄ (show asgP t v ρ₃ _ from (e ▸ hq₃ : forP t (bdyP X k b) Q (v :: rs) ρ₃ σ₃)) fun s₅ ρ₅ PP F₅ h₅ => ⟨ρ₅, PP, F₅, h₅⟩) (fun _ s₅ p => p.rec fun ρ₅ PP F₅ h₅ => ?_) fun _ _ z => z.elim)
  have S₅ := PP.st S₄
  refine wpAny_mono (hb m2.2 h₅ R S₅ F₅) (fun f s₆ p => p.rec fun fl ρ₆ σ₆ S₆ T₆ F₆ fr h₆ => ?_) fun _ _ z => z.elim
  have y := T₆.iter S₅ (ownP_slot F₅) I₃ hN (PP.iter x₄)
  have T' := ((T₃.poke (tk := tk) PK (.inr hs)).trans PP.stepX).trans T₆
  induction fr with
  | next => exact ⟨rs.length, lt, rs, ρ₆, σ₆, rfl, h₆, S₆, T', F₆, y.1, y.2⟩
  | brk => exact ⟨.next, ρ₆, σ₆, S₆, T', F₆, .next, h₆⟩
  | ret v => exact ⟨_, ρ₆, σ₆, S₆, T', F₆, .ret v, h₆⟩
end
end Mine
end

section
open PySem PySem.Calls PyProof.Rows PySem.W
set_option maxRecDepth 20000
namespace Mine
variable {N : Hid}
section
variable {X : Cx} {k : Nat}
theorem dictSet_le {prog : Program} {w : World} {A : Around} {E : Value → Shared → Prop} {s : Shared} {d : Addr} {f : Int → Option Value} {i : Int} {t : Tok} {v : Value} {n : Nat} {Q : Unit → Shared → Prop} (hm : s.heap.MapOf (intKind prog w) d f) (hz : s.heap.DictLe d n) (hn : n ≤ sizeLine)
  (hQ : ∀ h', h'.MapOf (intKind prog w) d (fun x => if x = i then some v else f x) → h'.DictLe d (n + 1) → Heap.SameBut d s.heap h' → Q () { s with heap := h', toks := s.toks + 1 }) : wpAny (model prog w) A (dictSet d (.int i t) v) Q E s := by
 obtain ⟨o, es, ep, ho, hc, hd, hk, hf⟩ := hm
 have hkey := intKind_is prog w i t
 have hsz : es.size ≤ n := hz _ _ _ ho hd
 unfold dictSet
 try with_reducible refine wpAny_holding ?_
 refine wpAny_bind ((intKind prog w).pyHash hkey ?_)
 unfold dictSetHashed
 try with_reducible refine wpAny_holding ?_
 refine wpAny_bind (wpAny_dictFind_of (s := { s with toks := s.toks + 1 }) hkey ho hd hk ?_)
 cases hi : es.findIdx? fun e => (intKind prog w).is i e.key with
 | some j =>
  have ho' := Heap.get?_update_self (Obj.mapDict (fun es => es.modify j fun e => { e with val := v })) ho (Obj.isFreed_of_dict (Obj.data_mapDict hd _))
  refine wpAny_bind (wpAny_rule (wpAny_bind (wpAny_updateDict (s := { s with toks := s.toks + 1 }) ho hd (wpAny_point (hQ _ ⟨_, _, ep, ho', hc.mapDict _, Obj.data_mapDict hd _, hk.modify _ _, fun x => ?_⟩ (fun o2 es2 ep2 e2 d2 => ?_) (Heap.SameBut.update ..))))))
  ·rw [findBy_modify (intKind prog w).is (intKind prog w).inj es i x v j hi,hf]
  ·rw [ho'] at e2; cases e2
   rw [Obj.data_mapDict hd _] at d2; cases d2
   rw [Array.size_modify]; exact Nat.le_succ_of_le hsz
 | none =>
  have ho' := Heap.get?_update_self (Obj.mapDictKeys (fun es => es.push ⟨(intKind prog w).hash i, .int i t, v⟩)) ho (Obj.isFreed_of_dict (Obj.data_mapDictKeys hd _))
  refine wpAny_bind (wpAny_rule (wpAny_updateDictKeys (hz := Nat.le_trans hsz hn) (s := { s with toks := s.toks + 1 }) ho hd (hQ _ ⟨_, _, ep + 1, ho', hc.mapDictKeys _, Obj.data_mapDictKeys hd _, hk.push hkey _, fun x => ?_⟩ (fun o2 es2 ep2 e2 d2 => ?_) (Heap.SameBut.update ..))))
  ·rw [findBy_push (intKind prog w).is es i x _ _ v (KeyKind.is_eq_decide hkey) hi,hf]
  ·rw [ho'] at e2; cases e2
   rw [Obj.data_mapDictKeys hd _] at d2; cases d2
   rw [Array.size_push]; exact Nat.succ_le_succ hsz
theorem setItem_dict {prog : Program} {w : World} {A : Around} {E : Value → Shared → Prop} {s : Shared} {d : Addr} {f : Int → Option Value} {i : Int} {t : Tok} {v : Value} {n : Nat} {Q : Unit → Shared → Prop} (hm : s.heap.MapOf (intKind prog w) d f) (hz : s.heap.DictLe d n) (hn : n ≤ sizeLine)
  (hQ : ∀ h', h'.MapOf (intKind prog w) d (fun x => if x = i then some v else f x) → h'.DictLe d (n + 1) → Heap.SameBut d s.heap h' → Q () { s with heap := h', toks := s.toks + 1 }) : wpAny (model prog w) A (setItem (.ref d) (.int i t) v) Q E s := by
 unfold setItem
 try with_reducible refine wpAny_holding ?_
 refine wpAny_bind (wpAny_sequenceKey hm.typeIs (by decide) ?_)
 refine wpAny_bind (wpAny_callSpecial?_slot (name := Str.ofString "__setitem__") hm.typeIs slot_dict_setitem
  (wpAny_call_entry slot_dict_setitem hm.typeIs entry_dict_setitem ?_ (args_dict_setitem _ _ _)))
 show wpAny _ _ (Builtin.Dict.notOrdered "__setitem__" ⟨[.ref d, .int i t, v], []⟩ >>= _) _ _ s
 refine wpAny_bind (wpAny_notOrdered_dict hm.typeIs ?_)
 show wpAny _ _ (dictSet d (.int i t) v >>= _) _ _ s
 exact wpAny_bind (dictSet_le hm hz hn fun h' hm' hz' hs' => wpAny_pure ⟨.none, rfl, wpAny_pure (hQ h' hm' hz' hs')⟩)
theorem mapSeq_plain (its : Array Value) (n : Nat) (f : Array Value → Array Value) : ∃ n', Obj.mapSeq f { cls := .type "list", data := .seq its n } = { cls := .type "list", data := .seq (f its) n' } := by
 simp [Obj.mapSeq]
theorem setItem_plain {prog : Program} {w : World} {A : Around} {E : Value → Shared → Prop} {s : Shared} {l : Addr} {items : Array Value} {i : Int} {t : Tok} {v : Value} {Q : Unit → Shared → Prop} (hp : s.heap.PlainList l items)
  (h0 : 0 ≤ i) (hfit : i < 2 ^ 63) (hn : i < items.size)
  (hQ : ∀ h', h'.PlainList l (items.setIfInBounds i.toNat v) → Heap.SameBut l s.heap h' → Q () { s with heap := h' }) :
  wpAny (model prog w) A (setItem (.ref l) (.int i t) v) Q E s := by
 have hl := hp.isList
 obtain ⟨n, ho⟩ := hp
 unfold setItem
 try with_reducible refine wpAny_holding ?_
 first | refine wpAny_bind (wpAny_pure ?_) | skip
 refine wpAny_bind (wpAny_sequenceKey hl.typeIs (by decide) ?_)
 refine wpAny_bind (wpAny_callSpecial?_slot (name := Str.ofString "__setitem__") hl.typeIs slot_list_setitem
  (wpAny_call_entry slot_list_setitem hl.typeIs entry_list_setitem ?_ (args_list_setitem _ _ _)))
 show wpAny _ _ (Builtin.List.listSubscript? (.int i t) >>= _) _ _ s
 refine wpAny_bind (wpAny_listSubscript_int (fitsIndex_of h0 hfit) ?_)
 clear hfit
 obtain ⟨j, rfl⟩ := Int.eq_ofNat_of_zero_le h0
 have hj : j < items.size := Int.ofNat_lt.mp hn
 have hx' : items[j]? = some items[j] := Array.getElem?_eq_getElem hj
 show wpAny _ _ ((seqItemAt l j >>= fun r => pure (r.map (j, ·))) >>= _) _ _ s
 refine wpAny_bind (wpAny_bind (wpAny_seqItemAt ho rfl (wpAny_pure ?_)))
 rw [hx']
 show wpAny _ _ (setSeqItemAt l j v >>= _) _ _ s
 obtain ⟨n', hd'⟩ := mapSeq_plain items n (·.setIfInBounds j v)
 have hfin : (s.heap.update l (Obj.mapSeq (·.setIfInBounds j v))).PlainList l (items.setIfInBounds j v) :=
  ⟨n', by rw [Heap.get?_update_self _ ho (by rw [hd']; rfl), hd']⟩
 refine wpAny_bind (wpAny_setSeqItemAt ho rfl ?_)
 first
  | exact wpAny_bind (wpAny_pure (wpAny_pure ⟨.none, rfl, wpAny_pure (hQ _ hfin (Heap.SameBut.update ..))⟩))
  | exact wpAny_pure ⟨.none, rfl, wpAny_pure (hQ _ hfin (Heap.SameBut.update ..))⟩
theorem VRels.set {τ : AHeap} {h : Heap} {l : List V} {vs : List Value} {v : V} {val : Value} (x : VRels τ h l vs) (y : VRel τ h v val) : ∀ j : Nat, VRels τ h (l.set j v) (vs.set j val) :=
 x.ind (P := fun l vs => ∀ j : Nat, VRels τ h (l.set j v) (vs.set j val)) (fun _ => .nil) fun _ _ _ _ a r ih j => Nat.casesOn (motive := fun j => VRels τ h ((_ :: _).set j v) ((_ :: _).set j val)) j (.cons y r) fun j => .cons a (ih j)
inductive PostU (X : Cx) (N : Hid) (σ : AHeap) (s : Shared) (Q : AHeap → Prop) (u : Unit) (s' : Shared) : Prop
 | mk (σ' : AHeap) (st : St X N σ' s') (step : Step X σ s σ' s') (q : Q σ') : PostU X N σ s Q u s'
theorem ORelO.ite {τ : AHeap} {h : Heap} {c : Prop} [Decidable c] {a b : Option V} {a' b' : Option Value} (x : ORelO τ h a a') (y : ORelO τ h b b') : ORelO τ h (if c then a else b) (if c then a' else b') :=
 (Decidable.em c).elim (fun e => by rw [if_pos e,if_pos e]; exact x) fun e => by rw [if_neg e,if_neg e]; exact y
theorem setlist_call {p : Addr} {l : List V} {x : V} {j : Int} {t : Tok} {c : Value} {σ : AHeap} {s : Shared} {A : Around} {Q : AHeap → Prop} (S : St X N σ s) (e : σ p = some (.list l)) (xx : VRel (hid N σ) s.heap x c) (h : 0 ≤ j ∧ j < l.length ∧ Q (upd σ p (.list (l.set j.toNat x)))) :
  wpAny (model X.prog X.w) A (setItem (.ref p) (.int j t) c) (PostU X N σ s Q) NoE s :=
 (S.objs _ _ e).elim fun vs y => setItem_plain y.1 h.1 (Int.lt_of_lt_of_le h.2.1 (y.2.2.sz ▸ Int.le_trans (Int.ofNat_le.mpr y.2.1) (by decide))) (y.2.2.sz ▸ h.2.1) fun h' hp hs =>
  have z := S.change (tk := s.toks) (o' := .list (l.set j.toNat x)) e hs (hp.elim fun _ q => ⟨_, q⟩) (fun _ q => nomatch q) fun up => ⟨_, hp, Nat.le_trans (Nat.le_of_eq Array.size_setIfInBounds) y.2.1, by rw [Array.toList_setIfInBounds]; exact (y.2.2.up up).set (xx.up up) _⟩
  ⟨_, z.1, z.2, h.2.2⟩
theorem setdict_call {p : Addr} {n : Nat} {m : Int → Option V} {x : V} {j : Int} {t : Tok} {c : Value} {σ : AHeap} {s : Shared} {A : Around} {Q : AHeap → Prop} (S : St X N σ s) (e : σ p = some (.dict n m)) (xx : VRel (hid N σ) s.heap x c) (h : n < 1000 ∧ Q (upd σ p (.dict (n + 1) fun q => if q = j then some x else m q))) :
  wpAny (model X.prog X.w) A (setItem (.ref p) (.int j t) c) (PostU X N σ s Q) NoE s :=
 (S.objs _ _ e).elim fun f y => setItem_dict y.1 y.2.1.1 (size_line _ y.2.1.2) fun h' hm' hz' hs' =>
  have z := S.change (tk := s.toks + 1) (o' := .dict (n + 1) fun q => if q = j then some x else m q) e hs' (hm'.elim fun ob q => q.elim fun _ q => q.elim fun _ q => ⟨ob, q.1⟩) (fun _ q => nomatch q) fun up => ⟨_, hm', ⟨hz', h.1⟩, fun q => .ite (a := some x) (a' := some c) (xx.up up) ((y.2.2 q).map up.kept)⟩
  ⟨_, z.1, z.2, h.2⟩
theorem setitem_call {u i x : V} {a b c : Value} {σ : AHeap} {s : Shared} {A : Around} {Q : AHeap → Prop} (S : St X N σ s) (xu : VRel (hid N σ) s.heap u a) (xi : VRel (hid N σ) s.heap i b) (xx : VRel (hid N σ) s.heap x c) (h : setidxP u i x σ Q) :
  wpAny (model X.prog X.w) A (setItem a b c) (PostU X N σ s Q) NoE s :=
 refP.inv (P := fun u => VRel (hid N σ) s.heap u a → _) u h (fun p h xu => xu.toRef a (intP.inv (P := fun i => VRel (hid N σ) s.heap i b → _) i h (fun j h xi => xi.toInt b fun t => by
  rcases e : σ p with _ | (_ | _ | _ | _ | _) <;> rw [e] at h <;> first | exact h.elim | exact setlist_call S e xx h | exact setdict_call S e xx h) xi)) xu
end
end Mine
end

section
open PySem PySem.Calls PyProof.Rows PySem.W
set_option maxRecDepth 20000
namespace Mine
variable {N : Hid}
section
variable {X : Cx} {k : Nat}
theorem isStr_an {i j : Nat} {t : Tok} (hi : i < 30) (hj : j < 30) : (Value.str (an i) t).isStr (an j) = decide (i = j) :=
 (Decidable.em (i = j)).elim (fun e => e ▸ (decide_eq_true (p := i = i) rfl).symm ▸ beq_self_eq_true (an i)) fun e => (beq_false_of_ne fun q => e (an_inj _ _ hi hj q)).trans (decide_eq_false e).symm
theorem FRel.put {τ : AHeap} {h : Heap} {n : Nat} {v : V} {val : Value} {t : Tok} (hn : n < 14) (y : VRel τ h v val) {fs : List (Nat × V)} {es : List DictEntry} (x : FRel X τ h fs es) : (∀ p ∈ fs, p.1 < 14) →
  FRel X τ h (putF n v fs) (putL (an n) (PyData.keyHash X.w.params (an n)) (.str (an n) t) val es) ∧ (∀ p ∈ putF n v fs, p.1 < 14) ∧ (putF n v fs).length ≤ fs.length + 1 :=
 x.ind (P := fun fs es => (∀ p ∈ fs, p.1 < 14) → FRel X τ h (putF n v fs) (putL (an n) (PyData.keyHash X.w.params (an n)) (.str (an n) t) val es) ∧ (∀ p ∈ putF n v fs, p.1 < 14) ∧ (putF n v fs).length ≤ fs.length + 1)
  (fun _ => ⟨.cons y .nil, fun p hp => List.mem_singleton.mp hp ▸ hn, Nat.le_refl _⟩) fun i v0 fs es t0 val0 x r ih hk => by
   have hi : i < 14 := hk _ List.mem_cons_self
   have ih := ih fun p hp => hk p (List.mem_cons_of_mem _ hp)
   unfold putF putL
   rw [isStr_an (Nat.lt_trans hi (by decide)) (Nat.lt_trans hn (by decide))]
   by_cases e : i = n
   ·rw [decide_eq_true e,if_pos e,if_pos rfl]
    exact ⟨e ▸ .cons y r, fun p hp => (List.mem_cons.mp hp).elim (fun h1 => h1 ▸ hi) fun h1 => hk p (List.mem_cons_of_mem _ h1), Nat.le_succ _⟩
   ·rw [decide_eq_false e,if_neg e,if_neg Bool.false_ne_true]
    exact ⟨.cons x ih.1, fun p hp => (List.mem_cons.mp hp).elim (fun h1 => h1 ▸ hi) fun h1 => ih.2.1 p h1, Nat.succ_le_succ ih.2.2⟩
theorem FRel.length {τ : AHeap} {h : Heap} {fs : List (Nat × V)} {es : List DictEntry} (x : FRel X τ h fs es) : fs.length = es.length := x.ind (P := fun fs es => fs.length = es.length) rfl fun _ _ _ _ _ _ _ _ e => congrArg (· + 1) e
theorem St.field {σ : AHeap} {s : Shared} (S : St X N σ s) {p dx C : Addr} {fs fs' : List (Nat × V)} {es' : List DictEntry} {n' : Nat} {h' : Heap} {tk : Nat} (e : σ p = some (.inst C fs)) (e2 : σ dx = some (.sub p)) (ha : s.heap.get? p = some (instObj C dx)) (hdx' : h'.get? dx = some (dictOf es' n'))
  (at_ : ∀ b ob, b ≠ dx → b ≠ X.G → s.heap.get? b = some ob → h'.get? b = some ob) (sink : ∀ m', s.heap.Ns X.G m' → h'.Ns X.G m') (f1 : FRel X (hid N σ) s.heap fs' es') (hc : C ∈ clsL) (hl : fs'.length ≤ 100) (f2 : ∀ q ∈ fs', q.1 < 14) :
  St X N (upd σ p (.inst C fs')) { s with heap := h', toks := tk } ∧ Step X σ s (upd σ p (.inst C fs')) { s with heap := h', toks := tk } :=
 have live : ∀ b ob, s.heap.get? b = some ob → ∃ o', h'.get? b = some o' := fun b ob q => (Decidable.em (b = dx)).elim (fun z => z ▸ ⟨_, hdx'⟩) fun z => (Decidable.em (b = X.G)).elim (fun z2 => S.ns.elim fun m n => z2 ▸ ns_get (sink m n)) fun z2 => ⟨ob, at_ b ob z z2 q⟩
 have ne : ∀ {b}, σ b = none → b ≠ p := fun q z => nos q (z ▸ e)
 have nd : ∀ {b}, σ b = none → b ≠ dx := fun q z => nos q (z ▸ e2)
 have u : Up X.G (hid N σ) s.heap (hid N (upd σ p (.inst C fs'))) h' := ⟨fun b ob n1 q z => have z := hid_none.mp z; ⟨at_ b ob (nd z.2) n1 q, hid_none.mpr ⟨z.1, (upd_ne (ne z.2)).trans z.2⟩⟩, S.ns⟩
 have sb : ∀ {b dx'}, σ dx' = some (.sub b) → upd σ p (.inst C fs') dx' = some (.sub b) := fun q => (upd_ne (ne_objs q e fun w => nomatch w)).trans q
 ⟨⟨fun b ob q => at_ b ob (fun z => nos (S.fresh _ _ e2) (z ▸ q)) (fun z => nos S.gH0 (z ▸ q)) (S.keep b ob q), upd_elim (S.fresh _ _ e) fun b ob _ q => S.fresh b ob q,
  upd_elim ⟨dx, _, _, at_ _ _ (ne_objs e e2 fun w => nomatch w) (S.ne_G e) ha, hid_sub.mpr ⟨S.hid_tracked e2, sb e2⟩, hdx', f1.map u.kept, hc, hl, f2⟩ fun b ob z q => (Decidable.em (b = dx)).elim (fun w => inj_some e2 (w ▸ q) ▸ trivial) fun w =>
   (S.objs b ob q).up u (fun ob' q' => at_ b ob' w (S.ne_G q) q') fun dx' w' => have w2 := (hid_sub.mp w').2
    ⟨hid_sub.mpr ⟨(hid_sub.mp w').1, sb w2⟩, fun ob' q' => at_ dx' ob' (fun y => z (AObj.sub.inj (inj_some e2 (y ▸ w2))).symm) (S.ne_G w2) q'⟩,
  upd_elim (live _ _ ha) fun b ob _ q => (S.live b ob q).elim fun ob' q' => live b ob' q', S.ns.elim fun m n => ⟨m, sink m n⟩, (upd_ne (ne S.gfree)).trans S.gfree, S.gH0,
  fun b ob q => have h := S.hids b ob q; ⟨(upd_ne (ne h.1)).trans h.1, h.2.1.elim fun ob' h2 => live b ob' h2, h.2.2⟩⟩,
  ⟨fun b ob n1 q z => at_ b ob (nd z) n1 q, sink, fun b ob q q' => (nos q ((upd_ne (ne q)).symm.trans q')).elim, live, h', tk, rfl⟩⟩
theorem setattr_call (B : Base X) {u x : V} {n : Nat} {a c : Value} {σ : AHeap} {s : Shared} {A : Around} {Q : AHeap → Prop} (S : St X N σ s) (xu : VRel (hid N σ) s.heap u a) (xx : VRel (hid N σ) s.heap x c) (h : setattrP u n x σ Q) :
  wpAny (model X.prog X.w) A (setAttr a (an n) c) (PostU X N σ s Q) NoE s := by
 refine refP.inv (P := fun u => VRel (hid N σ) s.heap u a → _) u h (fun p h xu => xu.toRef a (h.inv fun C fs e h => (inst_at S e).rec fun dx es m e2 I ha hdx y hc hl hp => (ledger S).elim fun mm L => L.elim fun news L => ?_)) xu
 have cc := B.cls C hc
 have KH := B.inK.keeps S.keep
 have N1 : News ({} : Heap) X.G s.heap ([] ++ (dx, dictOf es m) :: news.filter (fun q => q.1 ≠ dx)) := fun q hq' => (List.mem_cons.mp hq').elim (fun z => z ▸ ⟨hdx, S.ne_G e2, get_ge_none (Nat.zero_le _)⟩) fun hq' => L.2.1 q (List.mem_filter.mp hq').1
 have f := y.put (n := n) (v := x) (val := c) (t := s.toks + 1) h.1 xx hp
 have hlk : (lookIn (an n) (dictOf es m)).isSome = true := by
  rw [lookIn_dict]
  have z := y.look (n := n) (Nat.lt_trans h.1 (by decide)) (fun q hq' => Nat.lt_trans (hp q hq') (by decide))
  rcases hf : fs.lookup n with _ | v
  ·rw [z.2 hf]; rfl
  ·exact (z.1 v hf).elim fun _ w => w.1 ▸ rfl
 refine set_plain KH I cc.2.2.1 (osa_dict (s := { s with toks := s.toks + 1 }) (es := putL (an n) (PyData.keyHash X.w.params (an n)) (.str (an n) (s.toks + 1)) c es) (n := putN (an n) es m) L.1 N1 KH I rfl cc.2.2.2.1 (B.attrs C hc n h.1).2 cc.1 hlk (by simp)
  (fun q hq' => of_decide_eq_true (List.mem_filter.mp hq').2) (putName_dict _ _ _ _ _ _) rfl (f.1.length ▸ Nat.le_trans f.2.2 (Nat.le_trans (Nat.succ_le_succ hl) (by decide))) fun h' F' N' => ?_)
 have z := S.field (fs' := putF n x fs) (tk := s.toks + 1 + 1) e e2 ha (N' (dx, _) (List.mem_append_right _ (List.mem_cons_self ..))).1
  (fun b ob n1 n2 q => (N' (b, ob) (List.mem_append_right _ (List.mem_cons_of_mem _ (List.mem_filter.mpr ⟨L.2.2 b ob n2 q, decide_eq_true n1⟩)))).1) (fun m' n' => Ns.unique L.1.ns n' ▸ F'.ns) f.1 hc (Nat.le_trans f.2.2 h.2.1) f.2.1
 exact ⟨_, z.1, z.2, h.2.2⟩
end
end Mine
end

section
open PySem PySem.Calls PyProof.Rows PySem.W
set_option maxRecDepth 20000
namespace Mine
variable {N : Hid}
section
variable {X : Cx} {k : Nat}
theorem PostU.post {sc : Scope} {nm : List (PySem.Str × Nat)} {env : Env} {ρ : List V} {σ σ₁ : AHeap} {s s₁ s' : Shared} {Q : Fl → List V → AHeap → Prop} {u : Unit} (S : St X N σ s) (F : FrOk X N sc nm env ρ σ s.heap) (T : Step X σ s σ₁ s₁) (p : PostU X N σ₁ s₁ (fun σ' => Q .next ρ σ') u s') : PostF X N sc nm env σ s Q .next s' :=
 p.rec fun σ₂ S₂ T₂ h => have T' := T.trans T₂ S.gfree S₂.gfree; ⟨.next, ρ, σ₂, S₂, .of T', F.step S S₂ T', .next, h⟩
theorem swap_no (v a b : PySem.Expr) (p : Pos) (line : Nat) (env : Env) : swapsWith v (some (.Subscript a b p)) line env = pure false := PySem.Expr.casesOn (motive_1 := fun v => swapsWith v (some (.Subscript a b p)) line env = pure false) v (fun _ _ _ => rfl) (fun _ _ _ => rfl) (fun _ _ _ _ => rfl) (fun _ _ _ => rfl) (fun _ _ _ _ => rfl) (fun _ _ _ _ => rfl) (fun _ _ _ => rfl) (fun _ _ _ => rfl) (fun _ _ _ _ => rfl) (fun _ _ _ _ => rfl) (fun _ _ _ _ _ => rfl) (fun _ _ _ _ => rfl) (fun _ _ => rfl) (fun _ _ => rfl) (fun _ _ => rfl) (fun _ _ _ _ => rfl) (fun _ _ _ _ => rfl) (fun _ _ _ _ => rfl) (fun _ _ => rfl) (fun _ _ _ => rfl) (fun _ _ _ => rfl) (fun _ _ _ => rfl) (fun _ _ => rfl) (fun _ _ => rfl) (fun _ _ => rfl) (fun _ _ _ => rfl) (fun _ _ _ _ => rfl)
theorem swap_no2 (v a : PySem.Expr) (b : PySem.Str) (p : Pos) (line : Nat) (env : Env) : swapsWith v (some (.Attribute a b p)) line env = pure false := PySem.Expr.casesOn (motive_1 := fun v => swapsWith v (some (.Attribute a b p)) line env = pure false) v (fun _ _ _ => rfl) (fun _ _ _ => rfl) (fun _ _ _ _ => rfl) (fun _ _ _ => rfl) (fun _ _ _ _ => rfl) (fun _ _ _ _ => rfl) (fun _ _ _ => rfl) (fun _ _ _ => rfl) (fun _ _ _ _ => rfl) (fun _ _ _ _ => rfl) (fun _ _ _ _ _ => rfl) (fun _ _ _ _ => rfl) (fun _ _ => rfl) (fun _ _ => rfl) (fun _ _ => rfl) (fun _ _ _ _ => rfl) (fun _ _ _ _ => rfl) (fun _ _ _ _ => rfl) (fun _ _ => rfl) (fun _ _ _ => rfl) (fun _ _ _ => rfl) (fun _ _ _ => rfl) (fun _ _ => rfl) (fun _ _ => rfl) (fun _ _ => rfl) (fun _ _ _ => rfl) (fun _ _ _ _ => rfl)
theorem ST.setidx {o i e : E} (ho : ET X k o) (hi : ET X k i) (he : ET X k e) : ST X k (.setidx o i e) := fun {_ _ _ env x ρ _ _ _ _} hm hq R S F => vAssign_inv x hm fun ts v _ hm => v1_inv ts hm fun tg hm => vSub_inv tg hm fun _ _ _ hm => have m := a2 (a2 hm).2
 wpAny_Assign_Subscript (seqE (he (a2 m.2).2 hq R S F) fun _ _ _ _ S₁ T₁ V₁ h₁ => have F₁ := F.step S S₁ T₁; seqE (ho m.1 h₁ R S₁ F₁) fun _ _ _ _ S₂ T₂ V₂ h₂ => have T := T₁.trans T₂ S.gfree S₂.gfree
  seqE (hi (a2 m.2).1 h₂ R S₂ (F₁.step S₁ S₂ T₂)) fun _ _ _ _ S₃ T₃ V₃ h₃ => wpAny_mono (setitem_call S₃ (V₂.up (T₃.up S₂)) V₃ ((V₁.up (T₂.up S₁)).up (T₃.up S₂)) h₃) (fun _ _ p => p.post S F (T.trans T₃ S.gfree S₃.gfree)) fun _ _ z => z) (swap_no v _ _ _ _ _)
theorem ST.setattr (B : Base X) {o e : E} {n : Nat} (ho : ET X k o) (he : ET X k e) : ST X k (.setattr o n e) := fun {_ _ _ env x ρ _ _ _ _} hm hq R S F => vAssign_inv x hm fun ts v _ hm => v1_inv ts hm fun tg hm => vAttr_inv tg hm fun _ _ _ hm => (eq_of_beq (a2 hm).1).symm ▸ have m := a2 (a2 hm).2
 plainObj_wpAny_Assign_Attribute (seqE (he m.2 hq R S F) fun _ _ _ _ S₁ T₁ V₁ h₁ => seqE (ho m.1 h₁ R S₁ (F.step S S₁ T₁)) fun _ _ _ _ S₂ T₂ V₂ h₂ =>
  wpAny_mono (setattr_call B S₂ V₂ (V₁.up (T₂.up S₁)) h₂) (fun _ _ p => p.post S F (T₁.trans T₂ S.gfree S₂.gfree)) fun _ _ z => z) (swap_no2 v _ _ _ _ _)
theorem ST.aug {i : Nat} {op : Bop} {e : E} (he : ET X k e) : ST X k (.aug i op e) := by
 intro N sc nm env x ρ σ Q A s hm hq R S F
 refine vAug_inv x hm fun tg o v pos hm => vName_inv tg hm fun id p' hm => ?_
 have m := a2 (a2 hm).2
 have n := isVar_inv (a2 hm).1
 have hk : sc.names.lookup id = some .local ∨ (false = false ∧ sc.names.lookup id = some .cell) := n.2.1.imp_right fun h => ⟨rfl, h.resolve_right (bne_iff_ne.mp (a2 m.2).1)⟩
 obtain rfl := eq_of_beq m.1
 rw [arm_exec_AugAssign]
 refine (getP_inv hq).elim fun u y => wpAny_bind (wpAny_standAt (wpAny_bind (load_var F n.1 n.2.1 y.1 y.2.1 (fun val₀ V₀ => wpAny_bind (wpAny_holding (seqE (he (a2 m.2).2 y.2.2 R S F) fun val₁ s₁ v₁ σ₁ S₁ T₁ V₁ h₁ => ints2 h₁ (V₀.up (T₁.up S)) V₁ fun a b t t' e1 e2 h => ?_))) n.2.2.2)))
 rw [h.1,e1,e2]
 have S₂ := S₁.tok (s₁.toks + 1)
 have T₂ := T₁.trans (Step.tok (X := X) (σ := σ₁) (s := s₁) (s₁.toks + 1)) S.gfree S₁.gfree
 exact wpAny_bind (wpAny_standAt (wpAny_bind (wpAny_operateT (wpAny_iadd_int (wpAny_bind (wpAny_standAt (wpAny_bind (wpAny_bindName
  (assign_name (ownP_own sc env) n.1 hk S₂ (F.step S S₂ T₂) (v := .int (a + b)) .int fun s' PP F' => wpAny_pure ⟨.next, _, σ₁, PP.st S₂, (StepX.of T₂).trans PP.stepX, F', .next, h.2⟩)))))))))
end
end Mine
end

section
open PySem PySem.Calls PyProof.Rows PySem.W
set_option maxRecDepth 20000
namespace Mine
variable {N : Hid}
section
variable {X : Cx} {k : Nat}
theorem setAll_set {i : Nat} {v : V} (is : List Nat) : ∀ {l : List V} {ρ : List V}, i ∉ is → setAll (ρ.set i v) is l = (setAll ρ is l).set i v :=
 List.rec (motive := fun is => ∀ {l : List V} {ρ : List V}, i ∉ is → setAll (ρ.set i v) is l = (setAll ρ is l).set i v) (fun {l ρ} _ => List.casesOn (motive := fun l => setAll (ρ.set i v) [] l = (setAll ρ [] l).set i v) l rfl fun _ _ => rfl)
  (fun j is ih {l ρ} h => List.casesOn (motive := fun l => setAll (ρ.set i v) (j :: is) l = (setAll ρ (j :: is) l).set i v) l rfl fun u l => (congrArg (fun ρ => setAll ρ is l) (List.set_comm _ _ fun e => h (List.mem_cons.mpr (.inl e)))).trans (ih fun z => h (.tail _ z))) is
theorem setAll_snoc {i : Nat} {v : V} (is : List Nat) : ∀ {l : List V} {ρ : List V}, l.length = is.length → setAll ρ (is ++ [i]) (l ++ [v]) = (setAll ρ is l).set i v :=
 List.rec (motive := fun is => ∀ {l : List V} {ρ : List V}, l.length = is.length → setAll ρ (is ++ [i]) (l ++ [v]) = (setAll ρ is l).set i v) (fun {l ρ} => List.casesOn (motive := fun l => l.length = ([] : List Nat).length → setAll ρ ([] ++ [i]) (l ++ [v]) = (setAll ρ [] l).set i v) l (fun _ => rfl) fun _ _ h => nomatch h)
  (fun j is ih {l ρ} => List.casesOn (motive := fun l => l.length = (j :: is).length → setAll ρ (j :: is ++ [i]) (l ++ [v]) = (setAll ρ (j :: is) l).set i v) l (fun h => nomatch h) fun u l h => ih (l := l) (ρ := ρ.set j u) (Nat.succ.inj h)) is
theorem setAll_rev (is : List Nat) : ∀ {l : List V} {ρ : List V}, is.Nodup → l.length = is.length → setAll ρ is.reverse l.reverse = setAll ρ is l :=
 List.rec (motive := fun is => ∀ {l : List V} {ρ : List V}, is.Nodup → l.length = is.length → setAll ρ is.reverse l.reverse = setAll ρ is l) (fun {l ρ} _ => List.casesOn (motive := fun l => l.length = ([] : List Nat).length → setAll ρ ([] : List Nat).reverse l.reverse = setAll ρ [] l) l (fun _ => rfl) fun _ _ h => nomatch h)
  (fun i is ih {l ρ} nd => List.casesOn (motive := fun l => l.length = (i :: is).length → setAll ρ (i :: is).reverse l.reverse = setAll ρ (i :: is) l) l (fun h => nomatch h) fun v l h => by
   have nd := List.nodup_cons.mp nd
   have hl : l.length = is.length := Nat.succ.inj h
   rw [List.reverse_cons, List.reverse_cons, setAll_snoc _ (by rw [List.length_reverse,List.length_reverse]; exact hl), ih nd.2 hl]
   exact (setAll_set is nd.1).symm) is
theorem bind_in_order {sc : Scope} {nm : List (PySem.Str × Nat)} {env : Env} {σ : AHeap} {P : Addr → Prop} {A : Around} {loc : Bool} {Q : Unit → Shared → Prop} (O : Own P sc env loc) (ps : List (Nat × PySem.Str)) : ∀ {l : List V} {vals : List Value} {ρ : List V} {s : Shared},
  (∀ p ∈ ps, tgOk sc nm loc p.1 p.2) → l.length = ps.length → St X N σ s → FrOk X N sc nm env ρ σ s.heap → VRels (hid N σ) s.heap l vals →
  (∀ s', Pokes X N σ P s s' → FrOk X N sc nm env (setAll ρ (ps.map (·.1)) l) σ s'.heap → Q () s') → wpAny (model X.prog X.w) A (assignInOrder (ps.map fun p => bindName env p.2) vals) Q NoE s := by
 induction ps with
 | nil =>
  intro l vals ρ s hm hl S F Vs h
  rcases l with _ | ⟨_, _⟩
  ·exact Vs.zero vals (wpAny_pure (h s (.refl s) F))
  ·cases hl
 | cons p ps ih =>
  intro l vals ρ s hm hl S F Vs h
  have ht := hm p (.head _)
  rcases l with _ | ⟨v1, l1⟩
  ·cases hl
  ·exact Vs.uncons (P := fun vals => wpAny (model X.prog X.w) A (assignInOrder ((p :: ps).map fun p : Nat × PySem.Str => bindName env p.2) vals) Q NoE s) vals fun val vs1 v r => (wpAny_bind (wpAny_holding (wpAny_bindName (assign_name O ht.1 ht.2 S F v fun s' P1 F' =>
    ih (fun q hq => hm q (.tail _ hq)) (Nat.succ.inj hl) (P1.st S) F' (P1.vrels r) fun s'' P' F'' => h s'' (P1.trans P') F''))) : wpAny (model X.prog X.w) A (holding vs1 (bindName env p.2 val) >>= fun _ => assignInOrder (List.map (fun p => bindName env p.2) ps) vs1) Q NoE s)
theorem unpack_any {v : V} {val : Value} {n : Nat} {l : List V} {σ : AHeap} {s : Shared} {A : Around} {Q : List Value → Shared → Prop} (hh : A.handled = none) (x : VRel (hid N σ) s.heap v val) (hv : v = .tup l ∨ v = .list l) (hn : l.length = n)
  (h : ∀ vals h', Heap.ExtBut s.heap.objs.size s.heap h' → VRels (hid N σ) s.heap l vals → Q vals { s with heap := h' }) : wpAny (model X.prog X.w) A (unpackItems val n none) Q NoE s :=
 hv.elim (fun e => (e ▸ x : VRel _ _ (.tup l) val).tup_inv.elim fun _ y => y.elim fun vs y => y.1 ▸ (y.2.2.2.2.sz.symm.trans hn) ▸ wpAny_unpackItems_tuple hh y.2.2.1 fun h' he => h _ h' he y.2.2.2.2)
  fun e => (e ▸ x : VRel _ _ (.list l) val).list_inv.elim fun _ y => y.elim fun vs y => y.1 ▸ (y.2.2.2.2.sz.symm.trans hn) ▸ unpackItems_list hh y.2.2.1.isList fun h' he => h _ h' he y.2.2.2.2
theorem filter_names {f : PySem.Expr → Option PySem.Str} {P : PySem.Expr → Prop} (hf : ∀ x b, f x = some b → nameOf x = b ∧ P x) (ts : List PySem.Expr) : (ts.filterMap f).length = ts.length → ts.filterMap f = ts.map nameOf ∧ ∀ x ∈ ts, P x := by
 induction ts with
 | nil => exact fun _ => ⟨rfl, fun x h => nomatch h⟩
 | cons a l ih =>
  intro h
  rw [List.filterMap_cons] at h ⊢
  rcases e : f a with _ | b
  ·rw [e] at h
   exact absurd (Nat.le_trans (Nat.le_of_eq (show (l.filterMap f).length = l.length + 1 from h).symm) (List.length_filterMap_le f l)) (Nat.not_succ_le_self _)
  ·rw [e] at h
   have z := ih (Nat.succ.inj h)
   exact ⟨by rw [z.1,List.map_cons,(hf a b e).1], fun x hx => (List.mem_cons.mp hx).elim (fun q => q ▸ (hf _ _ e).2) (z.2 x)⟩
noncomputable def SwOk (sc : Scope) (env : Env) (tg v : PySem.Expr) : Prop := ∃ o, swappedStores [tg] v env = pure o ∧ ∀ names, o = some names → ∃ ts n p, tg = .Tuple ts n p ∧ names = ts.map nameOf ∧ ∀ x ∈ ts, ∃ id pos, x = .Name id pos ∧ sc.names.lookup id = some .local
theorem sw_none {sc : Scope} {env : Env} {tg v : PySem.Expr} (h : swappedStores [tg] v env = pure none) : SwOk sc env tg v := ⟨none, h, fun _ h => (nos h.symm rfl).elim⟩
theorem swapped_tup {sc : Scope} {env : Env} {ts vs : List PySem.Expr} {n n' : Nat} {p p' : Pos} (hs : env.scope = sc) (ho : (!(vs.all (constantsAlone 8)) || vs.all (foldedForSure 8)) = true) : SwOk sc env (.Tuple ts n p) (.Tuple vs n' p') := by
 unfold SwOk
 have sw_none' : ∀ {t : Sem (Option (List PySem.Str))}, t = pure none → ∃ o, t = pure o ∧ ∀ names, o = some names → ∃ ts' n' p', PySem.Expr.Tuple ts n p = .Tuple ts' n' p' ∧ names = ts'.map nameOf ∧ ∀ x ∈ ts', ∃ id pos, x = .Name id pos ∧ sc.names.lookup id = some .local := fun h => ⟨none, h, fun _ h => (nos h.symm rfl).elim⟩
 unfold swappedStores
 dsimp only
 split
 ·exact sw_none' rfl
 ·split
  ·exact sw_none' rfl
  ·generalize hnames : List.filterMap _ ts = names
   split
   ·exact sw_none' rfl
   ·rename_i hnl
    split
    ·exact sw_none' rfl
    ·rename_i hf
     split
     ·rename_i hc
      exfalso
      replace ho : (!(vs.all (constantsAlone 8)) || vs.all (foldedForSure 8)) = true := ho
      rw [hc] at ho
      simp only [Bool.not_true,Bool.false_or] at ho
      exact hf ho
     ·refine ⟨some names, rfl, fun nn e => ?_⟩
      cases e
      have hlen : names.length = ts.length := by
       by_cases q : names.length = ts.length
       ·exact q
       ·exfalso; apply hnl; simp [q]
      rw [← hnames] at hlen ⊢
      obtain ⟨h1, h2⟩ := filter_names (ts := ts) (P := fun x => ∃ id pos, x = .Name id pos ∧ sc.names.lookup id = some .local) (fun x b hb => by
       cases x <;> first | (cases hb; done) | skip
       rename_i id pos
       dsimp only at hb
       split at hb
       ·rename_i hc
        cases hb
        simp only [Bool.and_eq_true,beq_iff_eq] at hc
        refine ⟨rfl, _, _, rfl, ?_⟩
        have := hc.1; unfold Env.kindOf at this; rw [hs] at this; exact this
       ·cases hb) hlen
      exact ⟨ts, n, p, rfl, h1, h2⟩
theorem swapped_ok {sc : Scope} {nm : List (PySem.Str × Nat)} {env : Env} {t : Tg} {tg v : PySem.Expr} (hs : env.scope = sc) (hm : matTg sc nm false t tg = true) (ho : swapOk v = true) : SwOk sc env tg v :=
 Tg.casesOn (motive := fun t => matTg sc nm false t tg = true → SwOk sc env tg v) t (fun _ hm => vName_inv tg hm fun _ _ _ => sw_none rfl) (fun _ hm => vTup_inv tg hm fun ts n p _ =>
  PySem.Expr.casesOn (motive_1 := fun v => swapOk v = true → SwOk sc env (.Tuple ts n p) v) v (fun _ _ _ _ => sw_none rfl) (fun _ _ _ _ => sw_none rfl) (fun _ _ _ _ _ => sw_none rfl) (fun _ _ _ _ => sw_none rfl) (fun _ _ _ _ _ => sw_none rfl) (fun _ _ _ _ _ => sw_none rfl) (fun _ _ _ _ => sw_none rfl) (fun _ _ _ _ => sw_none rfl) (fun _ _ _ _ _ => sw_none rfl) (fun _ _ _ _ _ => sw_none rfl) (fun _ _ _ _ _ _ => sw_none rfl) (fun _ _ _ _ _ => sw_none rfl) (fun _ _ _ => sw_none rfl) (fun _ _ _ => sw_none rfl) (fun _ _ _ => sw_none rfl) (fun _ _ _ _ _ => sw_none rfl) (fun _ _ _ _ _ => sw_none rfl) (fun _ _ _ _ _ => sw_none rfl) (fun _ _ _ => sw_none rfl) (fun _ _ _ _ => sw_none rfl) (fun _ _ _ _ => sw_none rfl) (fun _ _ _ _ => sw_none rfl) (fun _ _ _ => sw_none rfl) (fun _ _ _ => sw_none rfl) (fun _ _ _ => sw_none rfl) (fun _ _ _ ho => swapped_tup hs ho) (fun _ _ _ _ _ => sw_none rfl) ho) hm
end
end Mine
end

section
open PySem PySem.Calls PyProof.Rows PySem.W
set_option maxRecDepth 20000
namespace Mine
variable {N : Hid}
section
variable {X : Cx} {k : Nat}
theorem FrOk.pokeNe {sc : Scope} {nm : List (PySem.Str × Nat)} {env : Env} {ρ : List V} {σ : AHeap} {s : Shared} {p : Addr} {h' : Heap} (F : FrOk X N sc nm env ρ σ s.heap) (u : Poke X N σ s p h') (h1 : env.locals ≠ p) (h2 : ∀ x, sc.names.lookup x = some .cell ∨ sc.names.lookup x = some .free → ∀ c, env.cells.lookup x = some c → c ≠ p) : FrOk X N sc nm env ρ σ h' :=
 F.map (fun m n => ns_at m n fun o e => u.at_ _ o h1 e) (fun x c _ k a b d => ⟨b.elim fun o y => ⟨o, u.at_ c o (h2 x k c a) y.1, y.2⟩, d⟩) F.own.1 (fun _ _ e _ => e) fun _ _ x => x.poke u
theorem Pokes.keepP {P : Addr → Prop} {σ : AHeap} {s s' : Shared} (x : Pokes X N σ P s s') {b : Addr} {o : Obj} (e : s.heap.get? b = some o) (hb : ¬ P b) : s'.heap.get? b = some o :=
 Pokes.rec (motive := fun s s' _ => s.heap.get? b = some o → s'.heap.get? b = some o) (fun _ e => e) (fun _ a b' _ _ ih e => ih (a.at_ _ _ (fun z => b'.elim (fun h => hb (z ▸ h.1)) fun h => nos h (z ▸ e)) e)) x e
theorem each_one {sc : Scope} {nm : List (PySem.Str × Nat)} {t : Tg} {tg : PySem.Expr} (h : matTg sc nm false t tg = true) (env : Env) : (assignEach [tg] env).map (·.2) = [assign tg env] :=
 Tg.casesOn (motive := fun t => matTg sc nm false t tg = true → (assignEach [tg] env).map (·.2) = [assign tg env]) t (fun _ h => vName_inv tg h fun _ _ _ => rfl) (fun _ h => vTup_inv tg h fun _ _ _ _ => rfl) h
noncomputable def CompB (v tg : PySem.Expr) (line : Nat) (env : Env) : Prop := ∃ b, swapsWith v (some tg) line env = pure b ∧ (b = true → ∃ l gens sc' pos, v = .ListComp l gens sc' pos)
theorem comp_no {v tg : PySem.Expr} {line : Nat} {env : Env} (h : swapsWith v (some tg) line env = pure false) : CompB v tg line env := ⟨false, h, fun h => (Bool.false_ne_true h).elim⟩
theorem swaps_ok {v : PySem.Expr} (h : swapOk v = true) {sc : Scope} {nm : List (PySem.Str × Nat)} {t : Tg} {tg : PySem.Expr} (hm : matTg sc nm false t tg = true) (line : Nat) (env : Env) : CompB v tg line env :=
 PySem.Expr.casesOn (motive_1 := fun v => swapOk v = true → CompB v tg line env) v (fun _ _ _ _ => comp_no rfl) (fun _ _ _ _ => comp_no rfl) (fun _ _ _ _ _ => comp_no rfl) (fun _ _ _ _ => comp_no rfl) (fun _ _ _ _ _ => comp_no rfl) (fun _ _ _ _ _ => comp_no rfl) (fun _ _ _ _ => comp_no rfl) (fun _ _ _ _ => comp_no rfl) (fun a b c d _ => Tg.casesOn (motive := fun t => matTg sc nm false t tg = true → CompB (.ListComp a b c d) tg line env) t (fun _ h => vName_inv tg h fun _ _ _ => ⟨_, rfl, fun _ => ⟨_, _, _, _, rfl⟩⟩) (fun _ h => vTup_inv tg h fun _ _ _ _ => comp_no rfl) hm) (fun _ _ _ _ h => (Bool.false_ne_true h).elim) (fun _ _ _ _ _ h => (Bool.false_ne_true h).elim) (fun _ _ _ _ _ => comp_no rfl) (fun _ _ _ => comp_no rfl) (fun _ _ _ => comp_no rfl) (fun _ _ _ => comp_no rfl) (fun _ _ _ _ _ => comp_no rfl) (fun _ _ _ _ _ => comp_no rfl) (fun _ _ _ _ _ => comp_no rfl) (fun _ _ _ => comp_no rfl) (fun _ _ _ _ => comp_no rfl) (fun _ _ _ _ => comp_no rfl) (fun _ _ _ _ => comp_no rfl) (fun _ _ _ => comp_no rfl) (fun _ _ _ => comp_no rfl) (fun _ _ _ => comp_no rfl) (fun _ _ _ _ => comp_no rfl) (fun _ _ _ _ _ => comp_no rfl) h
theorem pairs_of {sc : Scope} {nm : List (PySem.Str × Nat)} (is : List Nat) : ∀ {es : List PySem.Expr}, matTgs sc nm false is es = true → (∀ p ∈ is.zip (es.map nameOf), tgOk sc nm false p.1 p.2) ∧ is.length = es.length :=
 List.rec (motive := fun is => ∀ {es : List PySem.Expr}, matTgs sc nm false is es = true → (∀ p ∈ is.zip (es.map nameOf), tgOk sc nm false p.1 p.2) ∧ is.length = es.length) (fun {es} hm => v0_inv es hm ⟨fun p hp => (nomatch hp), rfl⟩)
  (fun i is ih {es} hm => vc_inv es hm fun x es hm => vName_inv x (a2 hm).1 fun id pos ht => ⟨fun p hp => (List.mem_cons.mp hp).elim (fun e => e ▸ tgId_inv ht) ((ih (a2 hm).2).1 p), congrArg (· + 1) (ih (a2 hm).2).2⟩) is
theorem zip_fst {α β : Type} {l : List α} {l' : List β} (h : l.length = l'.length) : (l.zip l').map (·.1) = l := List.map_fst_zip (Nat.le_of_eq h)
theorem zip_snd {α β : Type} {l : List α} {l' : List β} (h : l.length = l'.length) : (l.zip l').map (·.2) = l' := List.map_snd_zip (Nat.le_of_eq h.symm)
theorem swapped_run {sc : Scope} {nm : List (PySem.Str × Nat)} {env : Env} {ρ : List V} {σ₁ : AHeap} {Q : Fl → List V → AHeap → Prop} {A : Around} {σ : AHeap} {s s₁ : Shared} {is : List Nat} {ts : List PySem.Expr} {v' : V} {val : Value} (hh : A.handled = none) (T₁ : Step X σ s σ₁ s₁) (S₁ : St X N σ₁ s₁) (F₁ : FrOk X N sc nm env ρ σ₁ s₁.heap)
  (m1 : matTgs sc nm false is ts = true) (m2 : is.Nodup) (V₁ : VRel (hid N σ₁) s₁.heap v' val) (h₁ : asgP (.tup is) v' ρ fun ρ' => Q .next ρ' σ₁) :
  wpAny (model X.prog X.w) A (rule "assign.swapped-stores" >>= fun _ => unpackItems val (ts.map nameOf).length none >>= fun items => assignInOrder ((ts.map nameOf).reverse.map fun n => bindName env n) items.reverse >>= fun _ => pure Flow.next) (PostF X N sc nm env σ s Q) NoE s₁ := by
 have hp := pairs_of is m1
 have hpl : is.length = (ts.map nameOf).length := hp.2.trans (List.length_map nameOf).symm
 obtain ⟨l, hv, hl, hq2⟩ : ∃ l, (v' = .tup l ∨ v' = .list l) ∧ l.length = is.length ∧ Q .next (setAll ρ is l) σ₁ := by
  rcases v' with _ | _ | _ | _ | _ | _ | _ | _ | _ <;> first | exact h₁.elim | exact ⟨_, .inl rfl, h₁⟩ | exact ⟨_, .inr rfl, h₁⟩
 refine wpAny_bind (wpAny_rule (wpAny_bind (unpack_any hh V₁ hv (hl.trans hpl) fun vals h' he Vs => ?_)))
 have PP := ext_poke (P := ownP sc env) S₁ he
 have e3 : ((ts.map nameOf).reverse.map fun n => bindName env n) = (is.zip (ts.map nameOf)).reverse.map fun p => bindName env p.2 := by
  rw [show (ts.map nameOf).reverse = ((is.zip (ts.map nameOf)).reverse).map (·.2) by rw [List.map_reverse,zip_snd hpl], List.map_map]; rfl
 rw [e3]
 refine wpAny_bind (bind_in_order (l := l.reverse) (s := { s₁ with heap := h' }) (ownP_own sc env) _ (fun p hp' => hp.1 p (List.mem_reverse.mp hp')) ?_ (PP.st S₁) (ext_fr S₁ he F₁) (PP.vrels Vs).reverse fun s₃ PP' F₃ => wpAny_pure ⟨.next, _, σ₁, PP'.st (PP.st S₁), ((StepX.of T₁).trans PP.stepX).trans PP'.stepX, F₃, .next, ?_⟩)
 ·rw [List.length_reverse,List.length_reverse,List.length_zip,← hpl,Nat.min_self]; exact hl
 ·rw [List.map_reverse,zip_fst hpl,setAll_rev is m2 hl]; exact hq2
theorem fr_not {sc : Scope} {nm : List (PySem.Str × Nat)} {env : Env} {ρ : List V} {σ : AHeap} {s : Shared} {C : Addr} (F : FrOk X N sc nm env ρ σ s.heap) (hC : s.heap.get? C = none) : env.locals ≠ C ∧ ∀ x, sc.names.lookup x = some .cell ∨ sc.names.lookup x = some .free → ∀ c, env.cells.lookup x = some c → c ≠ C :=
 ⟨fun z => F.ns.rec fun _ n _ => (ns_get n).elim fun _ e => nos hC (z ▸ e), fun x k c h z => (F.cell x k).rec fun _ _ a b _ _ _ => b.elim fun _ y => nos hC (z ▸ inj_some a h ▸ y.1)⟩
theorem ST.asg {t : Tg} {e : E} (he : ET X k e) (hcomp : ∀ new elt gs, e = .comp new elt gs → ET X k elt ∧ GsT X k gs) : ST X k (.asg t e) := by
 intro N sc nm env x ρ σ Q A s hm hq R S F
 refine vAssign_inv x hm fun tgs v pos hm => v1_inv tgs hm fun tg hm => ?_
 have m1 := (a2 hm).1
 have m := a2 (a2 hm).2
 have m2 := a2 m.2
 have m3 := a2 m2.2
 rw [arm_exec_Assign,each_one m1 env]
 refine (swaps_ok m2.1 m1 pos.line env).elim fun b hb => wpAny_bind (wpAny_standAt (wpAny_bind (wpAny_of_eq (show swapsWithSole [tg] v pos.line env = pure b from hb.1) ?_)))
 have T0 : ∀ {v' : V} {val : Value} {s₁ : Shared} {σ₁ : AHeap}, St X N σ₁ s₁ → Step X σ s σ₁ s₁ → VRel (hid N σ₁) s₁.heap v' val → asgP t v' ρ (fun ρ' => Q .next ρ' σ₁) → ∀ G : Unit → Shared → Prop,
   (∀ s₂ ρ', Pokes X N σ₁ (ownP sc env) s₁ s₂ → FrOk X N sc nm env ρ' σ₁ s₂.heap → Q .next ρ' σ₁ → G () s₂) → wpAny (model X.prog X.w) A (assign tg env val) G NoE s₁ := fun S₁ T₁ V₁ h₁ G hG =>
  assign_tg (ownP_own sc env) R.1 m1 S₁ (F.step S S₁ T₁) V₁ h₁ hG
 rcases b with _ | _
 ·rw [if_neg Bool.false_ne_true]
  refine wpAny_bind (seqE (he m3.2 hq R S F) fun val s₁ v' σ₁ S₁ T₁ V₁ h₁ => (swapped_ok F.scope m1 m2.1).elim fun o ho => wpAny_bind (wpAny_of_eq ho.1 ?_))
  rcases o with _ | names
  ·exact (wpAny_bind (T0 S₁ T₁ V₁ h₁ _ fun s₂ ρ' PP F₂ h₂ => wpAny_pure ⟨.next, ρ', σ₁, PP.st S₁, (StepX.of T₁).trans PP.stepX, F₂, .next, h₂⟩) : wpAny (model X.prog X.w) A (assignAll val [assign tg env] >>= fun _ => pure Flow.next) (PostF X N sc nm env σ s Q) NoE s₁)
  ·obtain ⟨ts, n, p, rfl, rfl, _⟩ := ho.2 names rfl
   rcases t with _ | is
   ·exact (Bool.false_ne_true m1).elim
   ·exact swapped_run R.1 T₁ S₁ (F.step S S₁ T₁) m1 (of_decide_eq_true m.1) V₁ h₁
 ·obtain ⟨l, gens, sc', pos', rfl⟩ := hb.2 rfl
  rw [if_pos rfl]
  have hc : isCompE e = true := m3.1
  have m5 := m3.2
  refine E.comp.elim (motive_1 := fun e => (∀ new elt gs, e = .comp new elt gs → ET X k elt ∧ GsT X k gs) → matE sc nm e (.ListComp l gens sc' pos') = true → (wpE X k e ρ σ fun v σ₁ => asgP t v ρ fun ρ' => Q .next ρ' σ₁) → _) e (eq_of_beq hc) (fun new elt gs hcomp m5 hq => ?_) hcomp m5 hq
  have h := hcomp _ _ _ rfl
  have e5 : ∀ use, evalThenUse (.ListComp l gens sc' pos') env use = (comprehension (.ListComp l gens sc' pos') sc' env (firstIterPos gens pos') (newList []) (firstAsync gens) (firstIter gens env) (some use) >>= fun _ => pure ()) := fun _ => rfl
  have m6 := a2 (a2 (show (compOk sc sc' nm (gsNm gs gens) gs.slots && (!gens.isEmpty && (matG sc nm (relabelS sc' sc) (gsNm gs gens ++ nm) gs gens && matE (relabelS sc' sc) (gsNm gs gens ++ nm) elt l))) = true from m5)).2
  rw [e5,first_sync (gens_sync _ (a2 m6.2).1) m6.1]
  have run := comp_run (new := new) (pos := pos') (pos' := firstIterPos gens pos') (use := some fun v => assignAll v [assign tg env]) h.1 h.2 m5 hq R S F (QV := fun _ s' => PostF X N sc nm env σ s Q .next s') fun D C s' l' σ' o e => (by
   refine (e.value' (Heap.SameBut.refl C s'.heap)).rec fun v' σ₂ S₁ T₁ V₁ h₁ hC => e.ns.elim fun m nC => ?_
   refine T0 (s₁ := s') S₁ T₁ V₁ h₁ _ fun s₂ ρ' PP F₂ h₂ => ?_
   have fn := fr_not F e.cfree.2.2.1
   have keep : ∀ o, s'.heap.get? C = some o → s₂.heap.get? C = some o := fun o q => PP.keepP q fun z => z.elim (fun z => fn.1 z.symm) fun z => z.elim fun x z => fn.2 x (.inl z.1) C z.2 rfl
   have nC2 := ns_at m nC keep
   refine ⟨m, nC2, fun h' hs => ?_⟩
   have S₂ := PP.st S₁
   have PK : Poke X N σ₂ s₂ C h' := .mk' S₂ hC e.cfree.2.2.2.1 e.cfree.2.2.2.2 (.inl fun o' xs n q => slot_not_seq (ns_slot nC2 o' q) xs n) (fun b o' ne q => (hs.2 b ne).trans q) fun z => z.elim fun _ q => (nos e.cfree.2.1 q).elim
   exact ⟨.next, ρ', σ₂, S₂.poke (tk := s₂.toks) PK, ((StepX.of T₁).trans PP.stepX).poke (tk := s₂.toks) PK (.inr e.cfree.2.2.1), F₂.pokeNe PK fn.1 fn.2, .next, h₂⟩)
  exact wpAny_bind (wpAny_bind (wpAny_mono run (fun _ s' h => wpAny_pure (wpAny_pure h)) fun _ _ z => z))
end
end Mine
end

section
open PySem PySem.Calls PyProof.Rows PySem.W
set_option maxRecDepth 20000
namespace Mine
variable {N : Hid}
section
variable {kindOf : PySem.Str → Option NameKind} {x : PySem.Str} {w : Value}
theorem bindL_not (binds : List (PySem.Str × Value)) : ∀ {m : PySem.Str → Option Value}, x ∉ binds.map (·.1) → bindL kindOf binds m x = m x := by
 induction binds with
 | nil => exact fun _ => rfl
 | cons a r ih =>
  intro m h
  unfold bindL
  rw [ih fun z => h (List.mem_cons_of_mem _ z)]
  split
  ·exact if_neg fun e => h (List.mem_cons.mpr (.inl e))
  ·rfl
theorem bindL_get (hx : kindOf x = some .local) (binds : List (PySem.Str × Value)) : ∀ {m : PySem.Str → Option Value}, (binds.map (·.1)).Nodup → (x, w) ∈ binds → bindL kindOf binds m x = some w := by
 induction binds with
 | nil => exact fun _ h => nomatch h
 | cons a r ih =>
  intro m nd h
  have nd := List.nodup_cons.mp nd
  refine (List.mem_cons.mp h).elim (fun e => ?_) (ih nd.2)
  subst e
  unfold bindL
  rw [bindL_not r nd.1,if_pos hx]
  exact if_pos rfl
theorem bindC_not (binds : List (PySem.Str × Value)) : ∀ {m : PySem.Str → Option Value}, x ∉ binds.map (·.1) → bindC kindOf binds m x = m x := by
 induction binds with
 | nil => exact fun _ => rfl
 | cons a r ih =>
  intro m h
  unfold bindC
  rw [ih fun z => h (List.mem_cons_of_mem _ z)]
  split
  ·rfl
  ·exact if_neg fun e => h (List.mem_cons.mpr (.inl e))
theorem bindC_get (hx : kindOf x ≠ some .local) (binds : List (PySem.Str × Value)) : ∀ {m : PySem.Str → Option Value}, (binds.map (·.1)).Nodup → (x, w) ∈ binds → bindC kindOf binds m x = some w := by
 induction binds with
 | nil => exact fun _ h => nomatch h
 | cons a r ih =>
  intro m nd h
  have nd := List.nodup_cons.mp nd
  refine (List.mem_cons.mp h).elim (fun e => ?_) (ih nd.2)
  subst e
  unfold bindC
  rw [bindC_not r nd.1,if_neg hx]
  exact if_pos rfl
end
theorem call_cells {prog : Program} {w : World} {A : Around} {s : Shared} {R : Result → Shared → Prop} {a : Addr} {o : Obj} {fd : FuncData} {body : List Stmt} {vals : List Value} {binds : List (PySem.Str × Value)}
  (hroom : A.depth < recursionLimit) (ho : s.heap.get? a = some o) (hdata : o.data = .func fd) (hlim : s.heap.NoLimit) (hcd : s.heap.CodeRec fd.code fd.qualname)
  (hbody : fd.body = .stmts body) (hbind : Looks (model prog w) s.heap (bindArgs fd ⟨vals, []⟩) binds) (hclo : fd.closure = [])
  (hkind : ∀ x ∈ binds, fd.scope.names.lookup x.1 = some .local ∨ (fd.scope.names.lookup x.1 = some .cell ∧ ((cellsFrom (s.heap.objs.size + 1) fd.scope.names []).lookup x.1).isSome = true))
  (h : ∀ s₁, InCallC s (callEnvC fd s.heap.objs.size a).locals (bindL (callEnvC fd s.heap.objs.size a).kindOf binds fun _ => none) (callEnvC fd s.heap.objs.size a).cells
    (bindC (callEnvC fd s.heap.objs.size a).kindOf binds fun _ => none) s₁ →
   wpAny (model prog w) (A.deeper (callEnvC fd s.heap.objs.size a)) (execs body (callEnvC fd s.heap.objs.size a)) (fun f s' => R (.ok (.ret (match f with | .ret v => v | _ => .none))) s') NoE s₁)
  (hco : fd.scope.isCoroutine = false) (hgen : fd.scope.isGenerator = false) (hk : fd.scope.kind = .function) :
  codeAny (model prog w) A (.call (.ref a) ⟨vals, []⟩) R s := by
 refine codeAny_call_function hroom ho hdata hco hgen hbody hcd ?_
 refine hbind.here ?_
 rw [hclo]
 refine wpAny_newFunctionEnv_cells hk hkind fun env he s' x => ?_
 subst he
 exact ⟨hlim.keeps x.toInCall.keep, codeAny_func (wpAny_mono (h s' x) (fun _ _ z => z) fun _ _ z => z.elim)⟩
section
variable {X : Cx} {k : Nat}
inductive FnObj (X : Cx) (f : Fn) (a : Addr) (ps : List PySem.Str) : Prop
 | mk (oc : Value) (od : Option Addr) (osl : Array (Option Value)) (fd : FuncData) (body : List Stmt) (at_ : X.K.lookup a = some ⟨oc, od, .func fd, osl⟩) (hb : fd.body = .stmts body) (mat : matSs fd.scope f.names f.body body = true) (clo : fd.closure = []) (glob : fd.globals = mainGlobals) (blt : fd.builtins = builtinsNs)
  (kind : fd.scope.kind = .function) (co : fd.scope.isCoroutine = false) (gen : fd.scope.isGenerator = false) (code : codeIn X.K fd.code fd.qualname = true)
  (bind : ∀ vals : List Value, vals.length = ps.length → peek X.K ⟨X.prog, X.w.params⟩ (bindArgs fd ⟨vals, []⟩) = some (ps.zip vals))
  (nofree : ∀ y ∈ fd.scope.names, y.2 ≠ .free)
  (par : ∀ p ∈ ps, fd.scope.names.lookup p = some .local ∨ fd.scope.names.lookup p = some .cell) : FnObj X f a ps
structure FnAt (X : Cx) (f : Fn) (a : Addr) (ps : List PySem.Str) : Prop where
 obj : FnObj X f a ps
 slots : ((f.names).map (·.2)).Nodup
 params : f.names.take ps.length = ps.zip (List.range ps.length) ∧ ps.Nodup
 np : f.np = ps.length ∧ f.np ≤ f.ns
noncomputable def retQ (Q : V → AHeap → Prop) : Fl → List V → AHeap → Prop := fun fl _ σ => match fl with
 | .next => Q .none σ
 | .ret v => Q v σ
 | .brk => False
noncomputable def initR (f : Fn) (args : List V) : List V := args ++ List.replicate (f.ns - f.np) .undef
theorem cellsFrom_some {x : PySem.Str} (names : List (PySem.Str × NameKind)) : ∀ {n : Nat} {acc : List (PySem.Str × Addr)}, ((x, NameKind.cell) ∈ names ∨ ∃ c, acc.lookup x = some c) → ∃ c, (cellsFrom n names acc).lookup x = some c := by
 induction names with
 | nil => exact fun h => h.elim (fun h => nomatch h) id
 | cons a r ih =>
  intro n acc h
  unfold cellsFrom
  split
  ·refine ih (h.elim (fun h => (List.mem_cons.mp h).elim (fun e => .inr ⟨n, ?_⟩) .inl) fun h => .inr ?_)
   ·rw [← e,List.lookup_cons,beq_self_eq_true]
   ·rw [List.lookup_cons]
    split
    ·exact ⟨_, rfl⟩
    ·exact h
  ·rename_i hq
   exact ih (h.imp_left fun h => (List.mem_cons.mp h).elim (fun e => (hq (beq_iff_eq.mpr (congrArg Prod.snd e).symm)).elim) id)
theorem VRels.mem_zip {τ : AHeap} {h : Heap} {ps : List PySem.Str} {l : List V} {vals : List Value} (r : VRels τ h l vals) {i : Nat} {x : PySem.Str} {v : V} (hx : ps[i]? = some x) (hv : l[i]? = some v) : ∃ val, (x, val) ∈ ps.zip vals ∧ VRel τ h v val :=
 (r.get hv).elim fun val y => ⟨val, List.mem_of_getElem? (List.getElem?_zip_eq_some.mpr ⟨hx, y.1⟩), y.2⟩
noncomputable def WCc (X : Cx) (k : Nat) (f : Value) (args : List V) (σ : AHeap) (Q : V → AHeap → Prop) : Prop :=
 ∀ N A s vals, Room k A → St X N σ s → VRels (hid N σ) s.heap args vals → codeAny (model X.prog X.w) A (.call f ⟨vals, []⟩) (fun r s' => match r with | .ok (.ret v) => PostE X N σ s Q v s' | .ok _ => False | .error e => NoE e s') s
theorem WCc.wc {f : Value} {args : List V} {σ : AHeap} {Q : V → AHeap → Prop} (h : WCc X k f args σ Q) : WC X k f args σ Q := fun N A s vals R S Vs => wpAny_call (h N A s vals R S Vs)
theorem Room.le {k : Nat} {A B : Around} (R : Room (k + 1) A) (h : B.handled = A.handled) (hd : B.depth ≤ A.depth + 4) (hu : B.units ≤ A.units + 20) : Room k B :=
 ⟨h.trans R.1, Nat.le_trans (by have := Nat.mul_succ 4 k; lia) R.2.1, Nat.le_trans (by have := Nat.mul_succ 20 k; lia) R.2.2⟩
theorem slot_arg {ps : List PySem.Str} {f : Fn} {args : List V} {vals : List Value} {τ : AHeap} {h : Heap} (slots : ((f.names).map (·.2)).Nodup) (par : f.names.take ps.length = ps.zip (List.range ps.length)) (hlen : args.length = ps.length) (Vs : VRels τ h args vals) (x i) (hx : f.names.lookup x = some i) (v : V) (hv : (initR f args)[i]? = some v) (hne : v ≠ .undef) :
  ∃ val, (x, val) ∈ ps.zip vals ∧ VRel τ h v val := by
 unfold initR at hv
 have hi : i < args.length := Decidable.byContradiction fun q => by
  rw [List.getElem?_append_right (Nat.le_of_not_lt q)] at hv
  exact hne (List.mem_replicate.mp (List.mem_of_getElem? hv)).2
 rw [List.getElem?_append_left hi] at hv
 have hi' := hlen ▸ hi
 have e1 : (f.names.take ps.length)[i]? = some (ps[i], i) := by
  rw [par,List.getElem?_zip_eq_some]
  exact ⟨List.getElem?_eq_getElem hi', List.getElem?_range hi'⟩
 have hm : x = ps[i] := snd_inj slots (lookup_mem hx) (List.mem_of_mem_take (List.mem_of_getElem? e1))
 exact Vs.mem_zip (hm ▸ List.getElem?_eq_getElem hi') hv
theorem fn_code (B : Base X) {f : Fn} {a : Addr} {ps : List PySem.Str} (FA : FnAt X f a ps) (hbody : SsT X k f.body) {args : List V} {σ : AHeap} {Q : V → AHeap → Prop} (hlen : args.length = ps.length) (h : wpSs X k f.body (initR f args) σ (retQ Q)) : WCc X (k + 1) (.ref a) args σ Q := by
 intro N A s vals R S Vs
 refine FA.obj.rec fun oc od osl fd body o1 o2 o3 o4 o5 o6 o7 o8 o9 o10 o11 o12 o13 => ?_
 have KH := B.inK.keeps S.keep
 have hvl : vals.length = ps.length := Vs.length.symm.trans hlen
 have zmap : (ps.zip vals).map (·.1) = ps := List.map_fst_zip (Nat.le_of_eq hvl.symm)
 have cellx : ∀ {y}, fd.scope.names.lookup y = some .cell → ∃ c, (cellsFrom (s.heap.objs.size + 1) fd.scope.names []).lookup y = some c := fun h => cellsFrom_some _ (.inl (lookup_mem h))
 refine (call_cells (Nat.lt_of_lt_of_le (Nat.lt_of_lt_of_le (Nat.lt_add_of_pos_right (by decide)) (Nat.add_le_add_right (Nat.le_add_right _ _) 10)) R.2.1) (KH _ _ o1) rfl (B.nolimit.keeps S.keep) (codeRec_of KH o10) o2 (.of_peek KH (o11 vals hvl)) o4
  (fun x hx => (o13 _ (List.of_mem_zip hx).1).imp_right fun h1 => (cellx h1).elim fun c hc => ⟨h1, hc ▸ rfl⟩) (fun s₁ x => ?_) o8 o9 o7)
 obtain ⟨h', tk, rfl⟩ := x.toInCall.same
 have g : Grow X s.heap h' := .of_all x.toInCall.keep
 have T₁ := Step.grow (X := X) (σ := σ) (s := s) (tk := tk) g
 have hL : s.heap.objs.size ≤ (callEnvC fd s.heap.objs.size a).locals := x.toInCall.fresh
 have hLn : s.heap.get? (callEnvC fd s.heap.objs.size a).locals = none := get_ge_none hL
 have above : ∀ n c, (callEnvC fd s.heap.objs.size a).cells.lookup n = some c → s.heap.get? c = none := fun n c hc => get_ge_none (Nat.le_of_lt (Nat.lt_of_le_of_lt hL (x.above n c (mem_of_lookup hc))))
 have sl := slot_arg FA.slots FA.params.1 hlen (Vs.up (g.up S))
 have nd : ((ps.zip vals).map (·.1)).Nodup := zmap.symm ▸ FA.params.2
 have F₁ : FrOk X N fd.scope f.names (callEnvC fd s.heap.objs.size a) (initR f args) σ h' := {
  scope := rfl
  kind := o7
  glob := o5
  blt := o6
  ns := ⟨_, x.toInCall.ns, fun y i hy hl v hv hne => (sl y i hy v hv hne).elim fun val z => ⟨val, bindL_get hl _ nd z.1, z.2⟩⟩
  cell := fun y hy => have hc' : fd.scope.names.lookup y = some .cell := hy.elim id fun h1 => (o12 _ (lookup_mem h1) rfl).elim
   (cellx hc').elim fun c hc2 => have hn := above y c hc2
   ⟨c, _, hc2, x.cell y c hc2, S.hfree_of_none hn, S.H0_of_none hn, fun i hi v hv hne => (sl y i hi v hv hne).elim fun val z => ⟨val, bindC_get (fun e => nomatch inj_some hc' (show fd.scope.names.lookup y = some .local from e)) _ nd z.1, z.2⟩⟩
  own := ⟨S.hfree_of_none hLn, S.H0_of_none hLn⟩
  inj := fun y z i hy hz => snd_inj FA.slots (lookup_mem hy) (lookup_mem hz)
  cinj := fun y z c hy hz => name_of_addr x.apart (mem_of_lookup hy) (mem_of_lookup hz) }
 refine wpAny_mono (hbody o3 h (R.le rfl (Nat.add_le_add_left (by decide) _) (Nat.add_le_add_left (by decide) _)) (S.grow (tk := tk) g) F₁) (fun fl s₂ p => p.rec fun f' ρ' σ' S₂ T₂ F₂ fr hq => ?_) fun _ _ z => z
 have T := StepX.after T₁ T₂ fun p hp => hp.elim (fun e => e ▸ hLn) fun z => z.elim fun y z => above y p z.2
 induction fr with
 | next => exact ⟨.none, σ', S₂, T, .none, hq⟩
 | brk => exact hq.elim
 | ret v => exact ⟨_, σ', S₂, T, v, hq⟩
theorem tc_weight (C : Addr) (vals : List Value) : (Code.builtin "type.__call__" ⟨.ref C :: vals, []⟩).weight = 1 := by kernel_rfl
theorem tc_units (a : Args) : (Code.builtin "type.__call__" a).cUnits = 1 := by kernel_rfl
theorem cls_entry (B : Base X) {C fI : Addr} (hC : C ∈ clsL) (hI : meth C 27 = some fI) {args : List V} {σ : AHeap} {Q : V → AHeap → Prop}
  (h : ∀ x dx, σ x = none → σ dx = none → x ≠ dx → WCc X k (.ref fI) (.ref x :: args) (upd (upd σ dx (.sub x)) x (.inst C [])) (fun v σ' => v = .none ∧ Q (.ref x) σ')) : WC X (k + 1) (.ref C) args σ Q := by
 intro N A s vals R S Vs
 have c := B.cls C hC
 have b := B.meths C 27 fI hI
 have KH := B.inK.keeps S.keep
 have hn : s.heap.get? s.heap.objs.size = none := get_ge_none (Nat.le_refl _)
 have Z := S.add (tk := s.toks) (h' := s.heap.push emptyDict) (a := s.heap.objs.size) (o := .sub (s.heap.objs.size + 1)) (ob := emptyDict) (Grow.push _ _) hn (Heap.get?_push_size _ rfl) trivial
 have hsz : (s.heap.push emptyDict).objs.size = s.heap.objs.size + 1 := Heap.size_push _ _
 have hn₁ : (s.heap.push emptyDict).get? (s.heap.objs.size + 1) = none := get_ge_none (Nat.le_of_eq hsz)
 have hdx : ((s.heap.push emptyDict).push (instObj C s.heap.objs.size)).get? s.heap.objs.size = some (dictOf [] 0) := Heap.get?_push_of_some _ (Heap.get?_push_size _ rfl)
 have hx : ((s.heap.push emptyDict).push (instObj C s.heap.objs.size)).get? (s.heap.objs.size + 1) = some (instObj C s.heap.objs.size) := hsz ▸ Heap.get?_push_size (s.heap.push emptyDict) (o := instObj C s.heap.objs.size) rfl
 have nex : s.heap.objs.size ≠ s.heap.objs.size + 1 := Nat.ne_of_lt (Nat.lt_succ_self _)
 have Z₂ := Z.1.add (tk := s.toks) (h' := (s.heap.push emptyDict).push (instObj C s.heap.objs.size)) (a := s.heap.objs.size + 1) (o := .inst C []) (ob := instObj C s.heap.objs.size) (Grow.push _ _) hn₁ hx
  ⟨s.heap.objs.size, [], 0, hx, hid_sub.mpr ⟨S.hid_fresh hn, (upd_ne nex).trans upd_self⟩, hdx, .nil, hC, Nat.zero_le _, fun p hp => (nomatch hp)⟩
 have fx : σ (s.heap.objs.size + 1) = none := (upd_ne (Ne.symm nex)).symm.trans (Z.1.free_of_none hn₁)
 have T := Z.2.trans Z₂.2 S.gfree Z₂.1.gfree
 have Vs₂ : VRels (hid N (upd (upd σ s.heap.objs.size (.sub (s.heap.objs.size + 1))) (s.heap.objs.size + 1) (.inst C []))) ((s.heap.push emptyDict).push (instObj C s.heap.objs.size)) (.ref (s.heap.objs.size + 1) :: args) (.ref (s.heap.objs.size + 1) :: vals) := .cons .ref (Vs.up (T.up S))
 have R₂ : Room k (A.under (.builtin "type.__call__" ⟨.ref C :: vals, []⟩)) := R.le rfl (Nat.add_le_add_left (tc_weight C vals ▸ (by decide)) _) (Nat.add_le_add_left (tc_units ⟨.ref C :: vals, []⟩ ▸ (by decide)) _)
 have main := h _ _ fx (S.free_of_none hn) (Ne.symm nex) N _ { s with heap := (s.heap.push emptyDict).push (instObj C s.heap.objs.size) } _ R₂ Z₂.1 Vs₂
 refine wpAny_call ?_
 obtain ⟨hh, g, d, tt, os⟩ := s
 refine make_core (makes_of KH c.2.2.2.2) (looks_findIn KH b.1) (fun self => bind_fn KH self (beq_iff_eq.mp b.2.1)) (.inl rfl) (codeAny_mono main fun r s' z => ?_)
 rcases r with e | (v | _ | _ | _) <;> first | exact z.elim | skip
 exact z.rec fun v' σ' S' T' V' hq => have V' := hq.1 ▸ V'; ⟨V'.none_inv, ⟨.ref _, σ', S', T.trans T' S.gfree S'.gfree, .ref, hq.2⟩⟩
end
end Mine
end

section
open PySem PySem.Calls PyProof.Rows PySem.W
set_option maxRecDepth 20000
namespace Mine
variable {N : Hid}
noncomputable def pairGt (p q : Int × Int) : Bool := decide (q.1 < p.1) || (decide (p.1 = q.1) && decide (q.2 < p.2))
section
variable {prog : Program} {w : World} {A : Around} {E : Value → Shared → Prop} {s : Shared}
theorem int_gt {a b : Int} {t u : Tok} {Q : Value → Shared → Prop} (h : Q (.bool (decide (a > b))) s) : wpAny (model prog w) A (richCompare .Gt (.int a t) (.int b u)) Q E s :=
 richCompare_gives (op := .Gt) (typeIs_int s _ t) (typeIs_int s _ u) F.slot_int_gt F.entry_int_gt (F.args_int_gt_2 _ _) (gives_int_gt _ _ t u) (fun x => nomatch x) h
theorem tuple_gt {a b : Addr} {i1 i2 j1 j2 : Int} {t1 t2 u1 u2 : Tok} {Q : Value → Shared → Prop} (ha : IsTup s.heap a #[.int i1 t1, .int i2 t2]) (hb : IsTup s.heap b #[.int j1 u1, .int j2 u2]) (hu : A.units < cLine)
  (h : Q (.bool (pairGt (i1, i2) (j1, j2))) s) : wpAny (model prog w) A (richCompare .Gt (.ref a) (.ref b)) Q E s := by
 refine wpAny_richCompare_same_or (T := "tuple") ha.typeIs hb.typeIs F.slot_tuple_gt (wpAny_call_entry F.slot_tuple_gt ha.typeIs F.entry_tuple_gt ?_ (F.args_tuple_gt_2 _ _)) (.inr hu)
 have hTb := hb.typeIs (s := s)
 show wpAny _ _ (isInstance (.ref b) (.type "tuple") >>= _) _ _ s
 refine wpAny_bind (wpAny_isInstance hTb isSubtype_tuple_tuple ?_)
 simp only [Bool.not_true,Bool.false_eq_true,if_false]
 refine wpAny_bind (tupleItemsOf_ ha ?_)
 refine wpAny_bind (tupleItemsOf_ hb ?_)
 refine wpAny_bind ?_
 show wpAny _ _ (forIn [((Value.int i1 t1), (Value.int j1 u1)), ((Value.int i2 t2), (Value.int j2 u2))] _ _) _ _ s
 rw [List.forIn_cons]
 refine wpAny_bind (wpAny_bind (wpAny_eqBool_int ?_))
 by_cases e1 : i1 = j1
 ·have hb1 : (i1 == j1) = true := beq_iff_eq.mpr e1
  rw [hb1]
  refine wpAny_pure ?_
  dsimp only
  rw [List.forIn_cons]
  refine wpAny_bind (wpAny_bind (wpAny_eqBool_int ?_))
  by_cases e2 : i2 = j2
  ·have hb2 : (i2 == j2) = true := beq_iff_eq.mpr e2
   rw [hb2]
   refine wpAny_pure ?_
   dsimp only
   rw [List.forIn_nil]
   refine wpAny_pure ?_
   refine wpAny_pure ⟨_, rfl, nofun, ?_⟩
   have : pairGt (i1, i2) (j1, j2) = false := by subst e1 e2; simp [pairGt]
   rw [this] at h
   exact h
  ·have hb2 : (i2 == j2) = false := beq_false_of_ne e2
   rw [hb2]
   refine wpAny_bind (wpAny_rule (wpAny_bind (int_gt ?_)))
   refine wpAny_bind (wpAny_pure (wpAny_pure (wpAny_pure (wpAny_pure ⟨_, rfl, nofun, ?_⟩))))
   have : pairGt (i1, i2) (j1, j2) = decide (i2 > j2) := by subst e1; simp [pairGt]
   rw [this] at h
   exact h
 ·have hb1 : (i1 == j1) = false := beq_false_of_ne e1
  rw [hb1]
  refine wpAny_bind (wpAny_rule (wpAny_bind (int_gt ?_)))
  refine wpAny_bind (wpAny_pure (wpAny_pure (wpAny_pure (wpAny_pure ⟨_, rfl, nofun, ?_⟩))))
  have : pairGt (i1, i2) (j1, j2) = decide (i1 > j1) := by simp [pairGt,e1]
  rw [this] at h
  exact h
end
section
variable {X : Cx} {k : Nat}
theorem intQ_eq {v : V} {i : Int} : intQ v = some i → v = .int i := V.casesOn (motive_1 := fun v => intQ v = some i → v = .int i) v (fun e => (nos rfl e).elim) (fun e => (nos rfl e).elim) (fun _ e => (nos rfl e).elim) (fun _ e => congrArg V.int (Option.some.inj e)) (fun _ e => (nos rfl e).elim) (fun _ e => (nos rfl e).elim) (fun _ e => (nos rfl e).elim) (fun _ e => (nos rfl e).elim) (fun _ e => (nos rfl e).elim)
theorem two?_eq {l : List V} {p : Int × Int} (h : two? l = some p) : V.tup l = pairV p := by
 rcases l with _ | ⟨a, _ | ⟨b, _ | ⟨_, _⟩⟩⟩ <;> first | exact (nos rfl h).elim | exact (Option.bind_eq_some_iff.mp h).elim fun i z => (Option.map_eq_some_iff.mp z.2).elim fun j w => by rw [intQ_eq z.1,intQ_eq w.1,← w.2]; rfl
theorem isP_eq {v : V} {p : Int × Int} : isP v = some p → v = pairV p := V.casesOn (motive_1 := fun v => isP v = some p → v = pairV p) v (fun e => (nos rfl e).elim) (fun e => (nos rfl e).elim) (fun _ e => (nos rfl e).elim) (fun _ e => (nos rfl e).elim) (fun _ e => (nos rfl e).elim) (fun _ e => (nos rfl e).elim) (fun _ e => two?_eq e) (fun _ e => (nos rfl e).elim) (fun _ e => (nos rfl e).elim)
theorem pairsOf_eq {l : List V} : ∀ {x : List (Int × Int)}, pairsOf l = some x → l = x.map pairV := by
 induction l with
 | nil => exact fun e => Option.some.inj e ▸ rfl
 | cons v r ih =>
  intro x e
  exact (Option.bind_eq_some_iff.mp (show ((isP v).bind fun p => (pairsOf r).map (p :: ·)) = some x from e)).elim fun p z => (Option.map_eq_some_iff.mp z.2).elim fun y w => w.2 ▸ (congr (congrArg List.cons (isP_eq z.1)) (ih w.1) : v :: r = pairV p :: y.map pairV)
theorem pair_inv {σ : AHeap} {h : Heap} {p : Int × Int} {val : Value} (x : VRel (hid N σ) h (pairV p) val) : ∃ a t u, val = .ref a ∧ IsTup h a #[.int p.1 t, .int p.2 u] :=
 x.tup_inv.elim fun a y => y.elim fun vs y => Array.casesOn (motive := fun vs => IsTup h a vs → VRels (hid N σ) h [.int p.1, .int p.2] vs.toList → ∃ a t u, val = .ref a ∧ IsTup h a #[.int p.1 t, .int p.2 u]) vs
  (fun vl i r => VRels.two (P := fun vl => IsTup h a ⟨vl⟩ → _) vl r (fun _ _ v w i => v.int_inv.elim fun t e => w.int_inv.elim fun u e' => ⟨a, t, u, y.1, e ▸ e' ▸ i⟩) i) y.2.2.1 y.2.2.2.2
noncomputable def bestOf : List (Int × Int) → Int × Int → Int × Int
 | [], b => b
 | p :: r, b => bestOf r (if pairGt p b = true then p else b)
theorem pairGt_le {p q : Int × Int} : pairGt p q = false ↔ pairLe p q := by
 unfold pairGt pairLe
 simp only [Bool.or_eq_false_iff,decide_eq_false_iff_not,Bool.and_eq_false_iff]
 omega
theorem pairLe_trans {p q r : Int × Int} (h : pairLe p q) (h' : pairLe q r) : pairLe p r := by unfold pairLe at *; omega
theorem pairLe_refl (p : Int × Int) : pairLe p p := by unfold pairLe; omega
theorem pairGt_ge {p q : Int × Int} (h : pairGt p q = true) : pairLe q p := by
 unfold pairGt at h
 simp only [Bool.or_eq_true,decide_eq_true_eq,Bool.and_eq_true] at h
 unfold pairLe; omega
theorem bestOf_ok (l : List (Int × Int)) : ∀ b : Int × Int, (bestOf l b = b ∨ bestOf l b ∈ l) ∧ pairLe b (bestOf l b) ∧ ∀ q ∈ l, pairLe q (bestOf l b) := by
 induction l with
 | nil => exact fun b => ⟨.inl rfl, pairLe_refl b, fun q h => (nomatch h)⟩
 | cons p r ih =>
  intro b
  unfold bestOf
  by_cases h : pairGt p b = true
  ·rw [if_pos h]
   have a := ih p
   exact ⟨.inr (List.mem_cons.mpr a.1), pairLe_trans (pairGt_ge h) a.2.1, fun q hq => (List.mem_cons.mp hq).elim (fun e => e ▸ a.2.1) (a.2.2 q)⟩
  ·rw [if_neg h]
   have a := ih b
   exact ⟨a.1.imp_right (List.mem_cons_of_mem _), a.2.1, fun q hq => (List.mem_cons.mp hq).elim (fun e => e ▸ pairLe_trans (pairGt_le.mp (Bool.not_eq_true _ ▸ h)) a.2.1) (a.2.2 q)⟩
theorem max_loop {A : Around} {σ : AHeap} {s₀ : Shared} {c I L : Addr} {vs : Array Value} {R : Result → Shared → Prop} (hh : A.handled = none) (hu : A.units + 10 < cLine) (hl : s₀.heap.IsList c vs) (hI : s₀.heap.get? I = none) (hL : s₀.heap.get? L = none) (hIL : I ≠ L) :
  ∀ (rest : List (Int × Int)) (i : Nat) (s : Shared) (b : Int × Int) (vb : Value) (e : Nat), VRels (hid N σ) s₀.heap (rest.map pairV) (vs.toList.drop i) → VRel (hid N σ) s₀.heap (pairV b) vb → (∀ x o, s₀.heap.get? x = some o → s.heap.get? x = some o) →
   s.heap.IsListIter I c i → s.heap.get? L = some { cls := .type "list", dict := none, data := .seq #[vb, vb] e, slots := #[] } →
   (∀ val h' tk, VRel (hid N σ) s₀.heap (pairV (bestOf rest b)) val → (∀ x o, s₀.heap.get? x = some o → h'.get? x = some o) → R (.ok (.ret val)) { s with heap := h', toks := tk }) →
   codeAny (model X.prog X.w) A (.builtin "max.loop" ⟨[.ref I, .none, .ref L], []⟩) R s := by
 have hname : (toString "max" ++ toString ".loop" : String) = "max.loop" := by decide
 have neI : ∀ {x o}, s₀.heap.get? x = some o → x ≠ I := fun e z => nos hI (z ▸ e)
 have neL : ∀ {x o}, s₀.heap.get? x = some o → x ≠ L := fun e z => nos hL (z ▸ e)
 intro rest
 induction rest with
 | nil =>
  intro i s b vb e hr hb hk hit hS hR
  have hi : vs[i]? = none := Array.getElem?_eq_none (List.drop_eq_nil_iff.mp (List.eq_nil_of_length_eq_zero hr.length.symm))
  have hl' : s.heap.IsList c vs := hl.elim fun o y => ⟨o, hk _ _ y.1, y.2⟩
  refine codeAny_builtin F.entry_max_loop ?_
  rw [Around.under_plainId F.plain_max_loop _]
  show wpAny _ A.in1 (seqItems? (.ref L) >>= _) _ _ s
  refine wpAny_bind (wpAny_seqItems hS rfl ?_)
  show wpAny _ A.in1 (tryCatch (pyNext (.ref I)) _ >>= _) _ _ s
  refine wpAny_bind (wpAny_tryCatch (wpAny_pyNext_list_end hh hit hl' hi fun h' he => ?_))
  have hS' := he L _ (Ne.symm hIL) hS
  show wpAny _ A.in1 (updateSeq L (fun _ => #[]) >>= _) _ _ _
  refine wpAny_bind ?_
  refine wpAny_updateSeq hS' rfl (wpAny_bind (wpAny_letGo (wpAny_pure ?_)))
  exact hR vb _ _ hb fun x o q => (Heap.get?_update_other _ _ (Ne.symm (neL q))).trans (he x o (neI q) (hk x o q))
 | cons p rest ih =>
  intro i s b vb e hr hb hk hit hS hR
  refine drop_case (vs := vs.toList) (i := i) (fun _ hd => nomatch (hd ▸ hr).length) fun v d1 d2 => ?_
  rw [d2] at hr
  have hv : VRel (hid N σ) s₀.heap (pairV p) v := VRels.uncons (P := fun l => VRel (hid N σ) s₀.heap (pairV p) (l.head?.getD v)) _ hr fun _ _ a _ => a
  have hrr : VRels (hid N σ) s₀.heap (rest.map pairV) (vs.toList.drop (i + 1)) := VRels.uncons (P := fun l => VRels (hid N σ) s₀.heap (rest.map pairV) l.tail) _ hr fun _ _ _ b => b
  ··have hl' : s.heap.IsList c vs := hl.elim fun o y => ⟨o, hk _ _ y.1, y.2⟩
    refine codeAny_builtin F.entry_max_loop ?_
    rw [Around.under_plainId F.plain_max_loop _]
    show wpAny _ A.in1 (seqItems? (.ref L) >>= _) _ _ s
    refine wpAny_bind (wpAny_seqItems hS rfl ?_)
    show wpAny _ A.in1 (tryCatch (pyNext (.ref I)) _ >>= _) _ _ s
    refine wpAny_bind (wpAny_tryCatch (wpAny_pyNext_list_item hit hl' (x := v) (Array.getElem?_toList ▸ d1) fun h' hit' hs => ?_))
    have hS' : h'.get? L = _ := (hs.2 L (Ne.symm hIL)).trans hS
    have hk' : ∀ x o, s₀.heap.get? x = some o → h'.get? x = some o := fun x o q => (hs.2 x (neI q)).trans (hk x o q)
    obtain ⟨a1, t1, u1, rfl, k1⟩ := pair_inv hv
    obtain ⟨a2, t2, u2, rfl, k2⟩ := pair_inv hb
    have k1' : IsTup h' a1 #[.int p.1 t1, .int p.2 u1] := k1.keeps hk'
    have k2' : IsTup h' a2 #[.int b.1 t2, .int b.2 u2] := k2.keeps hk'
    show wpAny _ A.in1 (tryCatch (holding [.ref a1, .ref a1] (richCompare .Gt (.ref a1) (.ref a2) >>= _)) _ >>= _) _ _ _
    refine wpAny_bind (wpAny_tryCatch (wpAny_holding (wpAny_bind (tuple_gt (s := { s with heap := h' }) k1' k2' (Nat.lt_of_le_of_lt (Nat.add_le_add_left (by decide) _) hu) ?_))))
    refine wpAny_bind (wpAny_holding (wpAny_truthy_bool ?_))
    refine wpAny_bind (wpAny_letGo (wpAny_pure ?_))
    cases hg : pairGt (p.1, p.2) (b.1, b.2) with
    | true =>
     simp only [if_true]
     refine wpAny_bind ?_
     refine wpAny_updateSeq hS' rfl (wpAny_bind (wpAny_letGo ?_))
     rw [hname]
     refine wpAny_pure ⟨plainId_quiet F.plain_max_loop _, ih (i + 1) _ p (.ref a1) _ hrr hv (fun x o q => (Heap.get?_update_other _ _ (Ne.symm (neL q))).trans (hk' x o q)) ?_ (Heap.get?_update_self _ hS' rfl) fun val h'' tk'' hv'' hk'' => ?_⟩
     ·exact hit'.elim fun o y => ⟨o, (Heap.get?_update_other _ _ (Ne.symm hIL)).trans y.1, y.2⟩
     ·refine hR val h'' tk'' ?_ hk''
      unfold bestOf
      rw [if_pos hg]; exact hv''
    | false =>
     simp only [Bool.false_eq_true,if_false]
     refine wpAny_bind (wpAny_letGo ?_)
     rw [hname]
     refine wpAny_pure ⟨plainId_quiet F.plain_max_loop _, ih (i + 1) { s with heap := h' } b (.ref a2) e hrr hb hk' hit' hS' fun val h'' tk'' hv'' hk'' => ?_⟩
     refine hR val h'' tk'' ?_ hk''
     unfold bestOf
     rw [if_neg (by rw [show ((p.1,p.2) : Int × Int) = p from rfl,show ((b.1,b.2) : Int × Int) = b from rfl] at hg; rw [hg]; simp)]; exact hv''
theorem max_pairs {A : Around} {σ : AHeap} {s : Shared} {c : Addr} {vs : Array Value} {p : Int × Int} {rest : List (Int × Int)} {Q : Value → Shared → Prop} (hh : A.handled = none) (hu : A.units + 20 < cLine) (hl : s.heap.IsList c vs) (hr : VRels (hid N σ) s.heap ((p :: rest).map pairV) vs.toList)
  (h : ∀ val h' tk, VRel (hid N σ) s.heap (pairV (bestOf rest p)) val → (∀ x o, s.heap.get? x = some o → h'.get? x = some o) → Q val { s with heap := h', toks := tk }) :
  wpAny (model X.prog X.w) A (call (.builtin "max") [.ref c]) Q NoE s := by
 have hname : (toString "max" ++ toString ".loop" : String) = "max.loop" := by decide
 refine call_function_tree F.kind_max F.plain_max F.entry_max (F.args_max1 _) ?_
 show wpAny _ A.in1 (Builtin.Builtins.bindParams "max" ["key", "default"] 0 ⟨[], []⟩ >>= _) _ _ s
 refine wpAny_bind (wpAny_of_eq (show Builtin.Builtins.bindParams "max" ["key", "default"] 0 ⟨[], []⟩ = pure [none, none] from rfl) ?_)
 refine wpAny_bind (wpAny_pure ?_)
 refine wpAny_bind (wpAny_pyIter_list hl ?_)
 refine wpAny_bind (wpAny_newObj_type ?_)
 rw [hname]
 have hn : s.heap.get? s.heap.objs.size = none := get_ge_none (Nat.le_refl _)
 generalize hlo : ({ cls := .type "list_iterator", data := .fields #[.ref c, .int 0 0] } : Obj) = lo
 have hsz : (s.heap.push lo).objs.size = s.heap.objs.size + 1 := Heap.size_push _ _
 dsimp only
 rw [hsz]
 have hn1 : s.heap.get? (s.heap.objs.size + 1) = none := get_ge_none (Nat.le_succ _)
 have nIL : s.heap.objs.size ≠ s.heap.objs.size + 1 := Nat.ne_of_lt (Nat.lt_succ_self _)
 have keep : ∀ b o, s.heap.get? b = some o → ((s.heap.push lo).push { cls := .type "list", data := .seq ([] : List Value).toArray }).get? b = some o := fun b o e => Heap.get?_push_of_some _ (Heap.get?_push_of_some _ e)
 have hit : ((s.heap.push lo).push { cls := .type "list", data := .seq ([] : List Value).toArray }).IsListIter s.heap.objs.size c 0 := ⟨lo, Heap.get?_push_of_some _ (Heap.get?_push_size _ (by rw [← hlo]; rfl)), by rw [← hlo], by rw [← hlo]; rfl⟩
 have hS : ((s.heap.push lo).push { cls := .type "list", data := .seq ([] : List Value).toArray }).get? (s.heap.objs.size + 1) = some { cls := .type "list", dict := none, data := .seq #[] 0, slots := #[] } := by
  have := Heap.get?_push_size (s.heap.push lo) (o := { cls := .type "list", data := .seq ([] : List Value).toArray }) rfl
  rw [hsz] at this; exact this
 generalize ((s.heap.push lo).push { cls := .type "list", data := .seq ([] : List Value).toArray }) = h₁ at keep hit hS ⊢
 obtain ⟨vl⟩ := vs
 rcases vl with _ | ⟨v, vr⟩
 ·exact (nomatch hr.length)
 ··have hv : VRel (hid N σ) s.heap (pairV p) v := VRels.uncons (P := fun l => VRel (hid N σ) s.heap (pairV p) (l.head?.getD v)) _ hr fun _ _ a _ => a
   have hr : VRels (hid N σ) s.heap (rest.map pairV) vr := VRels.uncons (P := fun l => VRels (hid N σ) s.heap (rest.map pairV) l.tail) _ hr fun _ _ _ b => b
   have hl' : h₁.IsList c ⟨v :: vr⟩ := hl.elim fun o y => ⟨o, keep _ _ y.1, y.2⟩
   refine wpAny_pure ⟨plainId_quiet F.plain_max_loop _, ?_⟩
   refine codeAny_builtin F.entry_max_loop ?_
   rw [Around.under_plainId F.plain_max_loop _]
   show wpAny _ A.in1 (seqItems? (.ref (s.heap.objs.size + 1)) >>= _) _ _ _
   refine wpAny_bind (wpAny_seqItems hS rfl ?_)
   show wpAny _ A.in1 (tryCatch (pyNext (.ref s.heap.objs.size)) _ >>= _) _ _ _
   refine wpAny_bind (wpAny_tryCatch (wpAny_pyNext_list_item hit hl' (x := v) rfl fun h' hit' hs => ?_))
   have hS' : h'.get? (s.heap.objs.size + 1) = _ := (hs.2 _ (Ne.symm nIL)).trans hS
   have k' : ∀ b o, s.heap.get? b = some o → h'.get? b = some o := fun b o e => (hs.2 b (fun z => nos hn (z ▸ e))).trans (keep b o e)
   show wpAny _ A.in1 (updateSeq (s.heap.objs.size + 1) (fun _ => #[v, v]) >>= _) _ _ _
   refine wpAny_bind ?_
   refine wpAny_updateSeq hS' rfl ?_
   rw [hname]
   refine wpAny_pure ⟨plainId_quiet F.plain_max_loop _, max_loop (N := N) (σ := σ) (s₀ := s) (c := c) (vs := ⟨v :: vr⟩) hh (Nat.lt_of_le_of_lt (Nat.add_le_add_left (by decide) _) hu) hl hn hn1 nIL rest 1 _ p v _ hr hv (fun x o e => (Heap.get?_update_other _ _ (fun z => nos hn1 (z.symm ▸ e))).trans (k' x o e)) ?_ (Heap.get?_update_self _ hS' rfl) fun val h'' tk hv' hk => h val h'' tk hv' hk⟩
   exact hit'.elim fun o y => ⟨o, (Heap.get?_update_other _ _ (Ne.symm nIL)).trans y.1, y.2⟩
theorem ET.max1 (B : Base X) {a : E} (ha : ET X k a) : ET X k (.max1 a) := by
 intro N sc nm env x ρ σ Q A s hm hq R S F
 refine blt1 B (name := "max") (f := .builtin "max") ha (by decide) (by kernel_rfl) (by decide +kernel) (kept_b _) hm hq R S F fun val s₁ u σ₁ S₁ v h₁ => h₁.inv fun l' e h₁ => S₁.aslist val e v fun c vs i1 i2 i3 => ?_
 split at h₁
 ·rename_i x hx
  have i3 := VRels.ints (N := N) (σ := σ₁) (h := s₁.heap) _ (intsOf_eq hx ▸ i3)
  exact (ledger S₁).elim fun m L => L.elim fun news L => max_list_N R.1 L.1 L.2.1 (vs := vs.toList) i1.isList i3 h₁.1 fun h' M t tk F' N' hM hle =>
   have g : Grow X s₁.heap h' := Grow.of_news L.1 L.2.2 F' N' fun p hp => hp
   ⟨_, σ₁, S₁.grow (tk := tk) g, .grow (tk := tk) g, .int, h₁.2 M hM hle⟩
 ·split at h₁ <;> first | exact h₁.elim | skip
  rename_i x hx
  have i3 := pairsOf_eq hx ▸ i3
  rcases x with _ | ⟨p, rest⟩
  ·exact (Nat.lt_irrefl _ h₁.1).elim
  ·refine max_pairs (N := N) (σ := σ₁) R.1 (Nat.lt_of_lt_of_le (by lia) R.2.2) i1.isList i3 fun val h' tk hv hk => ?_
   have g : Grow X s₁.heap h' := .of_all hk
   have b := bestOf_ok rest p
   exact ⟨_, σ₁, S₁.grow (tk := tk) g, .grow (tk := tk) g, hv.up (g.up S₁), h₁.2 _ (List.mem_cons.mpr b.1) fun q hq => (List.mem_cons.mp hq).elim (fun e => e ▸ b.2.1) (b.2.2 q)⟩
end
end Mine
end

section
open PySem PySem.Calls PyProof.Rows PySem.W
set_option maxRecDepth 20000
namespace Mine
noncomputable def spec {α : Type} (lt : Nat → Nat → Bool) (n : Nat) : KasT α → (α → Prop) → Prop
 | .ret a, Q => Q a
 | .ask i j k, Q => i < n ∧ j < n ∧ spec lt n (k (lt i j)) Q
theorem spec_bind {α β : Type} {lt : Nat → Nat → Bool} {n : Nat} {f : α → KasT β} {Q : β → Prop} (t : KasT α) : spec lt n t (fun a => spec lt n (f a) Q) → spec lt n (t.bind f) Q :=
 KasT.rec (motive := fun t => spec lt n t (fun a => spec lt n (f a) Q) → spec lt n (t.bind f) Q) (fun _ h => h) (fun _ _ _ ih h => ⟨h.1, h.2.1, ih _ h.2.2⟩) t
theorem spec_mono {α : Type} {lt : Nat → Nat → Bool} {n : Nat} {Q Q' : α → Prop} (hq : ∀ a, Q a → Q' a) (t : KasT α) : spec lt n t Q → spec lt n t Q' :=
 KasT.rec (motive := fun t => spec lt n t Q → spec lt n t Q') (fun _ h => hq _ h) (fun _ _ _ ih h => ⟨h.1, h.2.1, ih _ h.2.2⟩) t
section
variable {lt : Nat → Nat → Bool} {n : Nat}
structure Tot (lt : Nat → Nat → Bool) (n : Nat) : Prop where
 tri : ∀ i j, i < n → j < n → i ≠ j → lt i j = false → lt j i = true
 asym : ∀ i j, i < n → j < n → lt i j = true → lt j i = false
 trans : ∀ i j k, i < n → j < n → k < n → lt i j = true → lt j k = true → lt i k = true
noncomputable def Ok (n : Nat) (p : Array Nat) : Prop := p.toList.Perm (List.range n)
theorem Ok.size {p : Array Nat} (h : Ok n p) : p.size = n := by have := h.length_eq; simpa using this
theorem getD_at {p : Array Nat} {t : Nat} (h : t < p.size) : p.getD t 0 = p[t] := by simp [Array.getD,h]
theorem Ok.bd {p : Array Nat} (h : Ok n p) {t : Nat} (ht : t < n) : p.getD t 0 < n := by
 have hs := h.size
 rw [getD_at (by lia)]
 have : p[t] ∈ p.toList := by simp
 have := h.mem_iff.mp this
 simpa using this
theorem Ok.ne {p : Array Nat} (h : Ok n p) {s t : Nat} (hs : s < n) (ht : t < n) (e : s ≠ t) : p.getD s 0 ≠ p.getD t 0 := by
 have hz := h.size
 rw [getD_at (by lia),getD_at (by lia)]
 have nd : p.toList.Nodup := h.nodup_iff.mpr List.nodup_range
 have key := List.pairwise_iff_getElem.mp nd
 intro q
 rcases Nat.lt_or_gt_of_ne e with h1 | h1
 ·exact key s t (by simpa using (by lia : s < p.size)) (by simpa using (by lia : t < p.size)) h1 (by simpa using q)
 ·exact key t s (by simpa using (by lia : t < p.size)) (by simpa using (by lia : s < p.size)) h1 (by simpa using q.symm)
noncomputable def SP (lt : Nat → Nat → Bool) (p : Array Nat) (m : Nat) : Prop := ∀ t, t + 1 < m → lt (p.getD t 0) (p.getD (t + 1) 0) = true
theorem SP.far (T : Tot lt n) {p : Array Nat} (ok : Ok n p) {m : Nat} (hm : m ≤ n) (h : SP lt p m) : ∀ (d s : Nat), s + d + 1 < m → lt (p.getD s 0) (p.getD (s + d + 1) 0) = true
 | 0, s, hs => h s hs
 | d + 1, s, hs => T.trans _ _ _ (ok.bd (by lia)) (ok.bd (by lia)) (ok.bd (by exact Nat.le_trans ‹_› ‹_›)) (SP.far T ok hm h d s (by exact Nat.le_of_lt ‹_›)) (h (s + d + 1) hs)
theorem SP.lt' (T : Tot lt n) {p : Array Nat} (ok : Ok n p) {m : Nat} (hm : m ≤ n) (h : SP lt p m) {s t : Nat} (hst : s < t) (ht : t < m) : lt (p.getD s 0) (p.getD t 0) = true := by
 have := SP.far T ok hm h (t - s - 1) s (by lia)
 rwa [show s + (t - s - 1) + 1 = t by lia] at this
theorem asc_ok (T : Tot lt n) {p : Array Nat} (ok : Ok n p) : ∀ (f m : Nat), 1 ≤ m → m + f = n → SP lt p m → spec lt n (kas_asc p f m) fun r => m ≤ r ∧ r ≤ n ∧ SP lt p r ∧ (r < n → lt (p.getD r 0) (p.getD (r - 1) 0) = true)
 | 0, m, h1, h2, h3 => ⟨Nat.le_refl _, by lia, h3, fun h => by lia⟩
 | f + 1, m, h1, h2, h3 => by
  refine ⟨ok.bd (by lia), ok.bd (by lia), ?_⟩
  by_cases c : lt (p.getD m 0) (p.getD (m - 1) 0) = true
  ·rw [c]
   exact ⟨Nat.le_refl _, by lia, h3, fun _ => c⟩
  ·have cf : lt (p.getD m 0) (p.getD (m - 1) 0) = false := by simpa using c
   rw [cf]
   refine spec_mono (fun r ⟨a, b, d, e⟩ => ⟨by exact Nat.le_of_lt ‹_›, b, d, e⟩) _ (asc_ok T ok f (m + 1) (by exact Nat.succ_pos _) (by lia) fun t ht => ?_)
   by_cases e : t + 1 = m
   ·subst e
    exact T.tri _ _ (ok.bd (by lia)) (ok.bd (by lia)) (ok.ne (by lia) (by lia) (by lia)) cf
   ·exact h3 t (by lia)
noncomputable def DP (lt : Nat → Nat → Bool) (p : Array Nat) (m : Nat) : Prop := ∀ t, t + 1 < m → lt (p.getD (t + 1) 0) (p.getD t 0) = true
theorem desc_ok (T : Tot lt n) {p : Array Nat} (ok : Ok n p) : ∀ (f m : Nat), 1 ≤ m → m + f = n → DP lt p m → spec lt n (kas_desc f p m 0) fun (r : Array Nat × Nat × Nat) => r.1 = p ∧ r.2.2 = 0 ∧ m ≤ r.2.1 ∧ r.2.1 ≤ n ∧ DP lt p r.2.1
 | 0, m, h1, h2, h3 => ⟨rfl, rfl, Nat.le_refl _, (by show m ≤ n; lia), h3⟩
 | f + 1, m, h1, h2, h3 => by
  refine ⟨ok.bd (by lia), ok.bd (by lia), ?_⟩
  by_cases c : lt (p.getD m 0) (p.getD (m - 1) 0) = true
  ·rw [c]
   refine spec_mono (fun r ⟨a, b, d, e, g⟩ => ⟨a, b, by exact Nat.le_of_lt ‹_›, e, g⟩) _ (desc_ok T ok f (m + 1) (by exact Nat.succ_pos _) (by lia) fun t ht => ?_)
   by_cases e : t + 1 = m
   ·subst e; exact c
   ·exact h3 t (by lia)
  ·have cf : lt (p.getD m 0) (p.getD (m - 1) 0) = false := by simpa using c
   rw [cf]
   refine ⟨ok.bd (by lia), ok.bd (by lia), ?_⟩
   have d := T.tri _ _ (ok.bd (by lia)) (ok.bd (by lia)) (ok.ne (by lia) (by lia) (by lia)) cf
   rw [d]
   exact ⟨rfl, rfl, Nat.le_refl _, (by show m ≤ n; lia), h3⟩
theorem rev_get {p : Array Nat} {m t : Nat} (hm : m ≤ p.size) (ht : t < m) : (kas_rev p 0 m).getD t 0 = p.getD (m - 1 - t) 0 := by
 have := getElem?_mirror_all (xs := p) (i := 0) (j := m) hm t
 rw [if_pos ⟨Nat.zero_le _,ht⟩] at this
 unfold kas_rev
 have h1 : t < (mirror p 0 m ((m - 0) / 2)).size := by rw [mirror_size]; lia
 have h2 : m - 1 - t < p.size := by lia
 rw [getD_at h1,getD_at h2]
 rw [Array.getElem?_eq_getElem h1,show 0 + m - 1 - t = m - 1 - t by lia,Array.getElem?_eq_getElem h2] at this
 exact Option.some.inj this
theorem rev_ok {p : Array Nat} (ok : Ok n p) (m : Nat) : Ok n (kas_rev p 0 m) := by
 have := (mirror_perm p 0 m ((m - 0) / 2))
 exact (Array.perm_iff_toList_perm.mp this).trans ok
theorem count_ok (T : Tot lt n) {p : Array Nat} (ok : Ok n p) (hn : 2 ≤ n) : spec lt n (kas_count n p) fun r => 1 ≤ r.1 ∧ r.1 ≤ n ∧ Ok n r.2 ∧ SP lt r.2 r.1 := by
 refine spec_bind _ (spec_mono (fun m ⟨h1, h2, h3, h4⟩ => ?_) _ (asc_ok T ok (n - 1) 1 (Nat.le_refl _) (by lia) fun t ht => by contradiction))
 by_cases e : m = n
 ·rw [if_pos (by simpa using e)]
  exact ⟨h1, h2, ok, h3⟩
 ·rw [if_neg (by simpa using e)]
  by_cases e1 : m > 1
  ·rw [if_pos e1]
   refine ⟨ok.bd (by exact Nat.le_of_lt ‹_›), ok.bd (by lia), ?_⟩
   rw [SP.lt' T ok h2 h3 (by lia) (by lia)]
   exact ⟨h1, h2, ok, h3⟩
  ·rw [if_neg e1]
   have hm : m = 1 := by lia
   subst hm
   have c := h4 (by assumption)
   refine spec_bind _ (spec_mono (fun r ⟨a, b, d, e, g⟩ => ?_) _ (desc_ok T ok (n - 2) 2 (by exact Nat.succ_pos _) (by lia) fun t ht => by
    have : t = 0 := by lia
    subst this; exact c))
   rw [if_neg (by lia),a]
   have ok' := rev_ok ok r.2.1
   refine spec_bind _ (spec_mono (fun m' hm' => ?_) _ (asc_ok T ok' (n - r.2.1) r.2.1 (by exact Nat.le_of_lt ‹_›) (by lia) fun t ht => ?_))
   ·obtain ⟨k1, k2, k3, _⟩ := hm'
    exact ⟨(by show 1 ≤ m'; lia), k2, ok', k3⟩
   ·have hs := ok.size
    rw [rev_get (by lia) (by exact Nat.le_of_lt ‹_›),rev_get (by lia) (by assumption)]
    have := g (r.2.1 - 1 - (t + 1)) (by lia)
    rwa [show r.2.1 - 1 - (t + 1) + 1 = r.2.1 - 1 - t by lia] at this
theorem place_ok (T : Tot lt n) {p : Array Nat} (ok : Ok n p) {k : Nat} (hk : k < n) (hp : SP lt p k) : ∀ (f l r : Nat), l ≤ r → r ≤ k → r - l ≤ f → (∀ t, t < l → lt (p.getD t 0) (p.getD k 0) = true) → (∀ t, r ≤ t → t < k → lt (p.getD k 0) (p.getD t 0) = true) →
  spec lt n (kas_place p k f l r) fun l' => l' ≤ k ∧ (∀ t, t < l' → lt (p.getD t 0) (p.getD k 0) = true) ∧ ∀ t, l' ≤ t → t < k → lt (p.getD k 0) (p.getD t 0) = true
 | 0, l, r, h1, h2, h3, h4, h5 => ⟨by exact Nat.le_trans ‹_› ‹_›, h4, fun t a b => h5 t (by lia) b⟩
 | f + 1, l, r, h1, h2, h3, h4, h5 => by
  unfold kas_place
  by_cases e : l ≥ r
  ·rw [if_pos e]; exact ⟨by exact Nat.le_trans ‹_› ‹_›, h4, fun t a b => h5 t (by exact Nat.le_trans ‹_› ‹_›) b⟩
  ·rw [if_neg e]
   have hmid : (l + r) / 2 < r := by lia
   have hmid2 : l ≤ (l + r) / 2 := by lia
   refine ⟨ok.bd hk, ok.bd (by lia), ?_⟩
   by_cases c : lt (p.getD k 0) (p.getD ((l + r) / 2) 0) = true
   ·rw [c]
    refine place_ok T ok hk hp f l ((l + r) / 2) hmid2 (by lia) (by lia) h4 fun t a b => ?_
    by_cases q : t = (l + r) / 2
    ·rw [q]; exact c
    ·exact T.trans _ _ _ (ok.bd hk) (ok.bd (by lia)) (ok.bd (by exact Nat.lt_trans ‹_› ‹_›)) c (SP.lt' T ok (by exact Nat.le_of_lt ‹_›) hp (by lia) b)
   ·have cf : lt (p.getD k 0) (p.getD ((l + r) / 2) 0) = false := by simpa using c
    rw [cf]
    have d := T.tri _ _ (ok.bd hk) (ok.bd (by lia)) (ok.ne hk (by lia) (by lia)) cf
    refine place_ok T ok hk hp f ((l + r) / 2 + 1) r (by assumption) h2 (by lia) (fun t a => ?_) h5
    by_cases q : t = (l + r) / 2
    ·rw [q]; exact d
    ·exact T.trans _ _ _ (ok.bd (by lia)) (ok.bd (by lia)) (ok.bd hk) (SP.lt' T ok (by lia) hp (show t < (l + r) / 2 by lia) (by lia)) d
theorem bub_get {p : Array Nat} {k l t : Nat} (hk : k < p.size) (hl : l ≤ k) (ht : t ≤ k) : (bubble p k (k - l)).getD t 0 = if t = l then p.getD k 0 else if l < t then p.getD (t - 1) 0 else p.getD t 0 := by
 have := getElem?_bubble hk (k - l) (by exact Nat.sub_le _ _) t
 rw [show k - (k - l) = l by lia] at this
 have h1 : t < (bubble p k (k - l)).size := by rw [bubble_size]; lia
 rw [getD_at h1]
 rw [Array.getElem?_eq_getElem h1] at this
 by_cases e : t = l
 ·rw [if_pos e] at this ⊢
  rw [getD_at hk]
  rw [Array.getElem?_eq_getElem hk] at this
  exact Option.some.inj this
 ·rw [if_neg e] at this ⊢
  by_cases e2 : l < t
  ·rw [if_pos ⟨e2,ht⟩] at this
   rw [if_pos e2,getD_at (by lia)]
   rw [Array.getElem?_eq_getElem (by lia)] at this
   exact Option.some.inj this
  ·rw [if_neg (fun h => e2 h.1)] at this
   rw [if_neg e2,getD_at (by exact Nat.lt_of_le_of_lt ‹_› ‹_›)]
   rw [Array.getElem?_eq_getElem (by exact Nat.lt_of_le_of_lt ‹_› ‹_›)] at this
   exact Option.some.inj this
theorem bub_ok {p : Array Nat} (ok : Ok n p) (k d : Nat) : Ok n (bubble p k d) := (Array.perm_iff_toList_perm.mp (bubble_perm p k d)).trans ok
theorem bin_ok (T : Tot lt n) : ∀ (f : Nat) {p : Array Nat} (k : Nat), Ok n p → 1 ≤ k → k + f = n → SP lt p k → spec lt n (kas_bin f p k) fun q => Ok n q ∧ SP lt q n
 | 0, p, k, ok, h1, h2, h3 => ⟨ok, by rw [show n = k by lia]; exact h3⟩
 | f + 1, p, k, ok, h1, h2, h3 => by
  refine spec_bind _ (spec_mono (fun l ⟨a, b, c⟩ => ?_) _ (place_ok T ok (by lia) h3 k 0 k (Nat.zero_le _) (Nat.le_refl _) (by exact Nat.sub_le _ _) (fun t h => by exact absurd ‹_› (Nat.not_lt_zero _)) fun t a b => by lia))
  refine bin_ok T f (k + 1) (bub_ok ok _ _) (by exact Nat.succ_pos _) (by lia) fun t ht => ?_
  have hs := ok.size
  rw [bub_get (by lia) a (by lia),bub_get (by lia) a (by exact Nat.le_of_lt_succ ‹_›)]
  by_cases e1 : t = l
  ·rw [if_pos e1,if_neg (by lia),if_pos (by lia)]
   subst e1
   exact c t (Nat.le_refl _) (by exact Nat.le_of_lt_succ ‹_›)
  ·rw [if_neg e1]
   by_cases e2 : t + 1 = l
   ·rw [if_neg (by lia),if_pos e2]
    exact b t (by lia)
   ·rw [if_neg e2]
    by_cases e3 : l < t
    ·rw [if_pos e3,if_pos (by exact Nat.lt_succ_of_lt ‹_›)]
     have := h3 (t - 1) (by lia)
     rwa [show t - 1 + 1 = t by lia] at this
    ·rw [if_neg e3,if_neg (by lia)]
     exact h3 t (by lia)
theorem sort_ok (T : Tot lt n) (hn : 2 ≤ n) : spec lt n (kas_sort n) fun q => Ok n q ∧ SP lt q n := by
 have ok0 : Ok n (List.toArray (List.range n)) := by unfold Ok; simp
 refine spec_bind _ (spec_mono (fun r ⟨a, b, c, d⟩ => ?_) _ (count_ok T ok0 hn))
 by_cases e : r.1 < n
 ·rw [if_pos e,Nat.max_eq_left a]
  exact bin_ok T _ _ c a (by lia) d
 ·rw [if_neg e]
  exact ⟨c, by rw [show n = r.1 by lia]; exact d⟩
end
end Mine
end

section
open PySem PySem.Calls PyProof.Rows PySem.W
set_option maxRecDepth 20000
namespace Mine
variable {N : Hid}
noncomputable def pairLt (p q : Int × Int) : Bool := decide (p.1 < q.1) || (decide (p.1 = q.1) && decide (p.2 < q.2))
noncomputable def ltOf (x : List (Int × Int)) (i j : Nat) : Bool := pairLt (x.getD i (0, 0)) (x.getD j (0, 0))
theorem pairLt_iff {p q : Int × Int} : pairLt p q = true ↔ p.1 < q.1 ∨ (p.1 = q.1 ∧ p.2 < q.2) := by
 unfold pairLt
 simp only [Bool.or_eq_true,decide_eq_true_eq,Bool.and_eq_true]
theorem pairLt_tri {p q : Int × Int} (h : pairLt p q = false) (ne : p ≠ q) : pairLt q p = true := by
 have h' : ¬ pairLt p q = true := by rw [h]; exact Bool.false_ne_true
 rw [pairLt_iff] at h' ⊢
 have ne' : p.1 = q.1 → p.2 ≠ q.2 := fun a b => ne (Prod.ext a b)
 lia
theorem pairLt_asym {p q : Int × Int} (h : pairLt p q = true) : pairLt q p = false := Bool.eq_false_iff.mpr fun h' => by rw [pairLt_iff] at h h'; lia
theorem pairLt_trans {p q r : Int × Int} (h : pairLt p q = true) (h' : pairLt q r = true) : pairLt p r = true := by rw [pairLt_iff] at *; lia
theorem pairLt_le {p q : Int × Int} (h : pairLt p q = true) : pairLe p q := (pairLt_iff.mp h).imp_right fun z => ⟨z.1, Int.le_of_lt z.2⟩
theorem getD_nodup {x : List (Int × Int)} (nd : x.Nodup) {i j : Nat} (hi : i < x.length) (hj : j < x.length) (ne : i ≠ j) : x.getD i (0, 0) ≠ x.getD j (0, 0) := by
 rw [List.getD_eq_getElem?_getD,List.getD_eq_getElem?_getD,List.getElem?_eq_getElem hi,List.getElem?_eq_getElem hj]
 have key := List.pairwise_iff_getElem.mp nd
 exact (Nat.lt_or_gt_of_ne ne).elim (fun h => key i j hi hj h) fun h q => key j i hj hi h q.symm
theorem tot_of {x : List (Int × Int)} (nd : x.Nodup) : Tot (ltOf x) x.length where
 tri := fun i j hi hj ne h => pairLt_tri h (getD_nodup nd hi hj ne)
 asym := fun i j hi hj h => pairLt_asym h
 trans := fun i j k hi hj hk h h' => pairLt_trans h h'
section
variable {prog : Program} {w : World} {A : Around} {s : Shared}
theorem lt_pairs {a b : Addr} {p q : Int × Int} {t1 t2 u1 u2 : Tok} {C : Bool → Shared → Prop} (ha : IsTup s.heap a #[.int p.1 t1, .int p.2 t2]) (hb : IsTup s.heap b #[.int q.1 u1, .int q.2 u2]) (h : C (pairLt p q) s) :
  wpAny (model prog w) A (keyLt' (tuples' true) (.ref a) (.ref b)) C (fun _ _ => False) s := by
 obtain ⟨oa, hoa, _, na, hda⟩ := ha
 obtain ⟨ob, hob, _, nb, hdb⟩ := hb
 refine kat_lt hoa hda hob hdb ?_
 show KatLex prog w A true _ C [(.int p.1 t1, .int q.1 u1), (.int p.2 t2, .int q.2 u2)] 0 s
 refine kat_cons (wpAny_eqBool_int ?_)
 by_cases e1 : p.1 = q.1
 ·rw [show (p.1 == q.1) = true by simpa using e1]
  refine kat_yes (kat_cons (wpAny_eqBool_int ?_))
  by_cases e2 : p.2 = q.2
  ·rw [show (p.2 == q.2) = true by simpa using e2]
   refine kat_yes (kat_nil ?_)
   have : pairLt p q = false := by unfold pairLt; simp [e1,e2]
   rw [this] at h
   exact h
  ·rw [show (p.2 == q.2) = false by simpa using e2]
   refine kat_no (kat_one _ _ ?_)
   have : pairLt p q = decide (p.2 < q.2) := by unfold pairLt; simp [e1]
   rw [this] at h
   exact richCompare_gives (op := .Lt) (typeIs_int s _ _) (typeIs_int s _ _) F.slot_int_lt F.entry_int_lt (F.args_int_lt_2 _ _) (gives_int_lt _ _ _ _) (fun x => nomatch x) h
 ·rw [show (p.1 == q.1) = false by simpa using e1]
  refine kat_no (oneLt_int ?_)
  have : pairLt p q = decide (p.1 < q.1) := by unfold pairLt; simp [e1]
  rw [this] at h
  exact h
end
section
variable {X : Cx} {k : Nat}
theorem firsts_of {σ : AHeap} {h : Heap} (x : List (Int × Int)) : ∀ {vs : List Value}, VRels (hid N σ) h (x.map pairV) vs → ∃ fs, KatTups h vs fs ∧ fs.length = x.length ∧ ∀ v ∈ fs, ∃ i t, v = .int i t := by
 induction x with
 | nil => exact fun {vs} y => y.zero vs ⟨[], KatTups.nil, rfl, fun v h => (nomatch h)⟩
 | cons p r ih =>
  exact fun {vs} y => y.uncons vs fun val vs y z => (ih z).elim fun fs w => (pair_inv y).elim fun a q => q.elim fun t q => q.elim fun u q => q.1 ▸ q.2.elim fun o m => m.2.2.elim fun n hd =>
   ⟨_, KatTups.cons m.1 m.2.1 hd rfl w.1, congrArg (· + 1) w.2.1, fun v hv => (List.mem_cons.mp hv).elim (fun e => ⟨_, _, e⟩) (w.2.2 v)⟩
theorem VRels.getD {σ : AHeap} {h : Heap} {x : List (Int × Int)} {vs : List Value} (r : VRels (hid N σ) h (x.map pairV) vs) {i : Nat} (hi : i < x.length) : VRel (hid N σ) h (pairV (x.getD i (0, 0))) (vs.getD i .none) := by
 rw [List.getD_eq_getElem?_getD,List.getD_eq_getElem?_getD,List.getElem?_eq_getElem hi]
 exact (r.get (i := i) (v := pairV x[i]) (by rw [List.getElem?_map,List.getElem?_eq_getElem hi]; rfl)).elim fun val y => y.1 ▸ y.2
theorem VRels.pick {σ : AHeap} {h : Heap} {x : List (Int × Int)} {vs : List Value} (r : VRels (hid N σ) h (x.map pairV) vs) (q : List Nat) : (∀ i ∈ q, i < x.length) → VRels (hid N σ) h ((q.map fun i => x.getD i (0, 0)).map pairV) (q.map fun i => vs.getD i .none) :=
 List.rec (motive := fun q => (∀ i ∈ q, i < x.length) → VRels (hid N σ) h ((q.map fun i => x.getD i (0, 0)).map pairV) (q.map fun i => vs.getD i .none)) (fun _ => .nil) (fun i q ih hq => .cons (r.getD (hq i (.head _))) (ih fun j hj => hq j (.tail _ hj))) q
theorem map_range_getD {α : Type} {x : List α} {d : α} : (List.range x.length).map (fun i => x.getD i d) = x := by
 apply List.ext_getElem
 ·simp
 ·intro i h1 h2
  simp [h2]
theorem spec_wp2 {α : Type} {lt : Nat → Nat → Bool} {n : Nat} {G : α → Shared → Prop} {cmp : Nat → Nat → (Bool → Shared → Prop) → Shared → Prop} {s : Shared} (hc : ∀ i j C, i < n → j < n → C (lt i j) s → cmp i j C s) (t : KasT α) : spec lt n t (fun a => G a s) → t.kasWp cmp G s :=
 KasT.rec (motive := fun t => spec lt n t (fun a => G a s) → t.kasWp cmp G s) (fun _ h => h) (fun i j k ih h => hc i j _ h.1 h.2.1 (ih _ h.2.2)) t
theorem sorted_pairs {A : Around} {σ : AHeap} {s : Shared} {c : Addr} {vs : Array Value} {x : List (Int × Int)} {Q : V → AHeap → Prop} (S : St X N σ s) (hl : s.heap.PlainList c vs) (hr : VRels (hid N σ) s.heap (x.map pairV) vs.toList) (h2 : 2 ≤ x.length) (h64 : x.length < 64) (nd : x.Nodup)
  (hq : ∀ y : List (Int × Int), y.Perm x → y.Pairwise pairLe → Q (.list (y.map pairV)) σ) : wpAny (model X.prog X.w) A (call (.builtin "sorted") [.ref c]) (PostE X N σ s Q) NoE s := by
 have hlen : x.length = vs.size := (List.length_map pairV).symm.trans hr.length
 refine (ledger S).elim fun m L => L.elim fun news L => kat_sorted (vs := vs.toList) L.1 L.2.1 hl.isList (show 2 ≤ vs.size from hlen ▸ h2) (show vs.size < 64 from hlen ▸ h64) fun D e1 h' F' N' hlt => ?_
 have keep : Grow X s.heap h' := Grow.of_news L.1 L.2.2 F' N' fun p hp => List.mem_cons_of_mem _ hp
 have hD : s.heap.get? D = none := none_of fun o q => Nat.lt_irrefl _ (hlt _ (L.2.2 D o (N' _ (List.mem_cons_self ..)).2.1 q))
 have hr' := hr.up (keep.up S)
 refine (firsts_of x hr').elim fun fs w => kat_kind (T := .type "int") w.1 (w.2.1 ▸ Nat.lt_of_lt_of_le (by decide) h2) (fun v hv => (w.2.2 v hv).elim fun i z => z.elim fun t e => e ▸ Looks.of_pure rfl) (by decide) ?_
 have ht : ((Value.type "int") != Value.type "tuple") = true := by decide
 rw [ht,show vs.toList.length = x.length from hlen.symm]
 refine spec_wp2 (s := { s with heap := h' }) (cmp := kas_ask X.prog X.w A.in1.in1 (tuples' true) vs.toList) (fun i j C hi hj hC => ?_) _ (spec_mono (fun q hs' => ?_) _ (sort_ok (tot_of nd) h2))
 ·refine (pair_inv (hr'.getD hi)).elim fun a z => z.elim fun t z => z.elim fun u z => (pair_inv (hr'.getD hj)).elim fun b y => y.elim fun t' y => y.elim fun u' y => ?_
  unfold kas_ask
  rw [z.1,y.1]
  exact lt_pairs (s := { s with heap := h' }) z.2 y.2 hC
 ·have ok := hs'.1
  have hmem : ∀ i ∈ q.toList, i < x.length := fun i hi => List.mem_range.mp (ok.mem_iff.mp hi)
  have y1 : (q.toList.map fun i => x.getD i (0, 0)).Perm x := (ok.map (fun i => x.getD i (0, 0))).trans (List.Perm.of_eq map_range_getD)
  refine KasFin.intro F' N' (.head fun p hp => Nat.ne_of_lt (hlt p hp)) fun h'' c' F'' N'' => newList_end (new := false) S (tk := s.toks) (Grow.of_news L.1 L.2.2 F'' N'' fun p hp => List.mem_cons_of_mem _ hp) hD ⟨c', (N'' _ (List.mem_cons_self ..)).1⟩ (hr.pick _ hmem)
   ⟨(List.length_map pairV).symm ▸ y1.length_eq.symm ▸ Nat.le_of_lt (Nat.lt_trans h64 (by decide)), hq _ y1 (List.pairwise_iff_getElem.mpr fun i j hi hj hij => ?_)⟩
  rw [List.length_map] at hi hj
  have z : pairLt (x.getD (q.getD i 0) (0, 0)) (x.getD (q.getD j 0) (0, 0)) = true := SP.lt' (tot_of nd) ok (Nat.le_refl _) hs'.2 hij (ok.size ▸ hj)
  rw [getD_at hi,getD_at hj] at z
  rw [List.getElem_map,List.getElem_map]
  exact pairLt_le z
theorem ET.sorted (B : Base X) {a : E} (ha : ET X k a) : ET X k (.sorted a) := by
 intro N sc nm env x ρ σ Q A s hm hq R S F
 refine blt1 B (name := "sorted") (f := .builtin "sorted") ha (by decide) (by kernel_rfl) (by decide +kernel) (kept_b _) hm hq R S F fun val s₁ u σ₁ S₁ v h₁ => h₁.inv fun l' e h₁ => S₁.aslist val e v fun c vs i1 i2 i3 => ?_
 have h₂ := h₁.2
 split at h₂
 ·rename_i x hx
  have h64 : x.length < 64 := (List.length_map V.int).symm ▸ intsOf_eq hx ▸ h₁.1
  have i3 := VRels.ints (N := N) (σ := σ₁) (h := s₁.heap) _ (intsOf_eq hx ▸ i3)
  refine (ledger S₁).elim fun m L => L.elim fun news L => sorted_N L.1 L.2.1 (vs := vs.toList) i1.isList i3 (i3.length.symm ▸ h64) fun h' vs' ns' e F' N' hI hp hs => ?_
  exact newList_end (new := false) S₁ (tk := s₁.toks) (Grow.of_news L.1 L.2.2 F' N' fun p hp => List.mem_cons_of_mem _ hp) (get_ge_none (Nat.le_succ _)) ⟨e, (N' _ (List.mem_cons_self ..)).1⟩ (VRels.of_ints hI)
   ⟨(List.length_map V.int).symm ▸ hp.length_eq.symm ▸ Nat.le_of_lt (Nat.lt_trans h64 (by decide)), h₂ ns' hp hs⟩
 ·split at h₂ <;> first | exact h₂.elim | skip
  rename_i x hx
  have e := pairsOf_eq hx
  exact sorted_pairs S₁ i1 (e ▸ i3) ((List.length_map pairV) ▸ e ▸ h₂.1) ((List.length_map pairV) ▸ e ▸ h₁.1) h₂.2.1 h₂.2.2
end
end Mine
end

section
open PySem PySem.Calls PyProof.Rows PySem.W
set_option maxRecDepth 20000
namespace Mine
section
variable {X : Cx} {k : Nat}
theorem ptName {f} {x : PySem.Expr} (h : vName f x = true) : plainTest x = true := vName_inv x h fun _ _ _ => rfl
theorem ptConst {f} {x : PySem.Expr} (h : vConst f x = true) : plainTest x = true := vConst_inv x h fun _ _ _ _ => rfl
theorem ptBin {f} {x : PySem.Expr} (h : vBin f x = true) : plainTest x = true := vBin_inv x h fun _ _ _ _ _ => rfl
theorem ptSub {f} {x : PySem.Expr} (h : vSub f x = true) : plainTest x = true := vSub_inv x h fun _ _ _ _ => rfl
theorem ptAttr {f} {x : PySem.Expr} (h : vAttr f x = true) : plainTest x = true := vAttr_inv x h fun _ _ _ _ => rfl
theorem ptTup {f} {x : PySem.Expr} (h : vTup f x = true) : plainTest x = true := vTup_inv x h fun _ _ _ _ => rfl
theorem ptList {f} {x : PySem.Expr} (h : vList f x = true) : plainTest x = true := vList_inv x h fun _ _ _ => rfl
theorem ptDict {f} {x : PySem.Expr} (h : vDict f x = true) : plainTest x = true := vDict_inv x h fun _ _ _ _ => rfl
theorem ptCall {f} {x : PySem.Expr} (h : vCall f x = true) : plainTest x = true := vCall_inv x h fun _ _ _ _ _ => rfl
theorem ptComp {f} {x : PySem.Expr} (h : vComp f x = true) : plainTest x = true := vComp_inv x h fun _ _ _ _ _ => rfl
theorem ptNeg {f} {x : PySem.Expr} (h : vNeg f x = true) : plainTest x = true := vNeg_inv x h fun _ _ _ _ _ => rfl
structure EB (X : Cx) (k : Nat) (x : E) : Prop where
 e : ET X k x
 b : BT X k x
structure IR (X : Cx) (k : Nat) (it : It) : Prop where
 i : IT X k it
 r : notE it = true → RT X k it
theorem pr {e : E} (h : ET X k e) (p : ∀ {sc : Scope} {nm : List (PySem.Str × Nat)} {x : PySem.Expr}, matE sc nm e x = true → plainTest x = true) : EB X k e := ⟨h, .ofET h p⟩
theorem rt {it : It} (h : RT X k it) : IR X k it := ⟨IT.ofR h, fun _ => h⟩
theorem soundE (B : Base X) (e : E) : EB X k e :=
 E.rec (motive_1 := EB X k) (motive_2 := EsT X k) (motive_3 := IR X k) (motive_4 := GsT X k)
  (fun a => pr (ET.v _) ptName)
  (fun a => pr (ET.int _) ptConst)
  (fun a => pr (ET.bool _) ptConst)
  (fun a => pr (ET.str _) ptConst)
  (pr (ET.none) ptConst)
  (fun a => pr (ET.neg _) ptNeg)
  (pr (ET.nowhere B) ptName)
  (fun a0 a b h1 h2 => pr (ET.bin (op := a0) h1.e h2.e) ptBin)
  (fun a b c h0 h2 => ⟨ET.cmp h0.e h2.e, BT.cmp h0.e h2.e⟩)
  (fun a b c d e h0 h2 h4 => ⟨ET.cmp2 h0.e h2.e h4.e, BT.cmp2 h0.e h2.e h4.e⟩)
  (fun a b h1 => ⟨ET.isnone h1.e, BT.isnone h1.e⟩)
  (fun a b h0 h1 => ⟨ET.and h0.e h1.e, BT.and h0.b h1.b⟩)
  (fun a b h0 h1 => ⟨ET.or h0.e h1.e, BT.or h0.b h1.b⟩)
  (fun a h0 => ⟨ET.not h0.e, BT.not h0.b⟩)
  (fun a b c h0 h1 h2 => ⟨ET.ite h0.b h1.e h2.e, BT.ite h0.b h1.b h2.b⟩)
  (fun a b h0 h1 => pr (ET.idx h0.e h1.e) ptSub)
  (fun a h0 => pr (ET.last h0.e) ptSub)
  (fun a b c h0 h1 h2 => pr (ET.slice h0.e h1.e h2.e) ptSub)
  (fun a h0 => pr (ET.rev h0.e) ptSub)
  (fun a b h0 => pr (ET.attr B h0.e) ptAttr)
  (fun a h0 => pr (ET.layers B h0.e) ptAttr)
  (fun a h0 => pr (ET.treesize B h0.e) ptAttr)
  (fun a h0 => pr (ET.tup h0) ptTup)
  (fun a h0 => pr (ET.lst h0) ptList)
  (fun a h0 => pr (ET.nlst h0) ptList)
  (pr (ET.ndict) ptDict)
  (fun a h0 => ⟨ET.frz h0.e, (fun h => (Bool.false_ne_true h).elim)⟩)
  (fun a b h1 => pr (ET.callf B h1) ptCall)
  (fun a b c h0 h2 => pr (ET.meth B h0.e h2) ptCall)
  (fun a b c h2 => pr (ET.cmeth B h2) ptCall)
  (fun a h0 => pr (ET.len B h0.e) ptCall)
  (fun a b h0 h1 => pr (ET.min2 B h0.e h1.e) ptCall)
  (fun a b h0 h1 => pr (ET.max2 B h0.e h1.e) ptCall)
  (fun a h0 => pr (ET.max1 B h0.e) ptCall)
  (fun a h0 => pr (ET.bytes B h0.e) ptCall)
  (fun a h0 => pr (ET.tuple B h0.e) ptCall)
  (fun a h0 => pr (ET.sorted B h0.e) ptCall)
  (fun a h0 => pr (ET.listr' B h0.r) ptCall)
  (fun a b h0 h1 => pr (ET.lappend B h0.e h1.e) ptCall)
  (fun a b c h0 h1 h2 => pr (ET.dget B h0.e h1.e h2.e) ptCall)
  (fun a b h0 h1 => pr (ET.lindex B h0.e h1.e) ptCall)
  (fun a b h0 h1 => pr (ET.nrep h0.e h1.e) ptBin)
  (fun a b h0 h1 => pr (ET.ncat h0.e h1.e) ptBin)
  (fun a b c h1 h2 => pr (ET.comp h1.e h2) ptComp)
  EsT.nil
  (fun a b h1 h2 => EsT.cons h1.e h2)
  (fun a h => ⟨IT.e h.e, fun h => (Bool.false_ne_true h).elim⟩)
  (fun a h => rt (RT.r1 B h.e))
  (fun a b h h2 => rt (RT.r2 B h.e h2.e))
  (fun a b c h h2 h3 => rt (RT.r3 B h.e h2.e h3.e))
  trivial
  (fun a b c d h1 h2 h3 => ⟨h1.i, h2.b, h3⟩) e
theorem soundI (h : ∀ e, EB X k e) (B : Base X) (it : It) : IR X k it := It.casesOn (motive_3 := IR X k) it (fun a => ⟨IT.e (h a).e, fun h => (Bool.false_ne_true h).elim⟩) (fun a => rt (RT.r1 B (h a).e)) (fun a b => rt (RT.r2 B (h a).e (h b).e)) (fun a b c => rt (RT.r3 B (h a).e (h b).e (h c).e))
theorem soundG (h : ∀ e, EB X k e) (B : Base X) : ∀ gs, GsT X k gs
 | .nil => trivial
 | .cons _ it c r => ⟨(soundI h B it).i, (h c).b, soundG h B r⟩
theorem sounds (B : Base X) : (∀ e, EB X k e) ∧ (∀ it, IR X k it) ∧ ∀ gs, GsT X k gs := have h := soundE B; ⟨h, soundI h B, soundG h B⟩
theorem soundSs (B : Base X) (st : Ss) : SsT X k st :=
 have h := sounds (k := k) B
 Ss.rec (motive_1 := fun st => ST X k st) (motive_2 := fun ss => SsT X k ss) (fun _ e => ST.asg (h.1 e).e fun _ elt gs _ => ⟨(h.1 elt).e, h.2.2 gs⟩) (fun o _ e => ST.setattr B (h.1 o).e (h.1 e).e) (fun o i e => ST.setidx (h.1 o).e (h.1 i).e (h.1 e).e) (fun _ _ e => ST.aug (h.1 e).e)
  (fun c _ _ h1 h2 => ST.ife (h.1 c).b h1 h2) (fun _ it _ h1 => ST.forr (h.2.1 it).i h1) (fun c _ h1 => ST.wh (h.1 c).b h1) (fun e => ST.ret (h.1 e).e) ST.retn ST.brk ST.pass ST.raise (fun e => ST.expr (h.1 e).e)
  SsT.nil (fun _ _ h1 h2 => SsT.cons h1 h2) (fun _ _ h1 => SsT.fz h1) st
end
end Mine
end

section
open PySem PySem.Calls PyProof.Rows PySem.W
set_option maxRecDepth 20000
namespace Mine
noncomputable def f_PlaceRow_init_t1 : Ss := (.cons (.setattr (.v 0) 3 (.nrep .nowhere (.len (.v 1)))) .nil)
noncomputable def f_PlaceRow_init_t2 : Ss := (.cons (.setattr (.v 0) 2 .ndict) f_PlaceRow_init_t1)
noncomputable def f_PlaceRow_init_t3 : Ss := (.cons (.setattr (.v 0) 1 (.v 2)) f_PlaceRow_init_t2)
noncomputable def f_PlaceRow_init_t4 : Ss := (.cons (.setattr (.v 0) 0 (.v 1)) f_PlaceRow_init_t3)
noncomputable def f_PlaceRow_init_b : Ss := (.cons (.ife (.cmp (.v 2) .lt (.int 1)) (.cons .raise .nil) .nil) f_PlaceRow_init_t4)
noncomputable def f_PlaceRow_init : Fn := ⟨[("self", 0), ("octets", 1), ("size", 2)], 3, 3, f_PlaceRow_init_b⟩
noncomputable def f_PlaceRow_key_b1 : Ss := (.cons (.asg (.v 2) (.bin .add (.bin .mul (.v 2) (.int 256)) (.v 3))) .nil)
noncomputable def f_PlaceRow_key_t1 : Ss := (.cons (.ret (.v 2)) .nil)
noncomputable def f_PlaceRow_key_t2 : Ss := (.cons (.forr (.v 3) (.e (.slice (.attr (.v 0) 0) (.v 1) (.bin .add (.v 1) (.attr (.v 0) 1)))) f_PlaceRow_key_b1) f_PlaceRow_key_t1)
noncomputable def f_PlaceRow_key_t3 : Ss := (.cons (.asg (.v 2) (.int 0)) f_PlaceRow_key_t2)
noncomputable def f_PlaceRow_key_t4 : Ss := (.cons (.ife (.cmp (.bin .add (.v 1) (.attr (.v 0) 1)) .gt (.len (.attr (.v 0) 0))) (.cons (.ret .none) .nil) .nil) f_PlaceRow_key_t3)
noncomputable def f_PlaceRow_key_b : Ss := (.cons (.ife (.not (.cmp2 (.int 0) .le (.v 1) .le (.len (.attr (.v 0) 0)))) (.cons .raise .nil) .nil) f_PlaceRow_key_t4)
noncomputable def f_PlaceRow_key : Fn := ⟨[("self", 0), ("place", 1), ("number", 2), ("octet", 3)], 2, 4, f_PlaceRow_key_b⟩
noncomputable def f_PlaceRow_put_t1 : Ss := (.cons (.setidx (.attr (.v 0) 2) (.v 2) (.v 1)) .nil)
noncomputable def f_PlaceRow_put_t2 : Ss := (.cons (.ife (.isnone true (.v 2)) (.cons (.setidx (.attr (.v 0) 3) (.v 1) (.dget (.attr (.v 0) 2) (.v 2) .nowhere)) f_PlaceRow_put_t1) .nil) .nil)
noncomputable def f_PlaceRow_put_b : Ss := (.cons (.asg (.v 2) (.meth (.v 0) 14 (.cons (.v 1) .nil))) f_PlaceRow_put_t2)
noncomputable def f_PlaceRow_put : Fn := ⟨[("self", 0), ("place", 1), ("number", 2)], 2, 3, f_PlaceRow_put_b⟩
noncomputable def f_PlaceRow_newest_c1 : E := (.cmp (.v 3) .ge (.v 1))
noncomputable def f_PlaceRow_newest_b2 : Ss := (.cons (.asg (.v 3) (.idx (.attr (.v 0) 3) (.v 3))) .nil)
noncomputable def f_PlaceRow_newest_t1 : Ss := (.cons (.ret (.v 3)) .nil)
noncomputable def f_PlaceRow_newest_t2 : Ss := (.cons (.wh f_PlaceRow_newest_c1 f_PlaceRow_newest_b2) f_PlaceRow_newest_t1)
noncomputable def f_PlaceRow_newest_t3 : Ss := (.cons (.asg (.v 3) (.dget (.attr (.v 0) 2) (.v 2) .nowhere)) f_PlaceRow_newest_t2)
noncomputable def f_PlaceRow_newest_t4 : Ss := (.cons (.ife (.isnone false (.v 2)) (.cons (.ret .nowhere) .nil) .nil) f_PlaceRow_newest_t3)
noncomputable def f_PlaceRow_newest_b : Ss := (.cons (.asg (.v 2) (.meth (.v 0) 14 (.cons (.v 1) .nil))) f_PlaceRow_newest_t4)
noncomputable def f_PlaceRow_newest : Fn := ⟨[("self", 0), ("place", 1), ("number", 2), ("other", 3)], 2, 4, f_PlaceRow_newest_b⟩
noncomputable def f_Matcher_init_t1 : Ss := (.cons (.setattr (.v 0) 7 (.int 0)) .nil)
noncomputable def f_Matcher_init_t2 : Ss := (.cons (.setattr (.v 0) 6 (.v 4)) f_Matcher_init_t1)
noncomputable def f_Matcher_init_t3 : Ss := (.cons (.setattr (.v 0) 5 (.v 3)) f_Matcher_init_t2)
noncomputable def f_Matcher_init_t4 : Ss := (.cons (.setattr (.v 0) 4 (.v 2)) f_Matcher_init_t3)
noncomputable def f_Matcher_init_t5 : Ss := (.cons (.setattr (.v 0) 0 (.bytes (.v 1))) f_Matcher_init_t4)
noncomputable def f_Matcher_init_t6 : Ss := (.cons (.ife (.cmp (.v 4) .lt (.int 1)) (.cons .raise .nil) .nil) f_Matcher_init_t5)
noncomputable def f_Matcher_init_t7 : Ss := (.cons (.ife (.cmp (.v 3) .lt (.int 1)) (.cons .raise .nil) .nil) f_Matcher_init_t6)
noncomputable def f_Matcher_init_b : Ss := (.cons (.ife (.cmp (.v 2) .lt (.int 1)) (.cons .raise .nil) .nil) f_Matcher_init_t7)
noncomputable def f_Matcher_init : Fn := ⟨[("self", 0), ("octets", 1), ("least", 2), ("window", 3), ("chain", 4)], 5, 5, f_Matcher_init_b⟩
noncomputable def f_Matcher_put_t1 : Ss := (.cons (.expr (.meth (.v 0) 17 (.cons (.v 1) .nil))) .nil)
noncomputable def f_Matcher_put_t2 : Ss := (.cons (.setattr (.v 0) 7 (.bin .add (.v 1) (.int 1))) f_Matcher_put_t1)
noncomputable def f_Matcher_put_b : Ss := (.cons (.ife (.or (.cmp (.v 1) .lt (.attr (.v 0) 7)) (.cmp (.v 1) .ge (.len (.attr (.v 0) 0)))) (.cons .raise .nil) .nil) f_Matcher_put_t2)
noncomputable def f_Matcher_put : Fn := ⟨[("self", 0), ("place", 1)], 2, 2, f_Matcher_put_b⟩
noncomputable def f_Matcher_enter_b : Ss := (.cons .pass .nil)
noncomputable def f_Matcher_enter : Fn := ⟨[("self", 0), ("place", 1)], 2, 2, f_Matcher_enter_b⟩
noncomputable def f_Matcher_limit_b : Ss := (.cons (.ret (.min2 (.v 2) (.bin .sub (.len (.attr (.v 0) 0)) (.v 1)))) .nil)
noncomputable def f_Matcher_limit : Fn := ⟨[("self", 0), ("place", 1), ("most", 2)], 3, 3, f_Matcher_limit_b⟩
noncomputable def f_Matcher_length_t1 : Ss := (.cons (.ret (.meth (.v 0) 20 (.cons (.v 1) (.cons (.v 2) (.cons (.int 0) (.cons (.meth (.v 0) 18 (.cons (.v 1) (.cons (.v 3) .nil))) .nil)))))) .nil)
noncomputable def f_Matcher_length_b : Ss := (.cons (.ife (.not (.cmp2 (.int 0) .le (.v 2) .lt (.v 1))) (.cons .raise .nil) .nil) f_Matcher_length_t1)
noncomputable def f_Matcher_length : Fn := ⟨[("self", 0), ("place", 1), ("other", 2), ("most", 3)], 4, 4, f_Matcher_length_b⟩
noncomputable def f_Matcher_alike_c1 : E := (.and (.cmp (.v 3) .lt (.v 4)) (.cmp (.idx (.v 5) (.bin .add (.v 1) (.v 3))) .eq (.idx (.v 5) (.bin .add (.v 2) (.v 3)))))
noncomputable def f_Matcher_alike_b2 : Ss := (.cons (.aug 3 .add (.int 1)) .nil)
noncomputable def f_Matcher_alike_t1 : Ss := (.cons (.ret (.v 3)) .nil)
noncomputable def f_Matcher_alike_t2 : Ss := (.cons (.wh f_Matcher_alike_c1 f_Matcher_alike_b2) f_Matcher_alike_t1)
noncomputable def f_Matcher_alike_b : Ss := (.cons (.asg (.v 5) (.attr (.v 0) 0)) f_Matcher_alike_t2)
noncomputable def f_Matcher_alike : Fn := ⟨[("self", 0), ("place", 1), ("other", 2), ("known", 3), ("limit", 4), ("octets", 5)], 5, 6, f_Matcher_alike_b⟩
noncomputable def f_Matcher_is_near_b : Ss := (.cons (.ret (.and (.cmp (.v 2) .ne .nowhere) (.cmp (.bin .sub (.v 1) (.v 2)) .le (.attr (.v 0) 5)))) .nil)
noncomputable def f_Matcher_is_near : Fn := ⟨[("self", 0), ("place", 1), ("other", 2)], 3, 3, f_Matcher_is_near_b⟩
noncomputable def f_Matcher_every_b : Ss := (.cons (.ret (.lst .nil)) .nil)
noncomputable def f_Matcher_every : Fn := ⟨[("self", 0), ("place", 1), ("most", 2)], 3, 3, f_Matcher_every_b⟩
noncomputable def f_Matcher_best_t1 : Ss := (.cons (.ret (.ite (.cmp (.len (.v 3)) .gt (.int 0)) (.last (.v 3)) (.tup (.cons (.int 0) (.cons (.int 0) .nil))))) .nil)
noncomputable def f_Matcher_best_b : Ss := (.cons (.asg (.v 3) (.meth (.v 0) 22 (.cons (.v 1) (.cons (.v 2) .nil)))) f_Matcher_best_t1)
noncomputable def f_Matcher_best : Fn := ⟨[("self", 0), ("place", 1), ("most", 2), ("found", 3)], 3, 4, f_Matcher_best_b⟩
noncomputable def f_Finder_init_t1 : Ss := (.cons (.setattr (.v 0) 8 (.callf 0 (.cons (.attr (.v 0) 0) (.cons (.v 2) .nil)))) .nil)
noncomputable def f_Finder_init_b : Ss := (.cons (.expr (.cmeth 1 27 (.cons (.v 0) (.cons (.v 1) (.cons (.v 2) (.cons (.v 3) (.cons (.v 4) .nil))))))) f_Finder_init_t1)
noncomputable def f_Finder_init : Fn := ⟨[("self", 0), ("octets", 1), ("least", 2), ("window", 3), ("chain", 4)], 5, 5, f_Finder_init_b⟩
noncomputable def f_Finder_enter_b : Ss := (.cons (.expr (.meth (.attr (.v 0) 8) 15 (.cons (.v 1) .nil))) .nil)
noncomputable def f_Finder_enter : Fn := ⟨[("self", 0), ("place", 1)], 2, 2, f_Finder_enter_b⟩
noncomputable def f_Finder_candidates_c1 : E := (.and (.meth (.v 0) 21 (.cons (.v 1) (.cons (.v 3) .nil))) (.cmp (.len (.v 2)) .lt (.attr (.v 0) 6)))
noncomputable def f_Finder_candidates_t1 : Ss := (.cons (.asg (.v 3) (.idx (.attr (.attr (.v 0) 8) 3) (.v 3))) .nil)
noncomputable def f_Finder_candidates_b2 : Ss := (.cons (.expr (.lappend (.v 2) (.v 3))) f_Finder_candidates_t1)
noncomputable def f_Finder_candidates_t2 : Ss := (.cons (.ret (.frz (.v 2))) .nil)
noncomputable def f_Finder_candidates_t3 : Ss := (.cons (.wh f_Finder_candidates_c1 f_Finder_candidates_b2) f_Finder_candidates_t2)
noncomputable def f_Finder_candidates_t4 : Ss := (.cons (.asg (.v 3) (.meth (.attr (.v 0) 8) 16 (.cons (.v 1) .nil))) f_Finder_candidates_t3)
noncomputable def f_Finder_candidates_b : Ss := (.cons (.asg (.v 2) (.nlst .nil)) f_Finder_candidates_t4)
noncomputable def f_Finder_candidates : Fn := ⟨[("self", 0), ("place", 1), ("found", 2), ("other", 3)], 2, 4, f_Finder_candidates_b⟩
noncomputable def f_Finder_every_t1 : Ss := (.cons (.asg (.v 5) (.v 7)) .nil)
noncomputable def f_Finder_every_t2 : Ss := (.cons (.ife (.cmp (.v 7) .gt (.v 5)) (.cons (.expr (.lappend (.v 3) (.tup (.cons (.v 7) (.cons (.bin .sub (.v 1) (.v 6)) .nil))))) f_Finder_every_t1) .nil) .nil)
noncomputable def f_Finder_every_t3 : Ss := (.cons (.ife (.cmp (.idx (.attr (.v 0) 0) (.bin .add (.v 6) (.v 5))) .eq (.idx (.attr (.v 0) 0) (.bin .add (.v 1) (.v 5)))) (.cons (.asg (.v 7) (.meth (.v 0) 20 (.cons (.v 1) (.cons (.v 6) (.cons (.int 0) (.cons (.v 4) .nil)))))) f_Finder_every_t2) .nil) .nil)
noncomputable def f_Finder_every_b1 : Ss := (.cons (.ife (.cmp (.v 5) .ge (.v 4)) (.cons .brk .nil) .nil) f_Finder_every_t3)
noncomputable def f_Finder_every_t4 : Ss := (.cons (.ret (.frz (.v 3))) .nil)
noncomputable def f_Finder_every_t5 : Ss := (.cons (.forr (.v 6) (.e (.meth (.v 0) 24 (.cons (.v 1) .nil))) f_Finder_every_b1) f_Finder_every_t4)
noncomputable def f_Finder_every_t6 : Ss := (.cons (.asg (.v 5) (.bin .sub (.attr (.v 0) 4) (.int 1))) f_Finder_every_t5)
noncomputable def f_Finder_every_b : Ss := (.cons (.asg (.tup [3, 4]) (.tup (.cons (.nlst .nil) (.cons (.meth (.v 0) 18 (.cons (.v 1) (.cons (.v 2) .nil))) .nil)))) f_Finder_every_t6)
noncomputable def f_Finder_every : Fn := ⟨[("self", 0), ("place", 1), ("most", 2), ("found", 3), ("limit", 4), ("longest", 5), ("other", 6), ("count", 7)], 3, 8, f_Finder_every_b⟩
noncomputable def f_TreeFinder_init_t1 : Ss := (.cons (.setattr (.v 0) 11 (.nrep .nowhere (.len (.attr (.v 0) 0)))) .nil)
noncomputable def f_TreeFinder_init_t2 : Ss := (.cons (.setattr (.v 0) 10 (.nrep .nowhere (.len (.attr (.v 0) 0)))) f_TreeFinder_init_t1)
noncomputable def f_TreeFinder_init_t3 : Ss := (.cons (.setattr (.v 0) 9 .ndict) f_TreeFinder_init_t2)
noncomputable def f_TreeFinder_init_t4 : Ss := (.cons (.setattr (.v 0) 8 (.callf 0 (.cons (.attr (.v 0) 0) (.cons (.v 2) .nil)))) f_TreeFinder_init_t3)
noncomputable def f_TreeFinder_init_b : Ss := (.cons (.expr (.cmeth 1 27 (.cons (.v 0) (.cons (.v 1) (.cons (.v 2) (.cons (.v 3) (.cons (.v 4) .nil))))))) f_TreeFinder_init_t4)
noncomputable def f_TreeFinder_init : Fn := ⟨[("self", 0), ("octets", 1), ("least", 2), ("window", 3), ("chain", 4)], 5, 5, f_TreeFinder_init_b⟩
noncomputable def f_TreeFinder_hang_b : Ss := (.cons (.ife (.v 2) (.cons (.setidx (.attr (.v 0) 11) (.v 1) (.v 3)) .nil) (.cons (.setidx (.attr (.v 0) 10) (.v 1) (.v 3)) .nil)) .nil)
noncomputable def f_TreeFinder_hang : Fn := ⟨[("self", 0), ("owner", 1), ("is_greater", 2), ("place", 3)], 4, 4, f_TreeFinder_hang_b⟩
noncomputable def f_TreeFinder_enter_t1 : Ss := (.cons (.expr (.meth (.v 0) 26 (.cons (.v 1) (.cons (.v 3) .nil)))) .nil)
noncomputable def f_TreeFinder_enter_t2 : Ss := (.cons (.setidx (.attr (.v 0) 9) (.v 2) (.v 1)) f_TreeFinder_enter_t1)
noncomputable def f_TreeFinder_enter_t3 : Ss := (.cons (.asg (.v 3) (.dget (.attr (.v 0) 9) (.v 2) .nowhere)) f_TreeFinder_enter_t2)
noncomputable def f_TreeFinder_enter_t4 : Ss := (.cons (.ife (.isnone false (.v 2)) (.cons .retn .nil) .nil) f_TreeFinder_enter_t3)
noncomputable def f_TreeFinder_enter_b : Ss := (.cons (.asg (.v 2) (.meth (.attr (.v 0) 8) 14 (.cons (.v 1) .nil))) f_TreeFinder_enter_t4)
noncomputable def f_TreeFinder_enter : Fn := ⟨[("self", 0), ("place", 1), ("number", 2), ("other", 3)], 2, 4, f_TreeFinder_enter_b⟩
noncomputable def f_TreeFinder_part_c1 : E := (.and (.meth (.v 0) 21 (.cons (.v 1) (.cons (.v 2) .nil))) (.cmp (.v 4) .lt (.attr (.v 0) 6)))
noncomputable def f_TreeFinder_part_t1 : Ss := (.cons .retn .nil)
noncomputable def f_TreeFinder_part_t2 : Ss := (.cons (.expr (.meth (.v 0) 25 (.cons (.v 8) (.cons (.v 9) (.cons (.idx (.attr (.v 0) 11) (.v 2)) .nil))))) f_TreeFinder_part_t1)
noncomputable def f_TreeFinder_part_t3 : Ss := (.cons (.asg (.v 2) (.idx (.attr (.v 0) 11) (.v 2))) .nil)
noncomputable def f_TreeFinder_part_t4 : Ss := (.cons (.asg (.tup [5, 6, 7]) (.tup (.cons (.v 2) (.cons (.bool true) (.cons (.v 11) .nil))))) f_TreeFinder_part_t3)
noncomputable def f_TreeFinder_part_t5 : Ss := (.cons (.asg (.v 2) (.idx (.attr (.v 0) 10) (.v 2))) .nil)
noncomputable def f_TreeFinder_part_t6 : Ss := (.cons (.asg (.tup [8, 9, 10]) (.tup (.cons (.v 2) (.cons (.bool false) (.cons (.v 11) .nil))))) f_TreeFinder_part_t5)
noncomputable def f_TreeFinder_part_t7 : Ss := (.cons (.ife (.cmp (.idx (.attr (.v 0) 0) (.bin .add (.v 2) (.v 11))) .lt (.idx (.attr (.v 0) 0) (.bin .add (.v 1) (.v 11)))) (.cons (.expr (.meth (.v 0) 25 (.cons (.v 5) (.cons (.v 6) (.cons (.v 2) .nil))))) f_TreeFinder_part_t4) (.cons (.expr (.meth (.v 0) 25 (.cons (.v 8) (.cons (.v 9) (.cons (.v 2) .nil))))) f_TreeFinder_part_t6)) .nil)
noncomputable def f_TreeFinder_part_t8 : Ss := (.cons (.ife (.cmp (.v 11) .eq (.v 3)) (.cons (.expr (.meth (.v 0) 25 (.cons (.v 5) (.cons (.v 6) (.cons (.idx (.attr (.v 0) 10) (.v 2)) .nil))))) f_TreeFinder_part_t2) .nil) f_TreeFinder_part_t7)
noncomputable def f_TreeFinder_part_t9 : Ss := (.cons (.asg (.v 11) (.meth (.v 0) 20 (.cons (.v 1) (.cons (.v 2) (.cons (.min2 (.v 7) (.v 10)) (.cons (.v 3) .nil)))))) f_TreeFinder_part_t8)
noncomputable def f_TreeFinder_part_b2 : Ss := (.cons (.aug 4 .add (.int 1)) f_TreeFinder_part_t9)
noncomputable def f_TreeFinder_part_t10 : Ss := (.cons (.expr (.meth (.v 0) 25 (.cons (.v 8) (.cons (.v 9) (.cons .nowhere .nil))))) .nil)
noncomputable def f_TreeFinder_part_t11 : Ss := (.cons (.expr (.meth (.v 0) 25 (.cons (.v 5) (.cons (.v 6) (.cons .nowhere .nil))))) f_TreeFinder_part_t10)
noncomputable def f_TreeFinder_part_t12 : Ss := (.cons (.wh f_TreeFinder_part_c1 f_TreeFinder_part_b2) f_TreeFinder_part_t11)
noncomputable def f_TreeFinder_part_t13 : Ss := (.cons (.asg (.tup [8, 9, 10]) (.tup (.cons (.v 1) (.cons (.bool true) (.cons (.int 0) .nil))))) f_TreeFinder_part_t12)
noncomputable def f_TreeFinder_part_t14 : Ss := (.cons (.asg (.tup [5, 6, 7]) (.tup (.cons (.v 1) (.cons (.bool false) (.cons (.int 0) .nil))))) f_TreeFinder_part_t13)
noncomputable def f_TreeFinder_part_b : Ss := (.cons (.asg (.tup [3, 4]) (.tup (.cons (.bin .sub (.len (.attr (.v 0) 0)) (.v 1)) (.cons (.int 0) .nil)))) f_TreeFinder_part_t14)
noncomputable def f_TreeFinder_part : Fn := ⟨[("self", 0), ("place", 1), ("other", 2), ("limit", 3), ("steps", 4), ("low", 5), ("low_is_greater", 6), ("low_count", 7), ("high", 8), ("high_is_greater", 9), ("high_count", 10), ("count", 11)], 3, 12, f_TreeFinder_part_b⟩
noncomputable def f_TreeFinder_every_c1 : E := (.and (.meth (.v 0) 21 (.cons (.v 1) (.cons (.v 10) .nil))) (.and (.cmp (.v 7) .lt (.attr (.v 0) 6)) (.cmp (.v 6) .lt (.v 5))))
noncomputable def f_TreeFinder_every_t1 : Ss := (.cons (.asg (.v 6) (.v 11)) .nil)
noncomputable def f_TreeFinder_every_t2 : Ss := (.cons (.ife (.cmp (.v 11) .lt (.v 5)) (.cons (.ife (.cmp (.idx (.attr (.v 0) 0) (.bin .add (.v 10) (.v 11))) .lt (.idx (.attr (.v 0) 0) (.bin .add (.v 1) (.v 11)))) (.cons (.asg (.tup [8, 10]) (.tup (.cons (.v 11) (.cons (.idx (.attr (.v 0) 11) (.v 10)) .nil)))) .nil) (.cons (.asg (.tup [9, 10]) (.tup (.cons (.v 11) (.cons (.idx (.attr (.v 0) 10) (.v 10)) .nil)))) .nil)) .nil) .nil) .nil)
noncomputable def f_TreeFinder_every_t3 : Ss := (.cons (.ife (.cmp (.v 11) .gt (.v 6)) (.cons (.expr (.lappend (.v 4) (.tup (.cons (.v 11) (.cons (.bin .sub (.v 1) (.v 10)) .nil))))) f_TreeFinder_every_t1) .nil) f_TreeFinder_every_t2)
noncomputable def f_TreeFinder_every_t4 : Ss := (.cons (.asg (.v 11) (.meth (.v 0) 20 (.cons (.v 1) (.cons (.v 10) (.cons (.min2 (.v 8) (.v 9)) (.cons (.v 5) .nil)))))) f_TreeFinder_every_t3)
noncomputable def f_TreeFinder_every_b2 : Ss := (.cons (.aug 7 .add (.int 1)) f_TreeFinder_every_t4)
noncomputable def f_TreeFinder_every_t5 : Ss := (.cons (.ret (.frz (.v 4))) .nil)
noncomputable def f_TreeFinder_every_t6 : Ss := (.cons (.wh f_TreeFinder_every_c1 f_TreeFinder_every_b2) f_TreeFinder_every_t5)
noncomputable def f_TreeFinder_every_t7 : Ss := (.cons (.asg (.v 10) (.dget (.attr (.v 0) 9) (.v 3) .nowhere)) f_TreeFinder_every_t6)
noncomputable def f_TreeFinder_every_t8 : Ss := (.cons (.asg (.tup [8, 9]) (.tup (.cons (.int 0) (.cons (.int 0) .nil)))) f_TreeFinder_every_t7)
noncomputable def f_TreeFinder_every_t9 : Ss := (.cons (.asg (.tup [6, 7]) (.tup (.cons (.bin .sub (.attr (.v 0) 4) (.int 1)) (.cons (.int 0) .nil)))) f_TreeFinder_every_t8)
noncomputable def f_TreeFinder_every_t10 : Ss := (.cons (.asg (.tup [4, 5]) (.tup (.cons (.nlst .nil) (.cons (.meth (.v 0) 18 (.cons (.v 1) (.cons (.v 2) .nil))) .nil)))) f_TreeFinder_every_t9)
noncomputable def f_TreeFinder_every_t11 : Ss := (.cons (.ife (.isnone false (.v 3)) (.cons (.ret (.lst .nil)) .nil) .nil) f_TreeFinder_every_t10)
noncomputable def f_TreeFinder_every_t12 : Ss := (.cons (.asg (.v 3) (.meth (.attr (.v 0) 8) 14 (.cons (.v 1) .nil))) f_TreeFinder_every_t11)
noncomputable def f_TreeFinder_every_b : Ss := (.cons (.ife (.cmp (.v 1) .lt (.attr (.v 0) 7)) (.cons .raise .nil) .nil) f_TreeFinder_every_t12)
noncomputable def f_TreeFinder_every : Fn := ⟨[("self", 0), ("place", 1), ("most", 2), ("number", 3), ("found", 4), ("limit", 5), ("longest", 6), ("steps", 7), ("low_count", 8), ("high_count", 9), ("other", 10), ("count", 11)], 3, 12, f_TreeFinder_every_b⟩
noncomputable def f_LayeredFinder_init_t1 : Ss := (.cons (.setattr (.v 0) 13 (.callf 3 (.cons (.attr (.v 0) 0) (.cons (.treesize (.v 0)) (.cons (.v 2) (.cons (.v 3) .nil)))))) .nil)
noncomputable def f_LayeredFinder_init_t2 : Ss := (.cons (.setattr (.v 0) 12 (.comp false (.callf 0 (.cons (.attr (.v 0) 0) (.cons (.v 4) .nil))) (.cons (.v 4) (.e (.layers (.v 0))) (.bool true) .nil))) f_LayeredFinder_init_t1)
noncomputable def f_LayeredFinder_init_b : Ss := (.cons (.expr (.cmeth 1 27 (.cons (.v 0) (.cons (.v 1) (.cons (.idx (.layers (.v 0)) (.int 0)) (.cons (.v 2) (.cons (.v 3) .nil))))))) f_LayeredFinder_init_t2)
noncomputable def f_LayeredFinder_init : Fn := ⟨[("self", 0), ("octets", 1), ("window", 2), ("chain", 3)], 4, 5, f_LayeredFinder_init_b⟩
noncomputable def f_LayeredFinder_enter_b1 : Ss := (.cons (.expr (.meth (.v 2) 15 (.cons (.v 1) .nil))) .nil)
noncomputable def f_LayeredFinder_enter_t1 : Ss := (.cons (.expr (.meth (.attr (.v 0) 13) 15 (.cons (.v 1) .nil))) .nil)
noncomputable def f_LayeredFinder_enter_b : Ss := (.cons (.forr (.v 2) (.e (.attr (.v 0) 12)) f_LayeredFinder_enter_b1) f_LayeredFinder_enter_t1)
noncomputable def f_LayeredFinder_enter : Fn := ⟨[("self", 0), ("place", 1), ("row", 2)], 2, 3, f_LayeredFinder_enter_b⟩
noncomputable def f_LayeredFinder_every_t1 : Ss := (.cons (.asg (.v 5) (.v 8)) .nil)
noncomputable def f_LayeredFinder_every_t2 : Ss := (.cons (.ife (.cmp (.v 8) .gt (.v 5)) (.cons (.expr (.lappend (.v 4) (.tup (.cons (.v 8) (.cons (.bin .sub (.v 1) (.v 7)) .nil))))) f_LayeredFinder_every_t1) .nil) .nil)
noncomputable def f_LayeredFinder_every_t3 : Ss := (.cons (.ife (.meth (.v 0) 21 (.cons (.v 1) (.cons (.v 7) .nil))) (.cons (.asg (.v 8) (.meth (.v 0) 20 (.cons (.v 1) (.cons (.v 7) (.cons (.int 0) (.cons (.v 3) .nil)))))) f_LayeredFinder_every_t2) .nil) .nil)
noncomputable def f_LayeredFinder_every_b1 : Ss := (.cons (.asg (.v 7) (.meth (.v 6) 16 (.cons (.v 1) .nil))) f_LayeredFinder_every_t3)
noncomputable def f_LayeredFinder_every_t4 : Ss := (.cons (.asg (.v 5) (.v 8)) .nil)
noncomputable def f_LayeredFinder_every_b2 : Ss := (.cons (.ife (.cmp (.v 8) .gt (.v 5)) (.cons (.expr (.lappend (.v 4) (.tup (.cons (.v 8) (.cons (.v 9) .nil))))) f_LayeredFinder_every_t4) .nil) .nil)
noncomputable def f_LayeredFinder_every_t5 : Ss := (.cons (.ret (.frz (.v 4))) .nil)
noncomputable def f_LayeredFinder_every_t6 : Ss := (.cons (.forr (.tup [8, 9]) (.e (.meth (.attr (.v 0) 13) 22 (.cons (.v 1) (.cons (.v 2) .nil)))) f_LayeredFinder_every_b2) f_LayeredFinder_every_t5)
noncomputable def f_LayeredFinder_every_t7 : Ss := (.cons (.forr (.v 6) (.e (.attr (.v 0) 12)) f_LayeredFinder_every_b1) f_LayeredFinder_every_t6)
noncomputable def f_LayeredFinder_every_t8 : Ss := (.cons (.asg (.tup [4, 5]) (.tup (.cons (.nlst .nil) (.cons (.bin .sub (.attr (.v 0) 4) (.int 1)) .nil)))) f_LayeredFinder_every_t7)
noncomputable def f_LayeredFinder_every_b : Ss := (.cons (.asg (.v 3) (.meth (.v 0) 18 (.cons (.v 1) (.cons (.v 2) .nil)))) f_LayeredFinder_every_t8)
noncomputable def f_LayeredFinder_every : Fn := ⟨[("self", 0), ("place", 1), ("most", 2), ("limit", 3), ("found", 4), ("longest", 5), ("row", 6), ("other", 7), ("count", 8), ("distance", 9)], 3, 10, f_LayeredFinder_every_b⟩
noncomputable def f_finder_for_t1 : Ss := (.cons .raise .nil)
noncomputable def f_finder_for_t2 : Ss := (.cons (.ife (.cmp (.v 0) .eq (.str "layers")) (.cons (.ret (.callf 4 (.cons (.v 1) (.cons (.v 3) (.cons (.v 4) .nil))))) .nil) .nil) f_finder_for_t1)
noncomputable def f_finder_for_t3 : Ss := (.cons (.ife (.cmp (.v 0) .eq (.str "tree")) (.cons (.ret (.callf 3 (.cons (.v 1) (.cons (.v 2) (.cons (.v 3) (.cons (.v 4) .nil)))))) .nil) .nil) f_finder_for_t2)
noncomputable def f_finder_for_b : Ss := (.cons (.ife (.cmp (.v 0) .eq (.str "chain")) (.cons (.ret (.callf 2 (.cons (.v 1) (.cons (.v 2) (.cons (.v 3) (.cons (.v 4) .nil)))))) .nil) .nil) f_finder_for_t3)
noncomputable def f_finder_for : Fn := ⟨[("way", 0), ("octets", 1), ("least", 2), ("window", 3), ("chain", 4)], 5, 5, f_finder_for_b⟩
noncomputable def f_law_box_b1 : Ss := (.cons (.ife (.cmp (.v 3) .ge (.bin .pow (.int 10) (.int 18))) (.cons (.asg (.v 1) (.bin .sub (.bin .add (.v 1) (.v 3)) (.bin .pow (.int 10) (.int 18)))) .nil) (.cons (.asg (.v 2) (.bin .add (.int 1) (.bin .mod (.bin .add (.bin .mul (.v 2) (.int 1009)) (.v 3)) (.int 2147483629)))) .nil)) .nil)
noncomputable def f_law_box_t1 : Ss := (.cons (.ret (.nlst (.cons (.v 1) (.cons (.v 2) .nil)))) .nil)
noncomputable def f_law_box_t2 : Ss := (.cons (.forr (.v 3) (.e (.slice (.v 0) .none (.int 30))) f_law_box_b1) f_law_box_t1)
noncomputable def f_law_box_b : Ss := (.cons (.asg (.tup [1, 2]) (.tup (.cons (.int 0) (.cons (.int 1) .nil)))) f_law_box_t2)
noncomputable def f_law_box : Fn := ⟨[("script", 0), ("digits", 1), ("state", 2), ("cell", 3)], 1, 4, f_law_box_b⟩
noncomputable def f_law_take_t1 : Ss := (.cons (.ret (.v 2)) .nil)
noncomputable def f_law_take_t2 : Ss := (.cons (.setidx (.v 0) (.int 0) (.bin .fdiv (.idx (.v 0) (.int 0)) (.v 1))) f_law_take_t1)
noncomputable def f_law_take_t3 : Ss := (.cons (.ret (.bin .mod (.bin .fdiv (.idx (.v 0) (.int 1)) (.int 1024)) (.v 1))) .nil)
noncomputable def f_law_take_t4 : Ss := (.cons (.setidx (.v 0) (.int 1) (.bin .mod (.bin .mul (.idx (.v 0) (.int 1)) (.int 48271)) (.int 2147483647))) f_law_take_t3)
noncomputable def f_law_take_b : Ss := (.cons (.ife (.cmp (.idx (.v 0) (.int 0)) .gt (.int 0)) (.cons (.asg (.v 2) (.bin .mod (.idx (.v 0) (.int 0)) (.v 1))) f_law_take_t2) .nil) f_law_take_t4)
noncomputable def f_law_take : Fn := ⟨[("box", 0), ("many", 1), ("digit", 2)], 2, 3, f_law_take_b⟩
noncomputable def f_law_text_c1 : E := (.cmp (.len (.v 3)) .lt (.v 1))
noncomputable def f_law_text_t1 : Ss := (.cons (.asg (.v 3) (.ncat (.v 3) (.slice (.v 3) (.v 4) (.bin .add (.bin .add (.v 4) (.int 2)) (.callf 7 (.cons (.v 0) (.cons (.int 4) .nil))))))) .nil)
noncomputable def f_law_text_b2 : Ss := (.cons (.ife (.cmp (.callf 7 (.cons (.v 0) (.cons (.int 3) .nil))) .gt (.int 0)) (.cons (.asg (.v 4) (.callf 7 (.cons (.v 0) (.cons (.len (.v 3)) .nil)))) f_law_text_t1) (.cons (.expr (.lappend (.v 3) (.idx (.lst (.cons (.int 97) (.cons (.int 0) (.cons (.int 255) .nil)))) (.callf 7 (.cons (.v 0) (.cons (.v 2) .nil)))))) .nil)) .nil)
noncomputable def f_law_text_t2 : Ss := (.cons (.ret (.bytes (.slice (.v 3) .none (.v 1)))) .nil)
noncomputable def f_law_text_t3 : Ss := (.cons (.wh f_law_text_c1 f_law_text_b2) f_law_text_t2)
noncomputable def f_law_text_t4 : Ss := (.cons (.asg (.v 3) (.comp true (.idx (.lst (.cons (.int 97) (.cons (.int 0) (.cons (.int 255) .nil)))) (.callf 7 (.cons (.v 0) (.cons (.v 2) .nil)))) (.cons (.v 5) (.r1 (.bin .add (.int 2) (.callf 7 (.cons (.v 0) (.cons (.int 2) .nil))))) (.bool true) .nil))) f_law_text_t3)
noncomputable def f_law_text_b : Ss := (.cons (.asg (.v 2) (.idx (.lst (.cons (.int 3) (.cons (.int 2) (.cons (.int 3) (.cons (.int 2) (.cons (.int 1) .nil)))))) (.callf 7 (.cons (.v 0) (.cons (.int 5) .nil))))) f_law_text_t4)
noncomputable def f_law_text : Fn := ⟨[("box", 0), ("room", 1), ("letters", 2), ("found", 3), ("begin", 4)], 2, 6, f_law_text_b⟩
noncomputable def f_law_numbers_t1 : Ss := (.cons (.expr (.lappend (.v 1) (.v 2))) .nil)
noncomputable def f_law_numbers_b1 : Ss := (.cons (.asg (.v 2) (.bin .add (.bin .mul (.bin .add (.v 4) (.int 1)) (.v 3)) (.bin .fdiv (.v 2) (.int 257)))) f_law_numbers_t1)
noncomputable def f_law_numbers_t2 : Ss := (.cons (.ret (.rev (.v 1))) .nil)
noncomputable def f_law_numbers_t3 : Ss := (.cons (.forr (.v 4) (.e (.rev (.v 0))) f_law_numbers_b1) f_law_numbers_t2)
noncomputable def f_law_numbers_b : Ss := (.cons (.asg (.tup [1, 2, 3]) (.tup (.cons (.nlst .nil) (.cons (.int 0) (.cons (.bin .pow (.int 257) (.bin .sub (.len (.v 0)) (.int 1))) .nil))))) f_law_numbers_t3)
noncomputable def f_law_numbers : Fn := ⟨[("text", 0), ("found", 1), ("value", 2), ("weight", 3), ("octet", 4)], 1, 5, f_law_numbers_b⟩
noncomputable def f_law_common_c1 : E := (.cmp (.bin .fdiv (.v 0) (.bin .pow (.int 257) (.bin .sub (.bin .sub (.v 2) (.v 3)) (.int 1)))) .eq (.bin .fdiv (.v 1) (.bin .pow (.int 257) (.bin .sub (.bin .sub (.v 2) (.v 3)) (.int 1)))))
noncomputable def f_law_common_b2 : Ss := (.cons (.asg (.v 3) (.bin .add (.v 3) (.int 1))) .nil)
noncomputable def f_law_common_t1 : Ss := (.cons (.ret (.v 3)) .nil)
noncomputable def f_law_common_t2 : Ss := (.cons (.wh f_law_common_c1 f_law_common_b2) f_law_common_t1)
noncomputable def f_law_common_b : Ss := (.cons (.asg (.v 3) (.int 0)) f_law_common_t2)
noncomputable def f_law_common : Fn := ⟨[("one", 0), ("two", 1), ("size", 2), ("count", 3)], 3, 4, f_law_common_b⟩
noncomputable def f_law_order_t1 : Ss := (.cons (.ret (.tup (.cons (.v 3) (.cons (.comp false (.callf 10 (.cons (.idx (.v 2) (.idx (.v 3) (.v 7))) (.cons (.idx (.v 2) (.idx (.v 3) (.bin .add (.v 7) (.int 1)))) (.cons (.v 1) .nil)))) (.cons (.v 7) (.r1 (.bin .sub (.v 1) (.int 1))) (.bool true) .nil)) .nil)))) .nil)
noncomputable def f_law_order_t2 : Ss := (.cons (.asg (.v 3) (.comp false (.v 5) (.cons (.tup [4, 5]) (.e (.sorted (.comp false (.tup (.cons (.idx (.v 2) (.v 6)) (.cons (.v 6) .nil))) (.cons (.v 6) (.r1 (.v 1)) (.bool true) .nil)))) (.bool true) .nil))) f_law_order_t1)
noncomputable def f_law_order_b : Ss := (.cons (.asg (.tup [1, 2]) (.tup (.cons (.len (.v 0)) (.cons (.callf 9 (.cons (.v 0) .nil)) .nil)))) f_law_order_t2)
noncomputable def f_law_order : Fn := ⟨[("text", 0), ("size", 1), ("numbers", 2), ("order", 3)], 1, 8, f_law_order_b⟩
noncomputable def f_law_sides_t1 : Ss := (.cons (.ife (.cmp2 (.int 0) .lt (.bin .sub (.v 2) (.v 10)) .le (.v 3)) (.cons (.expr (.lappend (.v 8) (.tup (.cons (.v 7) (.cons (.v 10) .nil))))) .nil) .nil) .nil)
noncomputable def f_law_sides_t2 : Ss := (.cons (.asg (.v 10) (.ite (.cmp (.v 9) .lt (.v 4)) (.idx (.v 0) (.v 9)) (.idx (.v 0) (.bin .add (.v 9) (.int 1))))) f_law_sides_t1)
noncomputable def f_law_sides_b1 : Ss := (.cons (.asg (.v 7) (.min2 (.v 7) (.idx (.v 1) (.v 9)))) f_law_sides_t2)
noncomputable def f_law_sides_t3 : Ss := (.cons (.expr (.lappend (.v 5) (.frz (.v 8)))) .nil)
noncomputable def f_law_sides_t4 : Ss := (.cons (.forr (.v 9) (.e (.v 6)) f_law_sides_b1) f_law_sides_t3)
noncomputable def f_law_sides_b2 : Ss := (.cons (.asg (.tup [7, 8]) (.tup (.cons (.len (.v 0)) (.cons (.nlst .nil) .nil)))) f_law_sides_t4)
noncomputable def f_law_sides_t5 : Ss := (.cons (.ret (.frz (.v 5))) .nil)
noncomputable def f_law_sides_t6 : Ss := (.cons (.forr (.v 6) (.e (.lst (.cons (.listr (.r3 (.bin .sub (.v 4) (.int 1)) (.neg 1) (.neg 1))) (.cons (.listr (.r2 (.v 4) (.len (.v 1)))) .nil)))) f_law_sides_b2) f_law_sides_t5)
noncomputable def f_law_sides_b : Ss := (.cons (.asg (.tup [4, 5]) (.tup (.cons (.lindex (.v 0) (.v 2)) (.cons (.nlst .nil) .nil)))) f_law_sides_t6)
noncomputable def f_law_sides : Fn := ⟨[("order", 0), ("near", 1), ("place", 2), ("window", 3), ("row", 4), ("sides", 5), ("gaps", 6), ("common", 7), ("side", 8), ("gap", 9), ("other", 10)], 4, 11, f_law_sides_b⟩
noncomputable def f_law_longest_t1 : Ss := (.cons (.ret (.tup (.cons (.v 3) (.cons (.bin .sub (.v 1) (.max1 (.comp false (.v 7) (.cons (.v 5) (.e (.v 0)) (.bool true) (.cons (.tup [6, 7]) (.e (.v 5)) (.cmp (.v 6) .eq (.v 3)) .nil))))) .nil)))) .nil)
noncomputable def f_law_longest_t2 : Ss := (.cons (.ife (.cmp (.v 3) .lt (.v 2)) (.cons (.ret (.tup (.cons (.int 0) (.cons (.int 0) .nil)))) .nil) .nil) f_law_longest_t1)
noncomputable def f_law_longest_b : Ss := (.cons (.asg (.v 3) (.max1 (.bin .add (.lst (.cons (.int 0) .nil)) (.comp false (.idx (.idx (.v 4) (.int 0)) (.int 0)) (.cons (.v 4) (.e (.v 0)) (.cmp (.v 4) .ne (.lst .nil)) .nil))))) f_law_longest_t2)
noncomputable def f_law_longest : Fn := ⟨[("sides", 0), ("place", 1), ("shortest", 2), ("length", 3)], 3, 8, f_law_longest_b⟩
noncomputable def f_law_outwards_t1 : Ss := (.cons (.ife (.or (.cmp (.v 5) .eq (.lst .nil)) (.cmp (.idx (.last (.v 5)) (.int 1)) .ne (.bin .sub (.v 1) (.v 8)))) (.cons (.expr (.lappend (.v 5) (.tup (.cons (.min2 (.v 9) (.v 3)) (.cons (.bin .sub (.v 1) (.v 8)) .nil))))) .nil) .nil) .nil)
noncomputable def f_law_outwards_t2 : Ss := (.cons (.asg (.tup [8, 9]) (.max1 (.v 7))) f_law_outwards_t1)
noncomputable def f_law_outwards_t3 : Ss := (.cons (.ife (.cmp (.v 7) .eq (.lst .nil)) (.cons .brk .nil) .nil) f_law_outwards_t2)
noncomputable def f_law_outwards_b1 : Ss := (.cons (.asg (.v 7) (.comp false (.tup (.cons (.v 11) (.cons (.v 10) .nil))) (.cons (.tup [10, 11]) (.e (.v 4)) (.cmp (.v 10) .ge (.v 6)) .nil))) f_law_outwards_t3)
noncomputable def f_law_outwards_t4 : Ss := (.cons (.ret (.frz (.v 5))) .nil)
noncomputable def f_law_outwards_t5 : Ss := (.cons (.forr (.v 6) (.r2 (.v 2) (.bin .add (.v 3) (.int 1))) f_law_outwards_b1) f_law_outwards_t4)
noncomputable def f_law_outwards_b : Ss := (.cons (.asg (.tup [4, 5]) (.tup (.cons (.bin .add (.idx (.v 0) (.int 0)) (.idx (.v 0) (.int 1))) (.cons (.nlst .nil) .nil)))) f_law_outwards_t5)
noncomputable def f_law_outwards : Fn := ⟨[("sides", 0), ("place", 1), ("shortest", 2), ("most", 3), ("both", 4), ("found", 5), ("length", 6), ("some", 7), ("other", 8), ("common", 9)], 4, 12, f_law_outwards_b⟩
noncomputable def f_law_pairs_right_t1 : Ss := (.cons (.ife (.cmp (.meth (.v 0) 19 (.cons (.max2 (.v 7) (.v 8)) (.cons (.min2 (.v 7) (.v 8)) (.cons (.v 3) .nil)))) .ne (.min2 (.v 5) (.v 3))) (.cons (.ret (.bool false)) .nil) .nil) .nil)
noncomputable def f_law_pairs_right_t2 : Ss := (.cons (.asg (.tup [7, 8]) (.tup (.cons (.idx (.v 1) (.v 4)) (.cons (.idx (.v 1) (.v 6)) .nil)))) f_law_pairs_right_t1)
noncomputable def f_law_pairs_right_b1 : Ss := (.cons (.asg (.v 5) (.min2 (.v 5) (.idx (.v 2) (.bin .sub (.v 6) (.int 1))))) f_law_pairs_right_t2)
noncomputable def f_law_pairs_right_t3 : Ss := (.cons (.forr (.v 6) (.r2 (.bin .add (.v 4) (.int 1)) (.len (.v 1))) f_law_pairs_right_b1) .nil)
noncomputable def f_law_pairs_right_b2 : Ss := (.cons (.asg (.v 5) (.len (.v 1))) f_law_pairs_right_t3)
noncomputable def f_law_pairs_right_t4 : Ss := (.cons (.ret (.bool true)) .nil)
noncomputable def f_law_pairs_right_b : Ss := (.cons (.forr (.v 4) (.r1 (.len (.v 1))) f_law_pairs_right_b2) f_law_pairs_right_t4)
noncomputable def f_law_pairs_right : Fn := ⟨[("finder", 0), ("order", 1), ("near", 2), ("most", 3), ("row", 4), ("common", 5), ("later", 6), ("one", 7), ("two", 8)], 4, 9, f_law_pairs_right_b⟩
noncomputable def f_law_wide_right_t1 : Ss := (.cons (.expr (.meth (.v 0) 15 (.cons (.v 6) .nil))) .nil)
noncomputable def f_law_wide_right_b1 : Ss := (.cons (.expr (.lappend (.v 5) (.tuple (.meth (.v 0) 23 (.cons (.v 6) (.cons (.v 4) .nil)))))) f_law_wide_right_t1)
noncomputable def f_law_wide_right_t2 : Ss := (.cons (.ret (.cmp (.v 5) .eq (.comp false (.callf 13 (.cons (.idx (.v 2) (.v 11)) (.cons (.v 11) (.cons (.v 3) .nil)))) (.cons (.v 11) (.r1 (.v 4)) (.bool true) .nil)))) .nil)
noncomputable def f_law_wide_right_t3 : Ss := (.cons (.ife (.cmp (.sorted (.comp false (.v 9) (.cons (.tup [9, 10]) (.e (.v 5)) (.bool true) .nil))) .ne (.sorted (.bin .add (.lst (.cons (.int 0) .nil)) (.v 7)))) (.cons (.ret (.bool false)) .nil) .nil) f_law_wide_right_t2)
noncomputable def f_law_wide_right_t4 : Ss := (.cons (.forr (.v 6) (.r1 (.v 4)) f_law_wide_right_b1) (.fz 5 (.cons (.asg (.v 7) (.comp false (.ite (.cmp (.v 8) .ge (.v 3)) (.v 8) (.int 0)) (.cons (.v 8) (.e (.v 1)) (.bool true) .nil))) f_law_wide_right_t3)))
noncomputable def f_law_wide_right_b : Ss := (.cons (.asg (.tup [4, 5]) (.tup (.cons (.len (.v 2)) (.cons (.nlst .nil) .nil)))) f_law_wide_right_t4)
noncomputable def f_law_wide_right : Fn := ⟨[("finder", 0), ("near", 1), ("sides", 2), ("shortest", 3), ("size", 4), ("told", 5), ("place", 6), ("lengths", 7)], 4, 12, f_law_wide_right_b⟩
noncomputable def f_law_narrow_right_t1 : Ss := (.cons (.expr (.meth (.v 0) 15 (.cons (.v 7) .nil))) .nil)
noncomputable def f_law_narrow_right_t2 : Ss := (.cons (.ife (.cmp (.tuple (.meth (.v 0) 23 (.cons (.v 7) (.cons (.len (.v 1)) .nil)))) .ne (.callf 13 (.cons (.v 8) (.cons (.v 7) (.cons (.v 4) .nil))))) (.cons (.ret (.bool false)) .nil) .nil) f_law_narrow_right_t1)
noncomputable def f_law_narrow_right_t3 : Ss := (.cons (.ife (.cmp (.comp false (.tuple (.v 9)) (.cons (.v 9) (.e (.meth (.v 0) 22 (.cons (.v 7) (.cons (.v 6) .nil)))) (.bool true) .nil)) .ne (.callf 14 (.cons (.v 8) (.cons (.v 7) (.cons (.v 4) (.cons (.v 6) .nil)))))) (.cons (.ret (.bool false)) .nil) .nil) f_law_narrow_right_t2)
noncomputable def f_law_narrow_right_b1 : Ss := (.cons (.asg (.v 8) (.callf 12 (.cons (.v 1) (.cons (.v 2) (.cons (.v 7) (.cons (.v 5) .nil)))))) f_law_narrow_right_t3)
noncomputable def f_law_narrow_right_t4 : Ss := (.cons (.ret (.bool true)) .nil)
noncomputable def f_law_narrow_right_t5 : Ss := (.cons (.forr (.v 7) (.r1 (.len (.v 1))) f_law_narrow_right_b1) f_law_narrow_right_t4)
noncomputable def f_law_narrow_right_b : Ss := (.cons (.asg (.tup [4, 5, 6]) (.v 3)) f_law_narrow_right_t5)
noncomputable def f_law_narrow_right : Fn := ⟨[("finder", 0), ("order", 1), ("near", 2), ("shape", 3), ("shortest", 4), ("window", 5), ("most", 6), ("place", 7), ("sides", 8)], 4, 10, f_law_narrow_right_b⟩
noncomputable def f_law_b1 : Ss := (.cons (.ife (.not (.callf 16 (.cons (.callf 5 (.cons (.idx (.v 4) (.v 9)) (.cons (.v 2) (.cons (.idx (.v 8) (.v 9)) (.cons (.v 3) (.cons (.bin .add (.v 3) (.int 1)) .nil)))))) (.cons (.v 6) (.cons (.v 7) (.cons (.idx (.v 8) (.v 9)) .nil)))))) (.cons (.ret (.bool false)) .nil) .nil) .nil)
noncomputable def f_law_t1 : Ss := (.cons (.ret (.callf 17 (.cons (.v 12) (.cons (.v 5) (.cons (.v 6) (.cons (.lst (.cons (.idx (.v 8) (.v 9)) (.cons (.v 10) (.cons (.v 11) .nil)))) .nil)))))) .nil)
noncomputable def f_law_t2 : Ss := (.cons (.ife (.not (.callf 15 (.cons (.v 12) (.cons (.v 5) (.cons (.v 6) (.cons (.v 11) .nil)))))) (.cons (.ret (.bool false)) .nil) .nil) f_law_t1)
noncomputable def f_law_t3 : Ss := (.cons (.asg (.v 12) (.callf 5 (.cons (.idx (.v 4) (.v 9)) (.cons (.v 2) (.cons (.idx (.v 8) (.v 9)) (.cons (.v 10) (.cons (.bin .add (.v 3) (.int 1)) .nil))))))) f_law_t2)
noncomputable def f_law_t4 : Ss := (.cons (.asg (.tup [9, 10, 11]) (.tup (.cons (.callf 7 (.cons (.v 1) (.cons (.int 3) .nil))) (.cons (.bin .add (.int 1) (.callf 7 (.cons (.v 1) (.cons (.v 3) .nil)))) (.cons (.idx (.lst (.cons (.v 3) (.cons (.bin .add (.int 1) (.callf 7 (.cons (.v 1) (.cons (.int 5) .nil)))) .nil))) (.callf 7 (.cons (.v 1) (.cons (.int 2) .nil)))) .nil))))) f_law_t3)
noncomputable def f_law_t5 : Ss := (.cons (.forr (.v 9) (.r1 (.int 3)) f_law_b1) f_law_t4)
noncomputable def f_law_t6 : Ss := (.cons (.asg (.v 8) (.lst (.cons (.idx (.lst (.cons (.int 1) (.cons (.int 2) (.cons (.int 1) (.cons (.int 3) .nil))))) (.callf 7 (.cons (.v 1) (.cons (.int 4) .nil)))) (.cons (.idx (.lst (.cons (.int 1) (.cons (.int 2) (.cons (.int 1) (.cons (.int 4) .nil))))) (.callf 7 (.cons (.v 1) (.cons (.int 4) .nil)))) (.cons (.int 2) .nil))))) f_law_t5)
noncomputable def f_law_t7 : Ss := (.cons (.asg (.v 7) (.comp false (.callf 12 (.cons (.v 5) (.cons (.v 6) (.cons (.v 13) (.cons (.v 3) .nil))))) (.cons (.v 13) (.r1 (.v 3)) (.bool true) .nil))) f_law_t6)
noncomputable def f_law_t8 : Ss := (.cons (.asg (.tup [5, 6]) (.callf 11 (.cons (.v 2) .nil))) f_law_t7)
noncomputable def f_law_t9 : Ss := (.cons (.asg (.tup [3, 4]) (.tup (.cons (.len (.v 2)) (.cons (.lst (.cons (.str "chain") (.cons (.str "tree") (.cons (.str "layers") .nil)))) .nil)))) f_law_t8)
noncomputable def f_law_t10 : Ss := (.cons (.asg (.v 2) (.callf 8 (.cons (.v 1) (.cons (.ite (.and (.cmp (.len (.v 0)) .lt (.int 2)) (.cmp (.idx (.v 1) (.int 0)) .eq (.int 0))) (.int 5) (.bin .add (.int 8) (.callf 7 (.cons (.v 1) (.cons (.int 5) .nil))))) .nil)))) f_law_t9)
noncomputable def f_law_b : Ss := (.cons (.asg (.v 1) (.callf 6 (.cons (.v 0) .nil))) f_law_t10)
noncomputable def f_law : Fn := ⟨[("script", 0), ("box", 1), ("text", 2), ("size", 3), ("ways", 4), ("order", 5), ("near", 6), ("sides", 7), ("shortest", 8), ("k", 9), ("window", 10), ("most", 11), ("finder", 12)], 1, 14, f_law_b⟩
end Mine
end

section
open PySem PySem.Calls PyProof.Rows PySem.W
set_option maxRecDepth 20000
namespace Mine
noncomputable def stL (l : List String) : List PySem.Str := l.map PySem.Str.ofString
noncomputable def fnL : List (Fn × Addr × List String) := [(f_PlaceRow_init, 68, ["self", "octets", "size"]),
 (f_PlaceRow_key, 75, ["self", "place"]),
 (f_PlaceRow_put, 82, ["self", "place"]),
 (f_PlaceRow_newest, 89, ["self", "place"]),
 (f_Matcher_init, 110, ["self", "octets", "least", "window", "chain"]),
 (f_Matcher_put, 117, ["self", "place"]),
 (f_Matcher_limit, 138, ["self", "place", "most"]),
 (f_Matcher_length, 145, ["self", "place", "other", "most"]),
 (f_Matcher_alike, 152, ["self", "place", "other", "known", "limit"]),
 (f_Matcher_is_near, 159, ["self", "place", "other"]),
 (f_Matcher_best, 180, ["self", "place", "most"]),
 (f_Finder_init, 202, ["self", "octets", "least", "window", "chain"]),
 (f_Finder_enter, 209, ["self", "place"]),
 (f_Finder_candidates, 216, ["self", "place"]),
 (f_Finder_every, 223, ["self", "place", "most"]),
 (f_TreeFinder_init, 243, ["self", "octets", "least", "window", "chain"]),
 (f_TreeFinder_hang, 250, ["self", "owner", "is_greater", "place"]),
 (f_TreeFinder_enter, 257, ["self", "place"]),
 (f_TreeFinder_part, 264, ["self", "place", "other"]),
 (f_TreeFinder_every, 271, ["self", "place", "most"]),
 (f_LayeredFinder_init, 290, ["self", "octets", "window", "chain"]),
 (f_LayeredFinder_enter, 297, ["self", "place"]),
 (f_LayeredFinder_every, 304, ["self", "place", "most"]),
 (f_finder_for, 317, ["way", "octets", "least", "window", "chain"]),
 (f_law_box, 324, ["script"]),
 (f_law_take, 331, ["box", "many"]),
 (f_law_text, 336, ["box", "room"]),
 (f_law_numbers, 343, ["text"]),
 (f_law_common, 350, ["one", "two", "size"]),
 (f_law_order, 355, ["text"]),
 (f_law_sides, 362, ["order", "near", "place", "window"]),
 (f_law_longest, 367, ["sides", "place", "shortest"]),
 (f_law_outwards, 372, ["sides", "place", "shortest", "most"]),
 (f_law_pairs_right, 379, ["finder", "order", "near", "most"]),
 (f_law_wide_right, 384, ["finder", "near", "sides", "shortest"]),
 (f_law_narrow_right, 389, ["finder", "order", "near", "shape"])]
structure Fns (X : Cx) : Prop where
 base : Base X
 all : ∀ (i : Nat) f a ps, fnL[i]? = some (f, a, ps) → FnAt X f a (stL ps)
theorem Fns.PlaceRow_init {X : Cx} (F : Fns X) : FnAt X f_PlaceRow_init 68 (stL ["self", "octets", "size"]) := F.all 0 _ _ _ rfl
theorem Fns.PlaceRow_key {X : Cx} (F : Fns X) : FnAt X f_PlaceRow_key 75 (stL ["self", "place"]) := F.all 1 _ _ _ rfl
theorem Fns.PlaceRow_put {X : Cx} (F : Fns X) : FnAt X f_PlaceRow_put 82 (stL ["self", "place"]) := F.all 2 _ _ _ rfl
theorem Fns.PlaceRow_newest {X : Cx} (F : Fns X) : FnAt X f_PlaceRow_newest 89 (stL ["self", "place"]) := F.all 3 _ _ _ rfl
theorem Fns.Matcher_init {X : Cx} (F : Fns X) : FnAt X f_Matcher_init 110 (stL ["self", "octets", "least", "window", "chain"]) := F.all 4 _ _ _ rfl
theorem Fns.Matcher_put {X : Cx} (F : Fns X) : FnAt X f_Matcher_put 117 (stL ["self", "place"]) := F.all 5 _ _ _ rfl
theorem Fns.Matcher_limit {X : Cx} (F : Fns X) : FnAt X f_Matcher_limit 138 (stL ["self", "place", "most"]) := F.all 6 _ _ _ rfl
theorem Fns.Matcher_length {X : Cx} (F : Fns X) : FnAt X f_Matcher_length 145 (stL ["self", "place", "other", "most"]) := F.all 7 _ _ _ rfl
theorem Fns.Matcher_alike {X : Cx} (F : Fns X) : FnAt X f_Matcher_alike 152 (stL ["self", "place", "other", "known", "limit"]) := F.all 8 _ _ _ rfl
theorem Fns.Matcher_is_near {X : Cx} (F : Fns X) : FnAt X f_Matcher_is_near 159 (stL ["self", "place", "other"]) := F.all 9 _ _ _ rfl
theorem Fns.Matcher_best {X : Cx} (F : Fns X) : FnAt X f_Matcher_best 180 (stL ["self", "place", "most"]) := F.all 10 _ _ _ rfl
theorem Fns.Finder_init {X : Cx} (F : Fns X) : FnAt X f_Finder_init 202 (stL ["self", "octets", "least", "window", "chain"]) := F.all 11 _ _ _ rfl
theorem Fns.Finder_enter {X : Cx} (F : Fns X) : FnAt X f_Finder_enter 209 (stL ["self", "place"]) := F.all 12 _ _ _ rfl
theorem Fns.Finder_candidates {X : Cx} (F : Fns X) : FnAt X f_Finder_candidates 216 (stL ["self", "place"]) := F.all 13 _ _ _ rfl
theorem Fns.Finder_every {X : Cx} (F : Fns X) : FnAt X f_Finder_every 223 (stL ["self", "place", "most"]) := F.all 14 _ _ _ rfl
theorem Fns.TreeFinder_init {X : Cx} (F : Fns X) : FnAt X f_TreeFinder_init 243 (stL ["self", "octets", "least", "window", "chain"]) := F.all 15 _ _ _ rfl
theorem Fns.TreeFinder_hang {X : Cx} (F : Fns X) : FnAt X f_TreeFinder_hang 250 (stL ["self", "owner", "is_greater", "place"]) := F.all 16 _ _ _ rfl
theorem Fns.TreeFinder_enter {X : Cx} (F : Fns X) : FnAt X f_TreeFinder_enter 257 (stL ["self", "place"]) := F.all 17 _ _ _ rfl
theorem Fns.TreeFinder_part {X : Cx} (F : Fns X) : FnAt X f_TreeFinder_part 264 (stL ["self", "place", "other"]) := F.all 18 _ _ _ rfl
theorem Fns.TreeFinder_every {X : Cx} (F : Fns X) : FnAt X f_TreeFinder_every 271 (stL ["self", "place", "most"]) := F.all 19 _ _ _ rfl
theorem Fns.LayeredFinder_init {X : Cx} (F : Fns X) : FnAt X f_LayeredFinder_init 290 (stL ["self", "octets", "window", "chain"]) := F.all 20 _ _ _ rfl
theorem Fns.LayeredFinder_enter {X : Cx} (F : Fns X) : FnAt X f_LayeredFinder_enter 297 (stL ["self", "place"]) := F.all 21 _ _ _ rfl
theorem Fns.LayeredFinder_every {X : Cx} (F : Fns X) : FnAt X f_LayeredFinder_every 304 (stL ["self", "place", "most"]) := F.all 22 _ _ _ rfl
theorem Fns.finder_for {X : Cx} (F : Fns X) : FnAt X f_finder_for 317 (stL ["way", "octets", "least", "window", "chain"]) := F.all 23 _ _ _ rfl
theorem Fns.law_box {X : Cx} (F : Fns X) : FnAt X f_law_box 324 (stL ["script"]) := F.all 24 _ _ _ rfl
theorem Fns.law_take {X : Cx} (F : Fns X) : FnAt X f_law_take 331 (stL ["box", "many"]) := F.all 25 _ _ _ rfl
theorem Fns.law_text {X : Cx} (F : Fns X) : FnAt X f_law_text 336 (stL ["box", "room"]) := F.all 26 _ _ _ rfl
theorem Fns.law_numbers {X : Cx} (F : Fns X) : FnAt X f_law_numbers 343 (stL ["text"]) := F.all 27 _ _ _ rfl
theorem Fns.law_common {X : Cx} (F : Fns X) : FnAt X f_law_common 350 (stL ["one", "two", "size"]) := F.all 28 _ _ _ rfl
theorem Fns.law_order {X : Cx} (F : Fns X) : FnAt X f_law_order 355 (stL ["text"]) := F.all 29 _ _ _ rfl
theorem Fns.law_sides {X : Cx} (F : Fns X) : FnAt X f_law_sides 362 (stL ["order", "near", "place", "window"]) := F.all 30 _ _ _ rfl
theorem Fns.law_longest {X : Cx} (F : Fns X) : FnAt X f_law_longest 367 (stL ["sides", "place", "shortest"]) := F.all 31 _ _ _ rfl
theorem Fns.law_outwards {X : Cx} (F : Fns X) : FnAt X f_law_outwards 372 (stL ["sides", "place", "shortest", "most"]) := F.all 32 _ _ _ rfl
theorem Fns.law_pairs_right {X : Cx} (F : Fns X) : FnAt X f_law_pairs_right 379 (stL ["finder", "order", "near", "most"]) := F.all 33 _ _ _ rfl
theorem Fns.law_wide_right {X : Cx} (F : Fns X) : FnAt X f_law_wide_right 384 (stL ["finder", "near", "sides", "shortest"]) := F.all 34 _ _ _ rfl
theorem Fns.law_narrow_right {X : Cx} (F : Fns X) : FnAt X f_law_narrow_right 389 (stL ["finder", "order", "near", "shape"]) := F.all 35 _ _ _ rfl
section
variable {X : Cx} {k : Nat}
theorem wc_of (F : Fns X) {f : Fn} {a : Addr} {ps : List PySem.Str} (h : FnAt X f a ps) {args : List V} {σ : AHeap} {Q : V → AHeap → Prop} (hl : args.length = ps.length) (h2 : wpSs X k f.body (initR f args) σ (retQ Q)) : WC X (k + 1) (.ref a) args σ Q :=
 (fn_code F.base h (soundSs F.base f.body) hl h2).wc
theorem wcc_of (F : Fns X) {f : Fn} {a : Addr} {ps : List PySem.Str} (h : FnAt X f a ps) {args : List V} {σ : AHeap} {Q : V → AHeap → Prop} (hl : args.length = ps.length) (h2 : wpSs X k f.body (initR f args) σ (retQ Q)) : WCc X (k + 1) (.ref a) args σ Q :=
 fn_code F.base h (soundSs F.base f.body) hl h2
end
end Mine
end

section
namespace Mine
theorem lt0 {P : Nat → Prop} {r : Nat} (h : r < 0) : P r := absurd h (Nat.not_lt_zero r)
theorem ltS {P : Nat → Prop} {n : Nat} (h0 : P 0) (k : ∀ r, r < n → P (r + 1)) {r : Nat} (h : r < n + 1) : P r := Nat.casesOn (motive := fun r => r < n + 1 → P r) r (fun _ => h0) (fun r h => k r (Nat.lt_of_succ_lt_succ h)) h
theorem lt2 {P : Nat → Prop} {r : Nat} (h : r < 2) (h0 : P 0) (h1 : P 1) : P r := ltS h0 (fun _ h => ltS (P := fun r => P (r + 1)) h1 (fun _ h => lt0 (P := fun r => P (r + 1 + 1)) h) h) h
theorem lt3 {P : Nat → Prop} {r : Nat} (h : r < 3) (h0 : P 0) (h1 : P 1) (h2 : P 2) : P r := ltS h0 (fun _ h => lt2 (P := fun r => P (r + 1)) h h1 h2) h
theorem lt5 {P : Nat → Prop} {r : Nat} (h : r < 5) (h0 : P 0) (h1 : P 1) (h2 : P 2) (h3 : P 3) (h4 : P 4) : P r := ltS h0 (fun _ h => ltS (P := fun r => P (r + 1)) h1 (fun _ h => lt3 (P := fun r => P (r + 1 + 1)) h h2 h3 h4) h) h
theorem imin {a b : Nat} : min (a : Int) (b : Int) = ((min a b : Nat) : Int) := (Nat.le_total a b).elim (fun h => (Int.min_eq_left (Int.ofNat_le.mpr h)).trans (congrArg Nat.cast (Nat.min_eq_left h).symm)) fun h => (Int.min_eq_right (Int.ofNat_le.mpr h)).trans (congrArg Nat.cast (Nat.min_eq_right h).symm)
theorem imax {a b : Nat} : max (a : Int) (b : Int) = ((max a b : Nat) : Int) := (Nat.le_total a b).elim (fun h => (Int.max_eq_right (Int.ofNat_le.mpr h)).trans (congrArg Nat.cast (Nat.max_eq_right h).symm)) fun h => (Int.max_eq_left (Int.ofNat_le.mpr h)).trans (congrArg Nat.cast (Nat.max_eq_left h).symm)
theorem smallN {n : Nat} (h : n ≤ 1000) : -1000 ≤ (n : Int) ∧ (n : Int) ≤ 1000 := ⟨Int.le_trans (by decide) (Int.natCast_nonneg _), Int.ofNat_le.mpr h⟩
theorem isub1 {n c : Nat} (h : c < n) : (n : Int) - (c : Int) - 1 = ((n - (c + 1) : Nat) : Int) := (Int.sub_sub _ _ _).trans (Int.natCast_sub h).symm
noncomputable def lcpL : List Nat → List Nat → Nat
 | a :: x, b :: y => if a = b then lcpL x y + 1 else 0
 | _, _ => 0
theorem lcpL_le : ∀ x y : List Nat, lcpL x y ≤ x.length ∧ lcpL x y ≤ y.length
 | a :: x, b :: y => by
  have := lcpL_le x y
  unfold lcpL
  split <;> simp <;> lia
 | [], _ => by simp [lcpL]
 | _ :: _, [] => by simp [lcpL]
theorem lcpL_eq : ∀ (x y : List Nat) (i : Nat), i < lcpL x y → x[i]? = y[i]?
 | a :: x, b :: y, i, h => by
  unfold lcpL at h
  split at h
  ·rename_i e
   subst e
   cases i with
   | zero => rfl
   | succ i => simpa using lcpL_eq x y i (by exact Nat.le_of_lt_succ ‹_›)
  ·lia
 | [], _, i, h => by simp [lcpL] at h
 | _ :: _, [], i, h => by simp [lcpL] at h
theorem lcpL_ne : ∀ (x y : List Nat), lcpL x y < x.length → lcpL x y < y.length → x[lcpL x y]? ≠ y[lcpL x y]?
 | a :: x, b :: y, h1, h2 => by
  unfold lcpL at h1 h2 ⊢
  split
  ·rename_i e
   rw [if_pos e] at h1 h2
   simp only [List.length_cons] at h1 h2
   simpa using lcpL_ne x y (by exact Nat.le_of_lt_succ ‹_›) (by exact Nat.le_of_lt_succ ‹_›)
  ·rename_i e
   simpa using e
 | [], _, h, _ => by simp [lcpL] at h
 | _ :: _, [], _, h => by simp [lcpL] at h
noncomputable def L (t : List Nat) (p q : Nat) : Nat := lcpL (t.drop p) (t.drop q)
noncomputable def dg (t : List Nat) (j : Nat) : Nat := match t[j]? with | some o => o + 1 | none => 0
theorem dg_some {t : List Nat} {j o : Nat} (h : t[j]? = some o) : dg t j = o + 1 := by unfold dg; rw [h]
theorem dg_out {t : List Nat} {j : Nat} (h : t.length ≤ j) : dg t j = 0 := by unfold dg; rw [List.getElem?_eq_none h]
theorem dg_in {t : List Nat} {j : Nat} (h : j < t.length) : t[j]? = some (dg t j - 1) ∧ 0 < dg t j := by
 have e : t[j]? = some t[j] := List.getElem?_eq_getElem h
 rw [dg_some e,e]
 exact ⟨rfl, by exact Nat.succ_pos _⟩
theorem dg_inj {t : List Nat} {i j : Nat} (h : dg t i = dg t j) : t[i]? = t[j]? := by
 unfold dg at h
 cases e1 : t[i]? <;> cases e2 : t[j]? <;> rw [e1,e2] at h <;> simp at h ⊢
 exact h
theorem dg_of {t : List Nat} {i j : Nat} (h : t[i]? = t[j]?) : dg t i = dg t j := by unfold dg; rw [h]
section
variable {t : List Nat} {p q : Nat}
theorem L_le : L t p q ≤ t.length - p ∧ L t p q ≤ t.length - q := by
 have := lcpL_le (t.drop p) (t.drop q)
 simpa [L] using this
theorem L_eq {i : Nat} (h : i < L t p q) : dg t (p + i) = dg t (q + i) := by
 have := lcpL_eq (t.drop p) (t.drop q) i h
 rw [List.getElem?_drop,List.getElem?_drop] at this
 exact dg_of this
theorem L_ne (n : p ≠ q) (hp : p < t.length) (hq : q < t.length) : dg t (p + L t p q) ≠ dg t (q + L t p q) := by
 intro e
 have e' := dg_inj e
 have hl := L_le (t := t) (p := p) (q := q)
 by_cases h : L t p q < t.length - p ∧ L t p q < t.length - q
 ·have := lcpL_ne (t.drop p) (t.drop q) (by simpa [L] using h.1) (by simpa [L] using h.2)
  rw [List.getElem?_drop,List.getElem?_drop] at this
  exact this e'
 ·have c : (p + L t p q < t.length ∧ t.length ≤ q + L t p q) ∨ (q + L t p q < t.length ∧ t.length ≤ p + L t p q) := by
   rcases Nat.lt_or_ge (L t p q) (t.length - p) with g | g
   ·exact .inl ⟨Nat.lt_sub_iff_add_lt'.mp g, Nat.sub_le_iff_le_add'.mp (Nat.le_of_not_lt fun g' => h ⟨g, g'⟩)⟩
   ·have g1 := Nat.sub_le_iff_le_add'.mp g
    exact .inr ⟨Nat.lt_of_le_of_ne (Nat.add_le_of_le_sub' (Nat.le_of_lt hq) hl.2) fun e => n (Nat.add_right_cancel ((Nat.le_antisymm (Nat.add_le_of_le_sub' (Nat.le_of_lt hp) hl.1) g1).trans e.symm)), g1⟩
  rcases c with ⟨h1, h2⟩ | ⟨h1, h2⟩
  ·rw [dg_out h2] at e; have := (dg_in h1).2; lia
  ·rw [dg_out h2] at e; have := (dg_in h1).2; lia
theorem L_of {m : Nat} (n : p ≠ q) (hp : p < t.length) (hq : q < t.length) (h1 : ∀ i, i < m → dg t (p + i) = dg t (q + i)) (h2 : dg t (p + m) ≠ dg t (q + m)) : L t p q = m := by
 rcases Nat.lt_trichotomy (L t p q) m with h | h | h
 ·exact absurd (h1 _ h) (L_ne n hp hq)
 ·exact h
 ·exact absurd (L_eq h) h2
theorem L_ge {m : Nat} (n : p ≠ q) (hp : p < t.length) (hq : q < t.length) (h1 : ∀ i, i < m → dg t (p + i) = dg t (q + i)) : m ≤ L t p q := by
 rcases Nat.lt_or_ge (L t p q) m with h | h
 ·exact absurd (h1 _ h) (L_ne n hp hq)
 ·exact h
theorem L_comm (n : p ≠ q) (hp : p < t.length) (hq : q < t.length) : L t p q = L t q p :=
 L_of n hp hq (fun i hi => (L_eq hi).symm) (fun e => L_ne n.symm hq hp e.symm)
noncomputable def Lt (t : List Nat) (p q : Nat) : Prop := ∃ k, (∀ i, i < k → dg t (p + i) = dg t (q + i)) ∧ dg t (p + k) < dg t (q + k)
theorem Lt_iff (n : p ≠ q) (hp : p < t.length) (hq : q < t.length) : Lt t p q ↔ dg t (p + L t p q) < dg t (q + L t p q) := by
 constructor
 ·rintro ⟨k, h1, h2⟩
  rw [L_of n hp hq h1 (by exact Nat.ne_of_lt ‹_›)]
  exact h2
 ·intro h
  exact ⟨_, fun i hi => L_eq hi, h⟩
theorem Lt_or (n : p ≠ q) (hp : p < t.length) (hq : q < t.length) : Lt t p q ∨ Lt t q p := by
 have := L_ne n hp hq
 rcases Nat.lt_or_ge (dg t (p + L t p q)) (dg t (q + L t p q)) with h | h
 ·exact .inl ⟨_, fun i hi => L_eq hi, h⟩
 ·exact .inr ⟨_, fun i hi => (L_eq hi).symm, by lia⟩
theorem Lt_trans {r : Nat} : Lt t p q → Lt t q r → Lt t p r := by
 rintro ⟨k, h1, h2⟩ ⟨m, h3, h4⟩
 rcases Nat.lt_trichotomy k m with h | h | h
 ·exact ⟨k, fun i hi => (h1 i hi).trans (h3 i (by exact Nat.lt_trans ‹_› ‹_›)), by rw [← h3 k h]; exact h2⟩
 ·subst h; exact ⟨k, fun i hi => (h1 i hi).trans (h3 i hi), by exact Nat.lt_trans ‹_› ‹_›⟩
 ·exact ⟨m, fun i hi => (h1 i (by exact Nat.lt_trans ‹_› ‹_›)).trans (h3 i hi), by rw [h1 m h]; exact h4⟩
theorem Lt_irrefl : ¬ Lt t p p := fun ⟨_, _, h⟩ => Nat.lt_irrefl _ h
theorem Lt_asymm (h : Lt t p q) : ¬ Lt t q p := fun h' => Lt_irrefl (Lt_trans h h')
theorem Lt_ne (h : Lt t p q) : p ≠ q := fun e => by subst e; exact Lt_irrefl h
theorem L_between {r : Nat} (hp : p < t.length) (hq : q < t.length) (hr : r < t.length) (h1 : Lt t p q) (h2 : Lt t q r) : L t p r = min (L t p q) (L t q r) := by
 have n1 := Lt_ne h1
 have n2 := Lt_ne h2
 have n3 := Lt_ne (Lt_trans h1 h2)
 have a := (Lt_iff n1 hp hq).mp h1
 have b := (Lt_iff n2 hq hr).mp h2
 refine L_of n3 hp hr (fun i hi => (L_eq (t := t) (p := p) (q := q) (i := i) (by lia)).trans (L_eq (t := t) (p := q) (q := r) (i := i) (by lia))) ?_
 rcases Nat.lt_trichotomy (L t p q) (L t q r) with h | h | h
 ·rw [Nat.min_eq_left (by exact Nat.le_of_lt ‹_›),← L_eq h]; lia
 ·rw [← h,Nat.min_self]; rw [← h] at b; lia
 ·rw [Nat.min_eq_right (by exact Nat.le_of_lt ‹_›),L_eq h]; lia
end
end Mine
end

section
namespace Mine
section
variable {t : List Nat} {p lim : Nat}
noncomputable def fv (t : List Nat) (p lim c : Nat) : Nat := min (L t p c) lim
noncomputable def recs (t : List Nat) (p lim : Nat) : Nat → List Nat → List (Nat × Nat)
 | _, [] => []
 | m, c :: r => if m < fv t p lim c then (fv t p lim c, p - c) :: recs t p lim (fv t p lim c) r else recs t p lim m r
noncomputable def cands (p w : Nat) : List Nat := (List.range (min w p)).map fun i => p - 1 - i
theorem cands_mem {p w c : Nat} : c ∈ cands p w ↔ c < p ∧ p - c ≤ w := by
 unfold cands
 simp only [List.mem_map,List.mem_range]
 constructor
 ·rintro ⟨i, hi, rfl⟩
  have hi := Nat.lt_min.mp hi
  rw [Nat.sub_sub,Nat.add_comm 1 i]
  exact ⟨Nat.sub_lt (Nat.zero_lt_of_lt hi.2) (Nat.succ_pos i), Nat.le_trans (Nat.le_of_eq (Nat.sub_sub_self hi.2)) hi.1⟩
 ·intro h
  have e : p - 1 - c = p - (c + 1) := (Nat.sub_sub _ _ _).trans (congrArg (p - ·) (Nat.add_comm 1 c))
  exact ⟨p - 1 - c, e ▸ Nat.lt_min.mpr ⟨Nat.lt_of_lt_of_le (Nat.sub_lt_sub_left h.1 (Nat.lt_succ_self c)) h.2, Nat.sub_lt (Nat.zero_lt_of_lt h.1) (Nat.succ_pos c)⟩, Nat.sub_sub_self (Nat.le_sub_one_of_lt h.1)⟩
theorem cands_desc {p w : Nat} : (cands p w).Pairwise (· > ·) := by
 unfold cands
 rw [List.pairwise_map]
 refine List.Pairwise.imp_of_mem ?_ List.pairwise_lt_range
 intro a b ha hb h
 exact Nat.sub_lt_sub_left (Nat.lt_of_lt_of_le h (Nat.le_sub_one_of_lt (Nat.lt_min.mp (List.mem_range.mp hb)).2)) h
theorem recs_sub {l1 l2 : List Nat} {m : Nat} (h : l2.Sublist l1) : l1.Pairwise (· > ·) → (∀ c ∈ l1, c ∉ l2 → fv t p lim c ≤ m ∨ ∃ c' ∈ l2, c < c' ∧ fv t p lim c ≤ fv t p lim c') → recs t p lim m l2 = recs t p lim m l1 := by
 induction h generalizing m with
 | slnil => exact fun _ _ => rfl
 | @cons l2 l1 a h ih =>
  intro hp hd
  rw [List.pairwise_cons] at hp
  have hn : a ∉ l2 := fun e => Nat.lt_irrefl _ (hp.1 a (h.subset e))
  have ha : fv t p lim a ≤ m := by
   rcases hd a List.mem_cons_self hn with h1 | ⟨c', h1, h2, _⟩
   ·exact h1
   ·have := hp.1 c' (h.subset h1); lia
  rw [recs,if_neg (by exact Nat.not_lt.mpr ‹_›)]
  exact ih hp.2 fun c hc hc' => hd c (List.mem_cons_of_mem _ hc) hc'
 | @cons_cons l2 l1 a h ih =>
  intro hp hd
  rw [List.pairwise_cons] at hp
  rw [recs,recs]
  split
  ·rename_i hm
   rw [ih hp.2]
   intro c hc hc'
   have hca : c ≠ a := fun e => by subst e; exact Nat.lt_irrefl _ (hp.1 c hc)
   rcases hd c (List.mem_cons_of_mem _ hc) (by simp [hca,hc']) with h1 | ⟨c', h1, h2, h3⟩
   ·exact .inl (by lia)
   ·rcases List.mem_cons.mp h1 with rfl | h1
    ·exact .inl h3
    ·exact .inr ⟨c', h1, h2, h3⟩
  ·rename_i hm
   rw [ih hp.2]
   intro c hc hc'
   have hca : c ≠ a := fun e => by subst e; exact Nat.lt_irrefl _ (hp.1 c hc)
   rcases hd c (List.mem_cons_of_mem _ hc) (by simp [hca,hc']) with h1 | ⟨c', h1, h2, h3⟩
   ·exact .inl (by assumption)
   ·rcases List.mem_cons.mp h1 with rfl | h1
    ·exact .inl (by lia)
    ·exact .inr ⟨c', h1, h2, h3⟩
theorem recs_gt : ∀ {l : List Nat} {m : Nat}, ∀ x ∈ recs t p lim m l, m < x.1 ∧ x.1 ≤ lim
 | [], m, x, h => by simp [recs] at h
 | c :: l, m, x, h => by
  rw [recs] at h
  split at h
  ·rename_i hm
   rcases List.mem_cons.mp h with rfl | h
   ·exact ⟨hm, by unfold fv; lia⟩
   ·have := recs_gt (l := l) x h; lia
  ·exact recs_gt x h
theorem recs_nil : ∀ {l : List Nat} {m : Nat}, (∀ c ∈ l, fv t p lim c ≤ m) → recs t p lim m l = []
 | [], m, _ => rfl
 | c :: l, m, h => by
  rw [recs,if_neg (by have := h c List.mem_cons_self; lia)]
  exact recs_nil fun c hc => h c (List.mem_cons_of_mem _ hc)
theorem recs_filter : ∀ {l : List Nat} {m v : Nat}, m ≤ v → recs t p lim v l = (recs t p lim m l).filter fun x => decide (v < x.1)
 | [], m, v, _ => by simp [recs]
 | c :: l, m, v, h => by
  rw [recs,recs]
  by_cases h1 : v < fv t p lim c
  ·rw [if_pos h1,if_pos (by exact Nat.lt_of_le_of_lt ‹_› ‹_›),List.filter_cons_of_pos (by simpa using h1)]
   congr 1
   rw [List.filter_eq_self.mpr]
   intro x hx
   have := (recs_gt x hx).1
   simp; lia
  ·rw [if_neg h1]
   by_cases h2 : m < fv t p lim c
   ·rw [if_pos h2,List.filter_cons_of_neg (by simpa using h1)]
    exact recs_filter (by exact Nat.le_of_not_lt ‹_›)
   ·rw [if_neg h2]
    exact recs_filter h
theorem recs_first : ∀ {l : List Nat} {m c : Nat}, l.Pairwise (· > ·) → c ∈ l → m < fv t p lim c → (∀ c' ∈ l, c < c' → fv t p lim c' ≤ m) → recs t p lim m l = (fv t p lim c, p - c) :: recs t p lim (fv t p lim c) l
 | [], m, c, _, h, _, _ => by cases h
 | a :: l, m, c, hp, h, hm, hf => by
  rw [List.pairwise_cons] at hp
  rcases List.mem_cons.mp h with rfl | h
  ·rw [recs,if_pos hm]
   congr 1
   rw [recs,if_neg (by lia)]
  ·have h1 := hp.1 c h
   have h2 := hf a List.mem_cons_self h1
   rw [recs,if_neg (by exact Nat.not_lt.mpr ‹_›),recs_first hp.2 h hm fun c' hc' => hf c' (List.mem_cons_of_mem _ hc')]
   congr 1
   conv => rhs; rw [recs,if_neg (by lia)]
end
end Mine
end

section
open PySem PySem.Calls PyProof.Rows PySem.W
set_option maxRecDepth 20000
namespace Mine
section
variable {Q : V → Prop} {R : V → AHeap → Prop} {B : Bool → Prop} {I : Int → Prop} {σ : AHeap} {a : Addr} {i j x : Int} {l l' : List V} {v : V} {n : Nat} {y : List Nat}
theorem tail {X : Cx} {k : Nat} {t r : Ss} {s : S} {ρ : List V} {Z : Fl → List V → AHeap → Prop} (e : t = .cons s r) (h : wpSs X k (.cons s r) ρ σ Z) : wpSs X k t ρ σ Z := by rw [e]; exact h
theorem gN : getP (some .none) Q = Q .none := rfl
theorem gB {b : Bool} : getP (some (.bool b)) Q = Q (.bool b) := rfl
theorem gI : getP (some (.int i)) Q = Q (.int i) := rfl
theorem gS {s : PySem.Str} : getP (some (.str s)) Q = Q (.str s) := rfl
theorem gY : getP (some (.bytes y)) Q = Q (.bytes y) := rfl
theorem gT : getP (some (.tup l)) Q = Q (.tup l) := rfl
theorem gL : getP (some (.list l)) Q = Q (.list l) := rfl
theorem gR : getP (some (.ref a)) Q = Q (.ref a) := rfl
theorem tB {b : Bool} : truthP (.bool b) B = B b := rfl
theorem cI {op : Cop} : cmpP op (.int i) (.int j) σ B = B (copI op i j) := rfl
theorem cS {s t : PySem.Str} : cmpP .eq (.str s) (.str t) σ B = B (s == t) := rfl
theorem cEL : cmpP .eq (.list l) v σ B = ((thaw σ (.list l)).data = true ∧ (thaw σ v).data = true ∧ B ((thaw σ (.list l)).beq (thaw σ v))) := rfl
theorem cER : cmpP .eq (.ref a) v σ B = ((thaw σ (.ref a)).data = true ∧ (thaw σ v).data = true ∧ B ((thaw σ (.ref a)).beq (thaw σ v))) := rfl
theorem cNL : cmpP .ne (.list l) v σ B = ((thaw σ (.list l)).data = true ∧ (thaw σ v).data = true ∧ B (!(thaw σ (.list l)).beq (thaw σ v))) := rfl
theorem cNT : cmpP .ne (.tup l) v σ B = ((thaw σ (.tup l)).data = true ∧ (thaw σ v).data = true ∧ B (!(thaw σ (.tup l)).beq (thaw σ v))) := rfl
theorem thL : thaw σ (.list l) = .list l := rfl
theorem thT : thaw σ (.tup l) = .tup l := rfl
theorem thR : thaw σ (.ref a) = match σ a with | some (.list l) => .list l | _ => .ref a := rfl
theorem pLt : copI .lt i j = decide (i < j) := rfl
theorem pLe : copI .le i j = decide (i ≤ j) := rfl
theorem pGt : copI .gt i j = decide (j < i) := rfl
theorem pGe : copI .ge i j = decide (j ≤ i) := rfl
theorem pEq : copI .eq i j = decide (i = j) := rfl
theorem pNe : copI .ne i j = !decide (i = j) := rfl
theorem bI {op : Bop} : binP op (.int i) (.int j) σ R = binI op i j fun r => R (.int r) σ := rfl
theorem bL : binP .add (.list l) (.list l') σ R = ((l ++ l').length ≤ 1000 ∧ R (.list (l ++ l')) σ) := rfl
theorem oA : binI .add i j I = I (i + j) := rfl
theorem oS : binI .sub i j I = I (i - j) := rfl
theorem oM : binI .mul i j I = (IntMulOk i j ∧ I (i * j)) := rfl
theorem oD : binI .fdiv i j I = (j ≠ 0 ∧ Builtin.divisionGoesByPylong i j = false ∧ I (i.fdiv j)) := rfl
theorem oR : binI .mod i j I = (j ≠ 0 ∧ I (i.fmod j)) := rfl
theorem oP : binI .pow i j I = (0 ≤ j ∧ (Builtin.Int.intBits i : Int) * j ≤ 2 ^ 27 ∧ I (ipow i j)) := rfl
theorem aR : attrP (.ref a) n σ Q = insP (σ a) fun _ fs => getP (fs.lookup n) Q := rfl
theorem kR {w : V} : cattrP (.ref a) n w σ Q = insP (σ a) fun C fs => C = 307 ∧ fs.lookup n = none ∧ Q w := rfl
theorem mR {M : Addr → Addr → Prop} : methP (.ref a) n σ M = insP (σ a) fun C fs => fs.lookup n = none ∧ ∃ f, meth C n = some f ∧ M a f := rfl
theorem lsL {f : List V → Prop} : lsP (some (.list l)) f = f l := rfl
theorem nY : lenP (.bytes y) σ I = I (y.map fun (n : Nat) => V.int (n : Int)).length := rfl
theorem nT : lenP (.tup l) σ I = I l.length := rfl
theorem nL : lenP (.list l) σ I = I l.length := rfl
theorem nR : lenP (.ref a) σ I = lsP (σ a) fun l => I l.length := ls_ref
theorem iY : idxP (.bytes y) (.int i) σ Q = (0 ≤ i ∧ ∃ x, (y.map fun (n : Nat) => V.int (n : Int))[i.toNat]? = some x ∧ Q x) := rfl
theorem iT : idxP (.tup l) (.int i) σ Q = (0 ≤ i ∧ ∃ x, l[i.toNat]? = some x ∧ Q x) := rfl
theorem iL : idxP (.list l) (.int i) σ Q = (0 ≤ i ∧ ∃ x, l[i.toNat]? = some x ∧ Q x) := rfl
theorem iR : idxP (.ref a) (.int i) σ Q = lsP (σ a) fun l => 0 ≤ i ∧ ∃ x, l[i.toNat]? = some x ∧ Q x := ls_ref
theorem laL : lastP (.list l) σ Q = ∃ x, l.getLast? = some x ∧ Q x := rfl
theorem laR : lastP (.ref a) σ Q = lsP (σ a) fun l => ∃ x, l.getLast? = some x ∧ Q x := ls_ref
theorem b00 {f : Nat → Option Nat → Prop} : bndP .none .none f = f 0 none := rfl
theorem b10 {f : Nat → Option Nat → Prop} : bndP (.int i) .none f = (0 ≤ i ∧ f i.toNat none) := rfl
theorem b01 {f : Nat → Option Nat → Prop} : bndP .none (.int i) f = (0 ≤ i ∧ f 0 (some i.toNat)) := rfl
theorem b11 {f : Nat → Option Nat → Prop} : bndP (.int i) (.int j) f = (0 ≤ i ∧ 0 ≤ j ∧ f i.toNat (some j.toNat)) := rfl
theorem sY {u w : V} : sliceP (.bytes y) u w σ Q = bndP u w fun a b => Q (.bytes (cut y a b)) := rfl
theorem sL {u w : V} : sliceP (.list l) u w σ Q = bndP u w fun a b => Q (.list (cut l a b)) := rfl
theorem sR {u w : V} : sliceP (.ref a) u w σ Q = bndP u w fun p q => lsP (σ a) fun l => Q (.list (cut l p q)) := congrArg (bndP u w) (funext fun _ => funext fun _ => ls_ref)
theorem rY : revP (.bytes y) σ Q = Q (.bytes y.reverse) := rfl
theorem rR : revP (.ref a) σ Q = lsP (σ a) fun l => Q (.list l.reverse) := ls_ref
theorem dR {d : V} : dgetP (.ref a) (.int i) d σ Q = diP (σ a) fun _ m => Q ((m i).getD d) := rfl
theorem iD : isDict σ (.ref a) = match σ a with | some (.dict ..) => true | _ => false := rfl
theorem apR : appendP (.ref a) v σ R = lsP (σ a) fun l => l.length < 1000 ∧ R .none (upd σ a (.list (l ++ [v]))) := rfl
theorem fzR : frzP (.ref a) σ R = lsP (σ a) fun l => R (.list l) (del σ a) := rfl
theorem saR {f : AHeap → Prop} : setattrP (.ref a) n v σ f = insP (σ a) fun C fs => n < 14 ∧ fs.length < 100 ∧ f (upd σ a (.inst C (putF n v fs))) := rfl
theorem siR {f : AHeap → Prop} : setidxP (.ref a) (.int i) v σ f = match σ a with
  | some (.list l) => 0 ≤ i ∧ i < l.length ∧ f (upd σ a (.list (l.set i.toNat v)))
  | o => diP o fun n m => n < 1000 ∧ f (upd σ a (.dict (n + 1) fun j => if j = i then some v else m j)) := rfl
theorem fT : asFrozen (.tup l) = some l := rfl
theorem fL : asFrozen (.list l) = some l := rfl
theorem fY : asFrozen (.bytes y) = some (y.map fun (n : Nat) => V.int (n : Int)) := rfl
theorem lL : asList σ (.list l) = some l := rfl
theorem lR : asList σ (.ref a) = match σ a with | some (.list l) => some l | _ => none := rfl
theorem rg1 {f : List V → Prop} : range1P (.int i) f = (small i ∧ f ((List.range i.toNat).map fun (n : Nat) => V.int (n : Int))) := rfl
theorem rg2 {f : List V → Prop} : range2P (.int i) (.int j) f = (small i ∧ small j ∧ f ((List.range (j - i).toNat).map fun (n : Nat) => V.int (i + (n : Int)))) := rfl
theorem rg3 {f : List V → Prop} : range3P (.int i) (.int j) (.int x) f = (small i ∧ small j ∧ x = -1 ∧ f ((List.range (i - j).toNat).map fun (n : Nat) => V.int (i - (n : Int)))) := rfl
theorem isn : V.isNone .none = true := rfl
theorem isi : V.isNone (.int i) = false := rfl
theorem agV {ρ : List V} {f : List V → Prop} : asgP (.v n) v ρ f = f (ρ.set n v) := rfl
theorem agT {ρ : List V} {f : List V → Prop} {is : List Nat} : asgP (.tup is) (.tup l) ρ f = (l.length = is.length ∧ f (setAll ρ is l)) := rfl
theorem agL {ρ : List V} {f : List V → Prop} {is : List Nat} : asgP (.tup is) (.list l) ρ f = (l.length = is.length ∧ f (setAll ρ is l)) := rfl
theorem insA {o : Option AObj} {C : Addr} {fs : List (Nat × V)} {f : Addr → List (Nat × V) → Prop} (h : o = some (.inst C fs)) (k : f C fs) : insP o f := h.symm ▸ k
theorem lsA {o : Option AObj} {f : List V → Prop} (h : o = some (.list l)) (k : f l) : lsP o f := h.symm ▸ k
theorem diA {o : Option AObj} {m : Int → Option V} {f : Nat → (Int → Option V) → Prop} (h : o = some (.dict n m)) (k : f n m) : diP o f := h.symm ▸ k
theorem geA {o : Option V} (h : o = some v) (k : getP (some v) Q) : getP o Q := h.symm ▸ k
theorem exA {α : Type} {o : Option α} {v : α} {Q : α → Prop} (h : o = some v) (k : Q v) : ∃ x, o = some x ∧ Q x := ⟨v, h, k⟩
theorem asA {P : Prop} (h : σ a = some (.list l)) (k : P) : (asList σ (.ref a)).isSome = true ∧ P := ⟨(congrArg (fun o : Option AObj => (match o with | some (.list l) => some l | _ => none : Option (List V)).isSome) h).trans rfl, k⟩
theorem idA {P : Prop} {m : Int → Option V} (h : σ a = some (.dict n m)) (k : P) : isDict σ (.ref a) = true ∧ P := ⟨(congrArg (fun o : Option AObj => (match o with | some (.dict ..) => true | _ => false : Bool)) h).trans rfl, k⟩
theorem siA {f : AHeap → Prop} (h : σ a = some (.list l)) (k : 0 ≤ i ∧ i < l.length ∧ f (upd σ a (.list (l.set i.toNat v)))) : setidxP (.ref a) (.int i) v σ f := by
 show (match σ a with | some (.list l) => _ | o => _)
 rw [h]; exact k
theorem siD {f : AHeap → Prop} {m : Int → Option V} (h : σ a = some (.dict n m)) (k : n < 1000 ∧ f (upd σ a (.dict (n + 1) fun j => if j = i then some v else m j))) : setidxP (.ref a) (.int i) v σ f := by
 show (match σ a with | some (.list l) => _ | o => _)
 rw [h]; exact k
theorem anA {P R : Prop} (h : P) (k : R) : P ∧ R := ⟨h, k⟩
theorem itT {A B : Prop} : (if true = true then A else B) = A := rfl
theorem itF {A B : Prop} : (if false = true then A else B) = B := rfl
theorem insL {C : Addr} {fs : List (Nat × V)} {f : Addr → List (Nat × V) → Prop} : insP (some (.inst C fs)) f = f C fs := rfl
theorem diL {m : Int → Option V} {f : Nat → (Int → Option V) → Prop} : diP (some (.dict n m)) f = f n m := rfl
theorem inL {f : Int → Prop} : intP (.int i) f = f i := rfl
theorem reL {f : Addr → Prop} : refP (.ref a) f = f a := rfl
theorem tuL {f : List V → Prop} : tupP (.tup l) f = f l := rfl
theorem liL {f : List V → Prop} : lisP (some l) f = f l := rfl
theorem byB {f : List Nat → Prop} {g : Prop} : byP (.bytes y) f g = f y := rfl
theorem byL {f : List Nat → Prop} {g : Prop} : byP (.list l) f g = g := rfl
theorem byR {f : List Nat → Prop} {g : Prop} : byP (.ref a) f g = g := rfl
variable {α : Type} {b c : α} {m m' : List α}
theorem qa : (b :: m)[0]? = some b := rfl
theorem qb : (b :: m)[n + 1]? = m[n]? := rfl
theorem qc : (b :: m).set 0 c = c :: m := rfl
theorem qd : (b :: m).set (n + 1) c = b :: m.set n c := rfl
theorem qe : (b :: m).length = m.length + 1 := rfl
theorem qf : ([] : List α).length = 0 := rfl
theorem qg : [] ++ m = m := rfl
theorem qh : (b :: m) ++ m' = b :: (m ++ m') := rfl
theorem qi : List.replicate 0 b = [] := rfl
theorem qj : List.replicate (n + 1) b = b :: List.replicate n b := rfl
end
end Mine
end

section
open PySem PySem.Calls PyProof.Rows PySem.W
set_option maxRecDepth 20000
set_option autoImplicit true
namespace Mine
section
variable {X : Cx} {k : Nat} {ρ : List V} {σ : AHeap} {Q : V → AHeap → Prop}
theorem we_v : wpE X k (.v i) ρ σ Q = (getP (ρ[i]?) fun v => Q v σ) := rfl
theorem we_int : wpE X k (.int n) ρ σ Q = (Q (.int n) σ) := rfl
theorem we_bool : wpE X k (.bool b) ρ σ Q = (Q (.bool b) σ) := rfl
theorem we_str : wpE X k (.str x) ρ σ Q = (Q (.str (PySem.Str.ofString x)) σ) := rfl
theorem we_none : wpE X k (.none) ρ σ Q = (Q .none σ) := rfl
theorem we_neg : wpE X k (.neg n) ρ σ Q = (Q (.int (-n)) σ) := rfl
theorem we_nowhere : wpE X k (.nowhere) ρ σ Q = (Q (.int (-1)) σ) := rfl
theorem we_bin : wpE X k (.bin op a b) ρ σ Q = (wpE X k a ρ σ fun u σ₁ => wpE X k b ρ σ₁ fun v σ₂ => binP op u v σ₂ Q) := rfl
theorem we_cmp : wpE X k (.cmp a op b) ρ σ Q = (wpE X k a ρ σ fun u σ₁ => wpE X k b ρ σ₁ fun v σ₂ => cmpP op u v σ₂ fun r => Q (.bool r) σ₂) := rfl
theorem we_cmp2 : wpE X k (.cmp2 a op b op2 c) ρ σ Q = (wpE X k a ρ σ fun u σ₁ => wpE X k b ρ σ₁ fun v σ₂ => cmpP op u v σ₂ fun r => if r = true then wpE X k c ρ σ₂ fun w σ₃ => cmpP op2 v w σ₃ fun r2 => Q (.bool r2) σ₃ else Q (.bool false) σ₂) := rfl
theorem we_isnone : wpE X k (.isnone neg a) ρ σ Q = (wpE X k a ρ σ fun u σ₁ => u ≠ .undef ∧ Q (.bool (u.isNone != neg)) σ₁) := rfl
theorem we_and : wpE X k (.and a b) ρ σ Q = (wpE X k a ρ σ fun u σ₁ => truthP u fun r => if r = true then wpE X k b ρ σ₁ Q else Q (.bool false) σ₁) := rfl
theorem we_or : wpE X k (.or a b) ρ σ Q = (wpE X k a ρ σ fun u σ₁ => truthP u fun r => if r = true then Q (.bool true) σ₁ else wpE X k b ρ σ₁ Q) := rfl
theorem we_not : wpE X k (.not a) ρ σ Q = (wpE X k a ρ σ fun u σ₁ => truthP u fun r => Q (.bool (!r)) σ₁) := rfl
theorem we_ite : wpE X k (.ite c a b) ρ σ Q = (wpE X k c ρ σ fun u σ₁ => truthP u fun r => if r = true then wpE X k a ρ σ₁ Q else wpE X k b ρ σ₁ Q) := rfl
theorem we_idx : wpE X k (.idx a i) ρ σ Q = (wpE X k a ρ σ fun u σ₁ => wpE X k i ρ σ₁ fun v σ₂ => idxP u v σ₂ fun x => Q x σ₂) := rfl
theorem we_last : wpE X k (.last a) ρ σ Q = (wpE X k a ρ σ fun u σ₁ => lastP u σ₁ fun x => Q x σ₁) := rfl
theorem we_slice : wpE X k (.slice a lw hw) ρ σ Q = (wpE X k a ρ σ fun u σ₁ => wpE X k lw ρ σ₁ fun x σ₂ => wpE X k hw ρ σ₂ fun y σ₃ => sliceP u x y σ₃ fun r => Q r σ₃) := rfl
theorem we_rev : wpE X k (.rev a) ρ σ Q = (wpE X k a ρ σ fun u σ₁ => revP u σ₁ fun r => Q r σ₁) := rfl
theorem we_attr : wpE X k (.attr a n) ρ σ Q = (wpE X k a ρ σ fun u σ₁ => attrP u n σ₁ fun r => Q r σ₁) := rfl
theorem we_layers : wpE X k (.layers a) ρ σ Q = (wpE X k a ρ σ fun u σ₁ => cattrP u 28 (.tup [.int 2, .int 3]) σ₁ fun r => Q r σ₁) := rfl
theorem we_treesize : wpE X k (.treesize a) ρ σ Q = (wpE X k a ρ σ fun u σ₁ => cattrP u 29 (.int 4) σ₁ fun r => Q r σ₁) := rfl
theorem we_tup : wpE X k (.tup es) ρ σ Q = (wpEs X k es ρ σ fun l σ₁ => l.length ≤ 1000 ∧ Q (.tup l) σ₁) := rfl
theorem we_lst : wpE X k (.lst es) ρ σ Q = (wpEs X k es ρ σ fun l σ₁ => mkList false l σ₁ Q) := rfl
theorem we_nlst : wpE X k (.nlst es) ρ σ Q = (wpEs X k es ρ σ fun l σ₁ => mkList true l σ₁ Q) := rfl
theorem we_ndict : wpE X k (.ndict) ρ σ Q = (∀ a, σ a = none → Q (.ref a) (upd σ a (.dict 0 fun _ => none))) := rfl
theorem we_frz : wpE X k (.frz a) ρ σ Q = (wpE X k a ρ σ fun u σ₁ => frzP u σ₁ Q) := rfl
theorem we_callf : wpE X k (.callf f es) ρ σ Q = (wpEs X k es ρ σ fun l σ₁ => WC X k (.ref (ga f)) l σ₁ Q) := rfl
theorem we_meth : wpE X k (.meth o m es) ρ σ Q = (wpE X k o ρ σ fun u σ₁ => methP u m σ₁ fun a f => wpEs X k es ρ σ₁ fun l σ₂ => WC X k (.ref f) (.ref a :: l) σ₂ Q) := rfl
theorem we_cmeth : wpE X k (.cmeth c m es) ρ σ Q = (∃ f, meth (ga c) m = some f ∧ wpEs X k es ρ σ fun l σ₁ => WC X k (.ref f) l σ₁ Q) := rfl
theorem we_len : wpE X k (.len a) ρ σ Q = (wpE X k a ρ σ fun u σ₁ => lenP u σ₁ fun r => Q (.int r) σ₁) := rfl
theorem we_min2 : wpE X k (.min2 a b) ρ σ Q = (wpE X k a ρ σ fun u σ₁ => wpE X k b ρ σ₁ fun v σ₂ => intP u fun x => intP v fun y => Q (.int (min x y)) σ₂) := rfl
theorem we_max2 : wpE X k (.max2 a b) ρ σ Q = (wpE X k a ρ σ fun u σ₁ => wpE X k b ρ σ₁ fun v σ₂ => intP u fun x => intP v fun y => Q (.int (max x y)) σ₂) := rfl
theorem we_max1 : wpE X k (.max1 a) ρ σ Q = (wpE X k a ρ σ fun u σ₁ => max1P u σ₁ fun r => Q r σ₁) := rfl
theorem we_bytes : wpE X k (.bytes a) ρ σ Q = (wpE X k a ρ σ fun u σ₁ => bytesP u σ₁ fun r => Q r σ₁) := rfl
theorem we_tuple : wpE X k (.tuple a) ρ σ Q = (wpE X k a ρ σ fun u σ₁ => tupP u fun l => Q (.tup l) σ₁) := rfl
theorem we_sorted : wpE X k (.sorted a) ρ σ Q = (wpE X k a ρ σ fun u σ₁ => sortP u σ₁ fun r => Q r σ₁) := rfl
theorem we_listr : wpE X k (.listr it) ρ σ Q = (wpI X k it ρ σ fun l σ₁ => mkList false l σ₁ Q) := rfl
theorem we_lappend : wpE X k (.lappend o x) ρ σ Q = (wpE X k o ρ σ fun u σ₁ => (asList σ₁ u).isSome = true ∧ wpE X k x ρ σ₁ fun v σ₂ => appendP u v σ₂ Q) := rfl
theorem we_dget : wpE X k (.dget o key d) ρ σ Q = (wpE X k o ρ σ fun u σ₁ => isDict σ₁ u = true ∧ wpE X k key ρ σ₁ fun v σ₂ => wpE X k d ρ σ₂ fun z σ₃ => dgetP u v z σ₃ fun r => Q r σ₃) := rfl
theorem we_lindex : wpE X k (.lindex o x) ρ σ Q = (wpE X k o ρ σ fun u σ₁ => (asList σ₁ u).isSome = true ∧ wpE X k x ρ σ₁ fun v σ₂ => indexP u v σ₂ fun r => Q (.int r) σ₂) := rfl
theorem we_nrep : wpE X k (.nrep x n) ρ σ Q = (wpE X k x ρ σ fun u σ₁ => wpE X k n ρ σ₁ fun v σ₂ => intP u fun i => intP v fun m => 0 ≤ m ∧ mkList true (List.replicate m.toNat (.int i)) σ₂ Q) := rfl
theorem we_ncat : wpE X k (.ncat a b) ρ σ Q = (wpE X k a ρ σ fun u σ₁ => wpE X k b ρ σ₁ fun v σ₂ => ncatP u v σ₂ Q) := rfl
theorem we_comp {gs : Gs} : wpE X k (.comp new elt gs) ρ σ Q = (wpG X k (fun ρ σ Q => wpE X k elt ρ σ Q) gs (some ρ) (clr ρ gs.slots) σ [] fun l σ₁ => mkList new l σ₁ Q) := rfl
end
section
variable {X : Cx} {k : Nat} {ρ : List V} {σ : AHeap} {Q : List V → AHeap → Prop}
theorem wz_nil : wpEs X k (.nil) ρ σ Q = (Q [] σ) := rfl
theorem wz_cons : wpEs X k (.cons e r) ρ σ Q = (wpE X k e ρ σ fun v σ₁ => wpEs X k r ρ σ₁ fun l σ₂ => Q (v :: l) σ₂) := rfl
theorem wi_e : wpI X k (.e a) ρ σ Q = (wpE X k a ρ σ fun u σ₁ => lisP (asFrozen u) fun l => Q l σ₁) := rfl
theorem wi_r1 : wpI X k (.r1 a) ρ σ Q = (wpE X k a ρ σ fun u σ₁ => range1P u fun l => Q l σ₁) := rfl
theorem wi_r2 : wpI X k (.r2 a b) ρ σ Q = (wpE X k a ρ σ fun u σ₁ => wpE X k b ρ σ₁ fun v σ₂ => range2P u v fun l => Q l σ₂) := rfl
theorem wi_r3 : wpI X k (.r3 a b c) ρ σ Q = (wpE X k a ρ σ fun u σ₁ => wpE X k b ρ σ₁ fun v σ₂ => wpE X k c ρ σ₂ fun z σ₃ => range3P u v z fun l => Q l σ₃) := rfl
end
section
variable {X : Cx} {k : Nat} {ρ : List V} {σ : AHeap} {Q : Fl → List V → AHeap → Prop}
theorem ws_asg : wpS X k (.asg t e) ρ σ Q = (wpE X k e ρ σ fun v σ₁ => asgP t v ρ fun ρ' => Q .next ρ' σ₁) := rfl
theorem ws_setattr : wpS X k (.setattr o n e) ρ σ Q = (wpE X k e ρ σ fun v σ₁ => wpE X k o ρ σ₁ fun u σ₂ => setattrP u n v σ₂ fun σ₃ => Q .next ρ σ₃) := rfl
theorem ws_setidx : wpS X k (.setidx o i e) ρ σ Q = (wpE X k e ρ σ fun v σ₁ => wpE X k o ρ σ₁ fun u σ₂ => wpE X k i ρ σ₂ fun j σ₃ => setidxP u j v σ₃ fun σ₄ => Q .next ρ σ₄) := rfl
theorem ws_aug : wpS X k (.aug i op e) ρ σ Q = (getP (ρ[i]?) fun u => wpE X k e ρ σ fun v σ₁ => intP u fun a => intP v fun b => op = .add ∧ Q .next (ρ.set i (.int (a + b))) σ₁) := rfl
theorem ws_ife : wpS X k (.ife c a b) ρ σ Q = (wpE X k c ρ σ fun u σ₁ => truthP u fun r => if r = true then wpSs X k a ρ σ₁ Q else wpSs X k b ρ σ₁ Q) := rfl
theorem ws_forr : wpS X k (.forr t it body) ρ σ Q = (wpI X k it ρ σ fun items σ₁ => forP t (fun ρ σ Q => wpSs X k body ρ σ Q) Q items ρ σ₁) := rfl
theorem ws_wh : wpS X k (.wh c body) ρ σ Q = (∃ n, whileP (fun ρ σ Q => wpE X k c ρ σ fun u σ₁ => truthP u fun b => Q b σ₁) (fun ρ σ Q => wpSs X k body ρ σ Q) Q n ρ σ) := rfl
theorem ws_ret : wpS X k (.ret e) ρ σ Q = (wpE X k e ρ σ fun v σ₁ => Q (.ret v) ρ σ₁) := rfl
theorem ws_retn : wpS X k (.retn) ρ σ Q = (Q (.ret .none) ρ σ) := rfl
theorem ws_brk : wpS X k (.brk) ρ σ Q = (Q .brk ρ σ) := rfl
theorem ws_pass : wpS X k (.pass) ρ σ Q = (Q .next ρ σ) := rfl
theorem ws_raise : wpS X k (.raise) ρ σ Q = (False) := rfl
theorem ws_expr : wpS X k (.expr e) ρ σ Q = (wpE X k e ρ σ fun _ σ₁ => Q .next ρ σ₁) := rfl
theorem wl_nil : wpSs X k (.nil) ρ σ Q = (Q .next ρ σ) := rfl
theorem wl_cons : wpSs X k (.cons s r) ρ σ Q = (wpS X k s ρ σ fun fl ρ' σ' => match fl with
   | .next => wpSs X k r ρ' σ' Q
   | .brk => Q .brk ρ' σ'
   | .ret v => Q (.ret v) ρ' σ') := rfl
theorem wl_fz : wpSs X k (.fz i r) ρ σ Q = (fzP i ρ σ fun ρ' σ' => wpSs X k r ρ' σ' Q) := rfl
end
end Mine
end

section
open PySem PySem.Calls PyProof.Rows PySem.W
set_option backward.defeqAttrib.useBackward true
set_option maxRecDepth 20000
namespace Mine
theorem lookup_hit {α : Type} {n : Nat} {v : α} {r : List (Nat × α)} : ((n, v) :: r).lookup n = some v := by simp [List.lookup]
theorem lookup_miss {α : Type} {n m : Nat} {v : α} {r : List (Nat × α)} (h : (n == m) = false) : ((m, v) :: r).lookup n = r.lookup n := by simp [List.lookup,h]
theorem pos {c : Prop} [Decidable c] {A B : Prop} (h : c) (a : A) : if c then A else B := by rw [if_pos h]; exact a
theorem tpos {p : Prop} [Decidable p] {A B : Prop} (h : p) (a : A) : truthP (.bool (decide p)) fun r => if r = true then A else B := by
 show if decide p = true then A else B
 rw [if_pos (decide_eq_true h)]; exact a
theorem tneg {p : Prop} [Decidable p] {A B : Prop} (h : ¬p) (b : B) : truthP (.bool (decide p)) fun r => if r = true then A else B := by
 show if decide p = true then A else B
 rw [if_neg (by simpa using h)]; exact b
theorem neg {c : Prop} [Decidable c] {A B : Prop} (h : ¬c) (b : B) : if c then A else B := by rw [if_neg h]; exact b
section
variable {X : Cx} {k : Nat}
theorem WC.le {X : Cx} {k k' : Nat} {f : Value} {args : List V} {σ : AHeap} {Q : V → AHeap → Prop} (h : k ≤ k') (x : WC X k f args σ Q) : WC X k' f args σ Q := fun N A s vals ⟨r1, r2, r3⟩ => x N A s vals ⟨r1, by lia, by lia⟩
noncomputable def bytesV (l : List Nat) : List V := l.map fun (n : Nat) => V.int (n : Int)
noncomputable def num256 (l : List Nat) : Nat := l.foldl (fun a o => a * 256 + o) 0
noncomputable def keyN (t : List Nat) (p s : Nat) : Option Nat := if p + s ≤ t.length then some (num256 ((t.drop p).take s)) else none
noncomputable def keyV (t : List Nat) (p s : Nat) : V := match keyN t p s with | some n => .int n | none => .none
noncomputable def rowF (t : List Nat) (s : Nat) (la be : Addr) : List (Nat × V) := [(0, .bytes t), (1, .int s), (2, .ref la), (3, .ref be)]
theorem key_loop {r : V} {p : V} {Q : Fl → List V → AHeap → Prop} {σ : AHeap} : ∀ (l : List Nat) (a : Nat) (z : V), (∀ z, Q .next [r, p, .int (l.foldl (fun a o => a * 256 + o) a : Nat), z] σ) →
  forP (Tg.v 3) (fun ρ σ Q => wpSs X k f_PlaceRow_key_b1 ρ σ Q) Q (l.map fun (n : Nat) => V.int (n : Int)) [r, p, .int a, z] σ
 | [], a, z, h => by simpa [forP] using h z
 | o :: l, a, z, h => by
  simp only [List.map_cons,forP]
  repeat (first | simp only [we_v,we_int,we_bin,ws_asg,wl_nil,wl_cons,gI,bI,oA,oM,agV,qa,qb,qc,qd,f_PlaceRow_key_b1] | ((with_reducible apply tail);case e=>rfl))
  refine ⟨IntMulOk.of_right (by decide +kernel), ?_⟩
  have e : ((a : Int) * 256 + (o : Int)) = ((a * 256 + o : Nat) : Int) := by rfl
  rw [e]
  exact key_loop l _ _ h
theorem key_c (F : Fns X) {r : Addr} {t : List Nat} {s p : Nat} {la be : Addr} {σ : AHeap} {Q : V → AHeap → Prop} (hr : σ r = some (.inst 92 (rowF t s la be))) (hp : p ≤ t.length)
  (hQ : Q (keyV t p s) σ) : WC X (k + 1) (.ref 75) [.ref r, .int p] σ Q := by
 refine wc_of F F.PlaceRow_key rfl ?_
 unfold rowF at hr
 unfold keyV keyN at hQ
 repeat (first | simp only [we_v,we_int,we_cmp2,we_not,we_attr,we_len,ws_ife,ws_raise,wl_nil,wl_cons,gI,gY,gR,tB,cI,pLe,aR,nY,insL,retQ,initR,qa,qb,qh,qg,qj,qi,Nat.reduceSub,if_true,lookup_hit,Bool.not_true,decide_eq_true_eq,decide_eq_false_iff_not,List.length_map,Bool.not_eq_eq_eq_not,f_PlaceRow_key,f_PlaceRow_key_b,hr] | ((with_reducible apply tail);case e=>rfl))
 refine pos (by exact Int.natCast_nonneg _) (neg (by lia) ?_)
 repeat (first | simp only [we_v,we_none,we_bin,we_cmp,we_attr,we_len,ws_ife,ws_ret,wl_nil,wl_cons,gI,gY,gR,tB,cI,pGt,bI,oA,aR,nY,insL,retQ,qa,qb,Nat.reduceBEq,lookup_hit,lookup_miss,decide_eq_true_eq,List.length_map,hr] | ((with_reducible apply tail);case e=>rfl))
 split
 ·rename_i h
  rw [if_neg (by lia)] at hQ
  exact hQ
 ·rename_i h
  rw [if_pos (by lia)] at hQ
  repeat (first | simp only [we_v,we_int,we_bin,we_slice,we_attr,wi_e,ws_asg,ws_forr,wl_cons,gI,gY,gR,bI,oA,aR,b11,sY,fY,insL,liL,agV,retQ,qa,qb,qc,qd,Nat.reduceBEq,lookup_hit,lookup_miss,Int.toNat_natCast,hr] | ((with_reducible apply tail);case e=>rfl))
  refine ⟨by exact Int.natCast_nonneg _, by exact Int.natCast_nonneg _, ?_⟩
  have e : ((p : Int) + (s : Int)).toNat = p + s := by rfl
  rw [e]
  refine key_loop (a := 0) _ _ fun z => ?_
  repeat (first | simp only [we_v,ws_ret,wl_nil,wl_cons,gI,retQ,qa,qb] | ((with_reducible apply tail);case e=>rfl))
  have e2 : cut t p (some (p + s)) = (t.drop p).take s := by
   unfold cut; simp only
   rw [List.drop_take,show p + s - p = s by lia]
  rw [e2]
  exact hQ
theorem put_c (F : Fns X) {r : Addr} {t : List Nat} {s p nd : Nat} {la be : Addr} {m : Int → Option V} {l : List V} {σ : AHeap} {Q : V → AHeap → Prop} (hr : σ r = some (.inst 92 (rowF t s la be)))
  (hl : σ la = some (.dict nd m)) (hb : σ be = some (.list l)) (hp : p < t.length) (hn : nd < 1000) (hbl : l.length = t.length) (ne : la ≠ be)
  (hQ : match keyN t p s with | some n => Q .none (upd (upd σ be (.list (l.set p ((m n).getD (.int (-1)))))) la (.dict (nd + 1) fun j => if j = (n : Int) then some (.int p) else m j)) | none => Q .none σ) : WC X (k + 2) (.ref 82) [.ref r, .int p] σ Q := by
 refine wc_of F F.PlaceRow_put rfl ?_
 have hr' := hr
 unfold rowF at hr
 repeat (first | simp only [we_v,we_meth,wz_nil,wz_cons,ws_asg,wl_cons,gI,gR,mR,insL,agV,retQ,initR,qa,qb,qc,qd,qh,qg,qj,qi,Nat.reduceSub,true_and,Nat.reduceBEq,List.lookup_nil,lookup_miss,f_PlaceRow_put,f_PlaceRow_put_b,hr] | ((with_reducible apply tail);case e=>rfl))
 refine ⟨75, rfl, ?_⟩
 refine key_c F hr' (by exact Nat.le_of_lt ‹_›) ?_
 unfold keyV
 have n2 : be ≠ la := fun e => ne e.symm
 split
 ·rename_i n hk
  rw [hk] at hQ
  have nr : r ≠ be := fun e => by rw [e,hb] at hr; cases hr
  repeat (first | simp only [we_v,we_int,we_bool,we_str,we_none,we_neg,we_nowhere,we_bin,we_cmp,we_cmp2,we_isnone,we_and,we_or,we_not,we_ite,we_idx,we_last,we_slice,we_rev,we_attr,we_layers,we_treesize,we_tup,we_lst,we_nlst,we_ndict,we_frz,we_callf,we_meth,we_cmeth,we_len,we_min2,we_max2,we_max1,we_bytes,we_tuple,we_sorted,we_listr,we_lappend,we_dget,we_lindex,we_nrep,we_ncat,we_comp,wz_nil,wz_cons,wi_e,wi_r1,wi_r2,wi_r3,ws_asg,ws_setattr,ws_setidx,ws_aug,ws_ife,ws_forr,ws_wh,ws_ret,ws_retn,ws_brk,ws_pass,ws_raise,ws_expr,wl_nil,wl_cons,wl_fz,gN,gB,gI,gS,gY,gT,gL,gR,tB,cI,cS,cEL,cER,cNL,cNT,thL,thT,thR,pLt,pLe,pGt,pGe,pEq,pNe,bI,bL,oA,oS,oM,oD,oR,oP,aR,kR,mR,lsL,nY,nT,nL,nR,iY,iT,iL,iR,laL,laR,b00,b10,b01,b11,sY,sL,sR,rY,rR,dR,iD,apR,fzR,saR,siR,fT,fL,fY,lL,lR,rg1,rg2,rg3,insL,diL,inL,reL,tuL,liL,byB,byL,byR,isn,isi,agV,agT,agL,setAll,putF,retQ,initR,mkList,qa,qb,qc,qd,List.set_nil,qh,qg,qj,qi,Nat.reduceSub,Nat.reduceAdd,Option.some.injEq,exists_eq_left',ne_eq,reduceCtorEq,not_false_eq_true,true_and,and_true,if_true,if_false,Bool.true_eq_false,Bool.false_eq_true,Option.isSome_some,Nat.reduceBEq,List.lookup_nil,lookup_hit,lookup_miss,bne_self_eq_false,Bool.not_true,Bool.not_false,decide_true,decide_false,ite_true,ite_false,reduceIte,Nat.reduceEqDiff,Nat.reduceLT,Nat.reduceLeDiff,qe,qf,decide_eq_true_eq,Bool.not_eq_true',decide_eq_false_iff_not,Int.toNat_natCast,List.length_map,Bool.and_eq_true,Bool.or_eq_true,Bool.not_eq_eq_eq_not,Bool.not_eq_true,Bool.not_eq_false,hl,hb,hr,upd_ne nr,upd_ne ne] | ((with_reducible apply tail);case e=>rfl))
  refine ⟨by exact Int.natCast_nonneg _, by lia, ?_⟩
  repeat (first | simp only [we_v,we_attr,ws_setidx,wl_nil,wl_cons,gI,gR,aR,siR,insL,diL,qa,qb,Nat.reduceBEq,lookup_hit,lookup_miss,hl,hr,upd_ne nr,upd_ne ne] | ((with_reducible apply tail);case e=>rfl))
  exact ⟨hn, hQ⟩
 ·rename_i hk
  rw [hk] at hQ
  repeat (first | simp only [we_v,we_nowhere,we_isnone,we_attr,we_dget,ws_setidx,ws_ife,wl_nil,wl_cons,gN,gI,gR,tB,aR,isn,retQ,qa,qb,ne_eq,reduceCtorEq,not_false_eq_true,true_and,if_false,Bool.false_eq_true,bne_self_eq_false] | ((with_reducible apply tail);case e=>rfl))
  exact hQ
noncomputable def lastV (m : Int → Option V) : Option Nat → Int
 | some n => (match m n with | some (.int i) => i | _ => -1)
 | none => -1
theorem newest_c (F : Fns X) {r : Addr} {t : List Nat} {s p nd : Nat} {la be : Addr} {m : Int → Option V} {σ : AHeap} {Q : V → AHeap → Prop} (hr : σ r = some (.inst 92 (rowF t s la be)))
  (hl : σ la = some (.dict nd m)) (hp : p ≤ t.length) (hm : ∀ n v, m n = some v → ∃ i : Int, v = .int i) (hlt : lastV m (keyN t p s) < (p : Int))
  (hQ : Q (.int (lastV m (keyN t p s))) σ) : WC X (k + 2) (.ref 89) [.ref r, .int p] σ Q := by
 refine wc_of F F.PlaceRow_newest rfl ?_
 have hr' := hr
 unfold rowF at hr
 repeat (first | simp only [we_v,we_meth,wz_nil,wz_cons,ws_asg,wl_cons,gI,gR,mR,insL,agV,retQ,initR,qa,qb,qc,qd,qh,qg,qj,qi,Nat.reduceSub,true_and,Nat.reduceBEq,List.lookup_nil,lookup_miss,f_PlaceRow_newest,f_PlaceRow_newest_b,hr] | ((with_reducible apply tail);case e=>rfl))
 refine ⟨75, rfl, ?_⟩
 refine key_c F hr' (by assumption) ?_
 unfold keyV
 split
 ·rename_i n hk
  rw [hk] at hQ hlt
  repeat (first | simp only [we_v,we_nowhere,we_isnone,we_attr,we_dget,ws_asg,ws_ife,ws_wh,ws_ret,wl_nil,wl_cons,gI,gR,tB,aR,dR,iD,insL,diL,isi,agV,retQ,qa,qb,qc,qd,ne_eq,reduceCtorEq,not_false_eq_true,true_and,if_false,Bool.false_eq_true,Nat.reduceBEq,lookup_hit,lookup_miss,bne_self_eq_false,hl,hr] | ((with_reducible apply tail);case e=>rfl))
  have e : ∃ i : Int, (m (n : Int)).getD (V.int (-1)) = .int i ∧ lastV m (some n) = i := by
   unfold lastV
   cases q : m (n : Int) with
   | none => exact ⟨-1, rfl, by simp only [q]⟩
   | some v => obtain ⟨i, rfl⟩ := hm _ _ q; exact ⟨i, rfl, by simp only [q]⟩
  obtain ⟨i, e1, e2⟩ := e
  rw [e1]
  rw [e2] at hQ hlt
  refine ⟨1, ?_⟩
  unfold whileP
  repeat (first | simp only [we_v,we_cmp,gI,tB,cI,pGe,qa,qb,decide_eq_true_eq,f_PlaceRow_newest_c1] | ((with_reducible apply tail);case e=>rfl))
  refine neg (by lia) ?_
  repeat (first | simp only [we_v,ws_ret,wl_nil,wl_cons,gI,retQ,qa,qb] | ((with_reducible apply tail);case e=>rfl))
  exact hQ
 ·rename_i hk
  rw [hk] at hQ
  repeat (first | simp only [we_v,we_nowhere,we_isnone,ws_ife,ws_ret,wl_nil,wl_cons,gN,tB,isn,retQ,qa,qb,ne_eq,reduceCtorEq,not_false_eq_true,true_and] | ((with_reducible apply tail);case e=>rfl))
  exact hQ
end
end Mine
end

section
open PySem PySem.Calls PyProof.Rows PySem.W
set_option backward.defeqAttrib.useBackward true
set_option maxRecDepth 20000
namespace Mine
section
variable {X : Cx} {k : Nat}
structure Mt (σ : AHeap) (f C : Addr) (fs : List (Nat × V)) (t : List Nat) (least w ch ah : Nat) : Prop where
 obj : σ f = some (.inst C fs)
 f0 : fs.lookup 0 = some (.bytes t)
 f4 : fs.lookup 4 = some (.int least)
 f5 : fs.lookup 5 = some (.int w)
 f6 : fs.lookup 6 = some (.int ch)
 f7 : fs.lookup 7 = some (.int ah)
 nom : ∀ m, 14 ≤ m → fs.lookup m = none
noncomputable def isF (C : Addr) : Prop := C = 226 ∨ C = 274 ∨ C = 307
theorem isF.m15 {C : Addr} (h : isF C) : meth C 15 = some 117 := by rcases h with rfl | rfl | rfl <;> rfl
theorem isF.m18 {C : Addr} (h : isF C) : meth C 18 = some 138 := by rcases h with rfl | rfl | rfl <;> rfl
theorem isF.m19 {C : Addr} (h : isF C) : meth C 19 = some 145 := by rcases h with rfl | rfl | rfl <;> rfl
theorem isF.m20 {C : Addr} (h : isF C) : meth C 20 = some 152 := by rcases h with rfl | rfl | rfl <;> rfl
theorem isF.m21 {C : Addr} (h : isF C) : meth C 21 = some 159 := by rcases h with rfl | rfl | rfl <;> rfl
theorem isF.m23 {C : Addr} (h : isF C) : meth C 23 = some 180 := by rcases h with rfl | rfl | rfl <;> rfl
variable {σ : AHeap} {f C : Addr} {fs : List (Nat × V)} {t : List Nat} {least w ch ah : Nat} {Q : V → AHeap → Prop}
theorem limit_c (F : Fns X) (M : Mt σ f C fs t least w ch ah) {p m : Nat} (hp : p ≤ t.length) (hQ : Q (.int (min m (t.length - p) : Nat)) σ) : WC X (k + 1) (.ref 138) [.ref f, .int p, .int m] σ Q := by
 refine wc_of F F.Matcher_limit rfl ?_
 repeat (first | simp only [we_v,we_bin,we_attr,we_len,we_min2,ws_ret,wl_nil,wl_cons,gI,gY,gR,bI,oS,aR,nY,insL,inL,retQ,initR,qa,qb,qh,qg,qi,Nat.reduceSub,List.length_map,f_Matcher_limit,f_Matcher_limit_b,M.obj,M.f0] | ((with_reducible apply tail);case e=>rfl))
 have e : min (m : Int) ((t.length : Int) - (p : Int)) = ((min m (t.length - p) : Nat) : Int) := by lia
 rw [e]
 exact hQ
theorem near_c (F : Fns X) (M : Mt σ f C fs t least w ch ah) {p : Nat} {o : Int} (hQ : Q (.bool (decide (o ≠ -1 ∧ (p : Int) - o ≤ w))) σ) : WC X (k + 1) (.ref 159) [.ref f, .int p, .int o] σ Q := by
 refine wc_of F F.Matcher_is_near rfl ?_
 repeat (first | simp only [we_v,we_nowhere,we_bin,we_cmp,we_and,we_attr,ws_ret,wl_nil,wl_cons,gI,gR,tB,cI,pLe,pNe,bI,oS,aR,insL,retQ,initR,qa,qb,qh,qg,qi,Nat.reduceSub,Bool.not_true,decide_eq_false_iff_not,Bool.not_eq_eq_eq_not,f_Matcher_is_near,f_Matcher_is_near_b,M.obj,M.f5] | ((with_reducible apply tail);case e=>rfl))
 by_cases h : o = -1
 ·rw [if_neg (by simpa using h)]
  rw [decide_eq_false (by lia)] at hQ
  exact hQ
 ·rw [if_pos (by simpa using h)]
  have e : decide (o ≠ -1 ∧ (p : Int) - o ≤ w) = decide ((p : Int) - o ≤ w) := by simp [h]
  rw [e] at hQ
  exact hQ
theorem get_b {t : List Nat} {i : Nat} (h : i < t.length) : (t.map fun (n : Nat) => V.int (n : Int))[i]? = some (.int ((dg t i - 1 : Nat) : Int)) := by
 rw [List.getElem?_map,(dg_in h).1]; rfl
theorem dg_eq {t : List Nat} {i j : Nat} (hi : i < t.length) (hj : j < t.length) : (((dg t i - 1 : Nat) : Int) = ((dg t j - 1 : Nat) : Int)) ↔ dg t i = dg t j := by
 have := (dg_in hi).2; have := (dg_in hj).2; lia
theorem dg_lt {t : List Nat} {i j : Nat} (hi : i < t.length) (hj : j < t.length) : (((dg t i - 1 : Nat) : Int) < ((dg t j - 1 : Nat) : Int)) ↔ dg t i < dg t j := by
 have := (dg_in hi).2; have := (dg_in hj).2; lia
theorem alike_loop {p q limit : Nat} {s : V} {R : Fl → List V → AHeap → Prop} (hq : q < p) (hl : limit ≤ t.length - p) (hp : p ≤ t.length) (hR : R .next [s, .int p, .int q, .int (min (L t p q) limit : Nat), .int limit, .bytes t] σ) : ∀ (d j : Nat), j + d = min (L t p q) limit →
  whileP (fun ρ σ Q => wpE X k f_Matcher_alike_c1 ρ σ fun u σ₁ => truthP u fun b => Q b σ₁) (fun ρ σ Q => wpSs X k f_Matcher_alike_b2 ρ σ Q) R (d + 1) [s, .int p, .int q, .int j, .int limit, .bytes t] σ
 | d, j, h => by
  unfold whileP
  generalize hK : whileP _ _ R d = K
  repeat (first | simp only [we_v,we_bin,we_cmp,we_and,we_idx,gI,gY,tB,cI,pLt,bI,oA,iY,qa,qb,if_false,Bool.false_eq_true,decide_eq_true_eq,f_Matcher_alike_c1] | ((with_reducible apply tail);case e=>rfl))
  have e1 : ((p : Int) + (j : Int)).toNat = p + j := by rfl
  have e2 : ((q : Int) + (j : Int)).toNat = q + j := by rfl
  by_cases hj : j < limit
  ·rw [if_pos (by exact Int.ofNat_lt.mpr ‹_›)]
   refine ⟨by exact Int.natCast_nonneg _, _, by rw [e1]; exact get_b (by lia), by exact Int.natCast_nonneg _, _, by rw [e2]; exact get_b (by lia), ?_⟩
   repeat (first | simp only [cI,pEq,decide_eq_true_eq] | ((with_reducible apply tail);case e=>rfl))
   cases d with
   | zero =>
    refine neg ?_ ?_
    ·rw [dg_eq (by lia) (by lia)]
     have hj : j = L t p q := by lia
     subst hj
     exact L_ne (by exact Nat.ne_of_gt ‹_›) (by lia) (by exact Nat.le_trans ‹_› ‹_›)
    ·rw [show min (L t p q) limit = j by lia] at hR
     exact hR
   | succ d =>
    refine pos ((dg_eq (by lia) (by lia)).mpr (L_eq (by lia))) ?_
    repeat (first | simp only [we_int,ws_aug,wl_nil,wl_cons,gI,inL,qa,qb,qc,qd,true_and,f_Matcher_alike_b2] | ((with_reducible apply tail);case e=>rfl))
    have e3 : (j : Int) + 1 = ((j + 1 : Nat) : Int) := by rfl
    rw [e3,← hK]
    exact alike_loop hq hl hp hR d (j + 1) (by lia)
  ·rw [if_neg (by exact mt Int.ofNat_lt.mp ‹_›)]
   repeat (first | simp only [we_v,we_int,we_bool,we_str,we_none,we_neg,we_nowhere,we_bin,we_cmp,we_cmp2,we_isnone,we_and,we_or,we_not,we_ite,we_idx,we_last,we_slice,we_rev,we_attr,we_layers,we_treesize,we_tup,we_lst,we_nlst,we_ndict,we_frz,we_callf,we_meth,we_cmeth,we_len,we_min2,we_max2,we_max1,we_bytes,we_tuple,we_sorted,we_listr,we_lappend,we_dget,we_lindex,we_nrep,we_ncat,we_comp,wz_nil,wz_cons,wi_e,wi_r1,wi_r2,wi_r3,ws_asg,ws_setattr,ws_setidx,ws_aug,ws_ife,ws_forr,ws_wh,ws_ret,ws_retn,ws_brk,ws_pass,ws_raise,ws_expr,wl_nil,wl_cons,wl_fz,gN,gB,gI,gS,gY,gT,gL,gR,tB,cI,cS,cEL,cER,cNL,cNT,thL,thT,thR,pLt,pLe,pGt,pGe,pEq,pNe,bI,bL,oA,oS,oM,oD,oR,oP,aR,kR,mR,lsL,nY,nT,nL,nR,iY,iT,iL,iR,laL,laR,b00,b10,b01,b11,sY,sL,sR,rY,rR,dR,iD,apR,fzR,saR,siR,fT,fL,fY,lL,lR,rg1,rg2,rg3,insL,diL,inL,reL,tuL,liL,byB,byL,byR,isn,isi,agV,agT,agL,setAll,putF,retQ,initR,mkList,qa,qb,qc,qd,List.set_nil,qh,qg,qj,qi,Nat.reduceSub,Nat.reduceAdd,Option.some.injEq,exists_eq_left',ne_eq,reduceCtorEq,not_false_eq_true,true_and,and_true,if_true,if_false,Bool.true_eq_false,Bool.false_eq_true,Option.isSome_some,Nat.reduceBEq,List.lookup_nil,lookup_hit,lookup_miss,bne_self_eq_false,Bool.not_true,Bool.not_false,decide_true,decide_false,ite_true,ite_false,reduceIte,Nat.reduceEqDiff,Nat.reduceLT,Nat.reduceLeDiff,qe,qf,decide_eq_true_eq,Bool.not_eq_true',decide_eq_false_iff_not,Int.toNat_natCast,List.length_map,Bool.and_eq_true,Bool.or_eq_true,Bool.not_eq_eq_eq_not,Bool.not_eq_true,Bool.not_eq_false] | ((with_reducible apply tail);case e=>rfl))
   rw [show min (L t p q) limit = j by lia] at hR
   exact hR
theorem alike_c (F : Fns X) (M : Mt σ f C fs t least w ch ah) {p q kn limit : Nat} (hq : q < p) (hl : limit ≤ t.length - p) (hp : p ≤ t.length) (hk : kn ≤ min (L t p q) limit) (hQ : Q (.int (min (L t p q) limit : Nat)) σ) :
  WC X (k + 1) (.ref 152) [.ref f, .int p, .int q, .int kn, .int limit] σ Q := by
 refine wc_of F F.Matcher_alike rfl ?_
 repeat (first | simp only [we_v,we_attr,ws_asg,ws_wh,wl_cons,gY,gR,aR,insL,agV,retQ,initR,qa,qc,qd,qh,qg,qj,qi,Nat.reduceSub,f_Matcher_alike,f_Matcher_alike_b,M.obj,M.f0] | ((with_reducible apply tail);case e=>rfl))
 refine ⟨_, alike_loop hq hl hp ?_ (min (L t p q) limit - kn) kn (by lia)⟩
 repeat (first | simp only [we_v,ws_ret,wl_nil,wl_cons,gI,retQ,qa,qb] | ((with_reducible apply tail);case e=>rfl))
 exact hQ
theorem length_c (F : Fns X) (hC : isF C) (M : Mt σ f C fs t least w ch ah) {p q m : Nat} (hq : q < p) (hp : p ≤ t.length) (hQ : Q (.int (min (L t p q) (min m (t.length - p)) : Nat)) σ) :
  WC X (k + 2) (.ref 145) [.ref f, .int p, .int q, .int m] σ Q := by
 refine wc_of F F.Matcher_length rfl ?_
 repeat (first | simp only [we_v,we_int,we_cmp2,we_not,ws_ife,ws_raise,wl_nil,wl_cons,gI,tB,cI,pLt,pLe,retQ,initR,qa,qb,qh,qg,qi,Nat.reduceSub,if_true,Bool.not_true,decide_eq_true_eq,decide_eq_false_iff_not,Bool.not_eq_eq_eq_not,f_Matcher_length,f_Matcher_length_b] | ((with_reducible apply tail);case e=>rfl))
 refine pos (by exact Int.natCast_nonneg _) (neg (by lia) ?_)
 repeat (first | simp only [we_v,we_int,we_meth,wz_nil,wz_cons,ws_ret,wl_nil,wl_cons,gI,gR,mR,insL,retQ,qa,qb,Option.some.injEq,exists_eq_left',true_and,M.obj,M.nom 20 (by decide),M.nom 18 (by decide),hC.m20,hC.m18] | ((with_reducible apply tail);case e=>rfl))
 refine limit_c F M hp ?_
 repeat (first | simp only [we_v,we_int,we_bool,we_str,we_none,we_neg,we_nowhere,we_bin,we_cmp,we_cmp2,we_isnone,we_and,we_or,we_not,we_ite,we_idx,we_last,we_slice,we_rev,we_attr,we_layers,we_treesize,we_tup,we_lst,we_nlst,we_ndict,we_frz,we_callf,we_meth,we_cmeth,we_len,we_min2,we_max2,we_max1,we_bytes,we_tuple,we_sorted,we_listr,we_lappend,we_dget,we_lindex,we_nrep,we_ncat,we_comp,wz_nil,wz_cons,wi_e,wi_r1,wi_r2,wi_r3,ws_asg,ws_setattr,ws_setidx,ws_aug,ws_ife,ws_forr,ws_wh,ws_ret,ws_retn,ws_brk,ws_pass,ws_raise,ws_expr,wl_nil,wl_cons,wl_fz,gN,gB,gI,gS,gY,gT,gL,gR,tB,cI,cS,cEL,cER,cNL,cNT,thL,thT,thR,pLt,pLe,pGt,pGe,pEq,pNe,bI,bL,oA,oS,oM,oD,oR,oP,aR,kR,mR,lsL,nY,nT,nL,nR,iY,iT,iL,iR,laL,laR,b00,b10,b01,b11,sY,sL,sR,rY,rR,dR,iD,apR,fzR,saR,siR,fT,fL,fY,lL,lR,rg1,rg2,rg3,insL,diL,inL,reL,tuL,liL,byB,byL,byR,isn,isi,agV,agT,agL,setAll,putF,retQ,initR,mkList,qa,qb,qc,qd,List.set_nil,qh,qg,qj,qi,Nat.reduceSub,Nat.reduceAdd,Option.some.injEq,exists_eq_left',ne_eq,reduceCtorEq,not_false_eq_true,true_and,and_true,if_true,if_false,Bool.true_eq_false,Bool.false_eq_true,Option.isSome_some,Nat.reduceBEq,List.lookup_nil,lookup_hit,lookup_miss,bne_self_eq_false,Bool.not_true,Bool.not_false,decide_true,decide_false,ite_true,ite_false,reduceIte,Nat.reduceEqDiff,Nat.reduceLT,Nat.reduceLeDiff,qe,qf,decide_eq_true_eq,Bool.not_eq_true',decide_eq_false_iff_not,Int.toNat_natCast,List.length_map,Bool.and_eq_true,Bool.or_eq_true,Bool.not_eq_eq_eq_not,Bool.not_eq_true,Bool.not_eq_false] | ((with_reducible apply tail);case e=>rfl))
 exact alike_c (kn := 0) (limit := min m (t.length - p)) F M hq (by exact Nat.min_le_right _ _) hp (by exact Nat.zero_le _) hQ
noncomputable def pairN (x : Nat × Nat) : V := .tup [.int (x.1 : Nat), .int (x.2 : Nat)]
noncomputable def Ext (σ σ' : AHeap) : Prop := ∀ a o, σ a = some o → σ' a = some o
theorem Ext.refl {σ : AHeap} : Ext σ σ := fun _ _ h => h
theorem Ext.trans {σ σ' σ'' : AHeap} (x : Ext σ σ') (y : Ext σ' σ'') : Ext σ σ'' := fun a o h => y a o (x a o h)
theorem Ext.upd {σ : AHeap} {a : Addr} {o : AObj} (h : σ a = none) : Ext σ (upd σ a o) := fun b o' e => by
 by_cases q : b = a
 ·subst q; rw [h] at e; cases e
 ·rw [upd_ne q]; exact e
noncomputable def Fram (foot : Addr → Prop) (σ σ' : AHeap) : Prop := ∀ a o, ¬ foot a → σ a = some o → σ' a = some o
theorem Ext.fram {foot : Addr → Prop} {σ σ' : AHeap} (x : Ext σ σ') : Fram foot σ σ' := fun a o _ h => x a o h
theorem Fram.trans {foot : Addr → Prop} {σ σ' σ'' : AHeap} (x : Fram foot σ σ') (y : Fram foot σ' σ'') : Fram foot σ σ'' := fun a o n h => y a o n (x a o n h)
structure Fi (X : Cx) (k : Nat) (t : List Nat) (least w : Nat) (f : Addr) (foot : Addr → Prop) (Inv : Nat → AHeap → Prop) : Prop where
 self : foot f
 mt : ∀ i σ, Inv i σ → ∃ C fs ch, isF C ∧ Mt σ f C fs t least w ch i
 keep : ∀ i (σ σ' : AHeap), Inv i σ → (∀ a o, foot a → σ a = some o → σ' a = some o) → Inv i σ'
 live : ∀ i (σ : AHeap), Inv i σ → ∀ a, foot a → σ a ≠ none
 every : ∀ i (σ : AHeap) (m : Nat), Inv i σ → i < t.length →
  ∃ C fs fn, σ f = some (.inst C fs) ∧ fs.lookup 22 = none ∧ meth C 22 = some fn ∧ WC X k (.ref fn) [.ref f, .int i, .int m] σ (fun v σ' => v = .list ((recs t i (min m (t.length - i)) (least - 1) (cands i w)).map pairN) ∧ Ext σ σ')
 put : ∀ i (σ : AHeap), Inv i σ → i < t.length → WC X k (.ref 117) [.ref f, .int i] σ (fun v σ' => Inv (i + 1) σ' ∧ Fram foot σ σ')
noncomputable def bestN (l : List (Nat × Nat)) : Nat × Nat := l.getLast?.getD (0, 0)
theorem best_c (F : Fns X) {foot : Addr → Prop} {Inv : Nat → AHeap → Prop} (Z : Fi X k t least w f foot Inv) {i m : Nat} (hI : Inv i σ) (hi : i < t.length)
  (hQ : ∀ σ', Ext σ σ' → Q (pairN (bestN (recs t i (min m (t.length - i)) (least - 1) (cands i w)))) σ') : WC X (k + 1) (.ref 180) [.ref f, .int i, .int m] σ Q := by
 refine wc_of F F.Matcher_best rfl ?_
 obtain ⟨C, fs, fn, h1, h2, h3, h4⟩ := Z.every i σ m hI hi
 repeat (first | simp only [we_v,we_meth,wz_nil,wz_cons,ws_asg,wl_cons,gI,gR,mR,insL,agV,retQ,initR,qa,qb,qc,qd,qh,qg,qj,qi,Nat.reduceSub,Option.some.injEq,exists_eq_left',true_and,f_Matcher_best,f_Matcher_best_b,h1,h2,h3] | ((with_reducible apply tail);case e=>rfl))
 refine h4.mono fun v σ' ⟨ev, e⟩ => ?_
 subst ev
 have hQ' := hQ σ' e
 generalize hl : recs t i (min m (t.length - i)) (least - 1) (cands i w) = l
 rw [hl] at hQ'
 repeat (first | simp only [we_v,we_int,we_cmp,we_ite,we_last,we_tup,we_len,wz_nil,wz_cons,ws_ret,wl_nil,wl_cons,gL,tB,cI,pGt,nL,laL,retQ,qa,qb,true_and,Nat.reduceLeDiff,qe,qf,decide_eq_true_eq,List.length_map] | ((with_reducible apply tail);case e=>rfl))
 cases l with
 | nil => exact neg (by simp) hQ'
 | cons a l =>
  refine pos (by simp) ?_
  have e1 : ((a :: l).map pairN).getLast? = some (pairN (bestN (a :: l))) := by
   rw [List.getLast?_map]
   unfold bestN
   cases q : (a :: l).getLast? with
   | none => simp at q
   | some x => rfl
  exact ⟨_, e1, hQ'⟩
end
end Mine
end

section
namespace Mine
section
variable {t : List Nat}
noncomputable def chainL (t : List Nat) (s : Nat) (n : Nat) : Nat → List Nat
 | 0 => []
 | i + 1 => if keyN t i s = some n then i :: chainL t s n i else chainL t s n i
noncomputable def headI : List Nat → Int
 | [] => -1
 | c :: _ => c
theorem chainL_mem {s n c : Nat} : ∀ {i : Nat}, c ∈ chainL t s n i ↔ c < i ∧ keyN t c s = some n
 | 0 => by simp [chainL]
 | i + 1 => by
  unfold chainL
  split
  ·rename_i h
   rw [List.mem_cons,chainL_mem]
   constructor
   ·rintro (rfl | ⟨h1, h2⟩)
    ·exact ⟨by exact Nat.lt_succ_self _, h⟩
    ·exact ⟨by exact Nat.lt_succ_of_lt ‹_›, h2⟩
   ·rintro ⟨h1, h2⟩
    by_cases e : c = i
    ·exact .inl e
    ·exact .inr ⟨by lia, h2⟩
  ·rename_i h
   rw [chainL_mem]
   constructor
   ·rintro ⟨h1, h2⟩; exact ⟨by exact Nat.lt_succ_of_lt ‹_›, h2⟩
   ·rintro ⟨h1, h2⟩
    have : c ≠ i := fun e => h (by rw [← e]; exact h2)
    exact ⟨by lia, h2⟩
theorem chainL_desc {s n : Nat} : ∀ {i : Nat}, (chainL t s n i).Pairwise (· > ·)
 | 0 => by simp [chainL]
 | i + 1 => by
  unfold chainL
  split
  ·rw [List.pairwise_cons]
   exact ⟨fun c h => (chainL_mem.mp h).1, chainL_desc⟩
  ·exact chainL_desc
theorem chainL_cons {s n c : Nat} {r : List Nat} : ∀ {i : Nat}, chainL t s n i = c :: r → r = chainL t s n c ∧ c < i ∧ keyN t c s = some n
 | 0, h => by simp [chainL] at h
 | i + 1, h => by
  unfold chainL at h
  split at h
  ·rename_i hk
   cases h
   exact ⟨rfl, by exact Nat.lt_succ_self _, hk⟩
  ·obtain ⟨h1, h2, h3⟩ := chainL_cons h
   exact ⟨h1, by exact Nat.lt_succ_of_lt ‹_›, h3⟩
theorem desc_sub : ∀ {l1 l2 : List Nat}, l2.Pairwise (· > ·) → l1.Pairwise (· > ·) → (∀ c ∈ l2, c ∈ l1) → l2.Sublist l1
 | [], [], _, _, _ => .slnil
 | [], a :: l2, _, _, h => by cases h a List.mem_cons_self
 | a :: l1, [], _, _, _ => List.nil_sublist _
 | a :: l1, b :: l2, h2, h1, h => by
  rw [List.pairwise_cons] at h1 h2
  by_cases e : b = a
  ·subst e
   refine .cons_cons _ (desc_sub h2.2 h1.2 fun c hc => ?_)
   rcases List.mem_cons.mp (h c (List.mem_cons_of_mem _ hc)) with rfl | h3
   ·exact absurd (h2.1 c hc) (Nat.lt_irrefl _)
   ·exact h3
  ·refine .cons _ (desc_sub (List.pairwise_cons.mpr h2) h1.2 fun c hc => ?_)
   have hb : b ∈ l1 := by
    rcases List.mem_cons.mp (h b List.mem_cons_self) with h3 | h3
    ·exact absurd h3 e
    ·exact h3
   rcases List.mem_cons.mp (h c hc) with rfl | h3
   ·have := h1.1 b hb
    rcases List.mem_cons.mp hc with h4 | h4
    ·exact absurd h4.symm e
    ·have := h2.1 c h4; lia
   ·exact h3
theorem num256_snoc (l : List Nat) (o : Nat) : num256 (l ++ [o]) = num256 l * 256 + o := by unfold num256; rw [List.foldl_append]; rfl
theorem num256_inj : ∀ (m : Nat) (l l' : List Nat), l.length = m → l'.length = m → (∀ o ∈ l, o < 256) → (∀ o ∈ l', o < 256) → num256 l = num256 l' → l = l'
 | 0, l, l', h1, h2, _, _, _ => by rw [List.length_eq_zero_iff] at h1 h2; rw [h1,h2]
 | m + 1, l, l', h1, h2, b1, b2, e => by
  have d1 := List.dropLast_concat_getLast (l := l) (by intro h; rw [h] at h1; cases h1)
  have d2 := List.dropLast_concat_getLast (l := l') (by intro h; rw [h] at h2; cases h2)
  rw [← d1,← d2] at e
  rw [num256_snoc,num256_snoc] at e
  have l1 := b1 _ (List.getLast_mem (l := l) (by intro h; rw [h] at h1; cases h1))
  have l2 := b2 _ (List.getLast_mem (l := l') (by intro h; rw [h] at h2; cases h2))
  have e1 : num256 l.dropLast = num256 l'.dropLast := by lia
  have e2 := num256_inj m l.dropLast l'.dropLast (by simp [h1]) (by simp [h2]) (fun o h => b1 o (List.dropLast_subset _ h)) (fun o h => b2 o (List.dropLast_subset _ h)) e1
  rw [← d1,← d2,e2]
  congr 2
  lia
theorem keyN_iff {s p q : Nat} (hb : ∀ o ∈ t, o < 256) (hq : q < p) (hp : p + s ≤ t.length) (hs : 0 < s) : keyN t q s = keyN t p s ↔ s ≤ L t p q := by
 unfold keyN
 rw [if_pos (by lia),if_pos hp]
 have m : ∀ r, (∀ o ∈ (t.drop r).take s, o < 256) := fun r o h => hb o (List.drop_subset _ _ (List.take_subset _ _ h))
 constructor
 ·intro e
  have e2 := num256_inj s _ _ (by simp; lia) (by simp; lia) (m _) (m _) (Option.some.inj e)
  refine L_ge (by exact Nat.ne_of_gt ‹_›) (by lia) (by lia) fun i hi => dg_of ?_
  have e3 : ((t.drop q).take s)[i]? = ((t.drop p).take s)[i]? := by rw [e2]
  rw [List.getElem?_take_of_lt hi,List.getElem?_take_of_lt hi,List.getElem?_drop,List.getElem?_drop] at e3
  exact e3.symm
 ·intro h
  congr 2
  apply List.ext_getElem?
  intro i
  by_cases hi : i < s
  ·rw [List.getElem?_take_of_lt hi,List.getElem?_take_of_lt hi,List.getElem?_drop,List.getElem?_drop]
   exact (dg_inj (L_eq (by exact Nat.le_trans ‹_› ‹_›))).symm
  ·rw [List.getElem?_eq_none (by simp; lia),List.getElem?_eq_none (by simp; lia)]
theorem keyN_some {s p : Nat} (h : p + s ≤ t.length) : ∃ n, keyN t p s = some n := by unfold keyN; rw [if_pos h]; exact ⟨_, rfl⟩
theorem keyN_none {s p : Nat} (h : t.length < p + s) : keyN t p s = none := by unfold keyN; rw [if_neg (by exact Nat.not_le.mpr ‹_›)]
theorem chain_recs {s p w lim n : Nat} (hb : ∀ o ∈ t, o < 256) (hs : 0 < s) (hn : keyN t p s = some n) : recs t p lim (s - 1) ((chainL t s n p).filter fun q => decide (p - q ≤ w)) = recs t p lim (s - 1) (cands p w) := by
 have hp : p + s ≤ t.length := by
  rcases Nat.lt_or_ge t.length (p + s) with h | h
  ·rw [keyN_none h] at hn; cases hn
  ·exact h
 refine recs_sub (desc_sub (chainL_desc.filter _) cands_desc fun c h => ?_) cands_desc fun c h1 h2 => ?_
 ·rw [List.mem_filter,chainL_mem] at h
  exact cands_mem.mpr ⟨h.1.1, by simpa using h.2⟩
 ·refine .inl ?_
  rw [cands_mem] at h1
  have : ¬ (s ≤ L t p c) := fun h => h2 (by
   rw [List.mem_filter,chainL_mem]
   exact ⟨⟨h1.1, ((keyN_iff hb h1.1 hp hs).mpr h).trans hn⟩, by simpa using h1.2⟩)
  unfold fv; lia
theorem none_recs {s p w lim : Nat} (hs : 0 < s) (hn : keyN t p s = none) : recs t p lim (s - 1) (cands p w) = [] := by
 refine recs_nil fun c hc => ?_
 have := (L_le (t := t) (p := p) (q := c)).1
 have hp : t.length < p + s := by
  rcases Nat.lt_or_ge t.length (p + s) with h | h
  ·exact h
  ·obtain ⟨m, e⟩ := keyN_some h; rw [hn] at e; cases e
 unfold fv; lia
end
end Mine
end

section
open PySem PySem.Calls PyProof.Rows PySem.W
set_option backward.defeqAttrib.useBackward true
set_option maxRecDepth 20000
namespace Mine
theorem upd_upd {σ : AHeap} {a : Addr} {o o' : AObj} : upd (upd σ a o) a o' = upd σ a o' := by
 funext b; unfold upd; split <;> rfl
theorem del_upd {σ : AHeap} {a : Addr} {o : AObj} (h : σ a = none) : del (upd σ a o) a = σ := by
 funext b; unfold upd del; split
 ·rename_i e; rw [e,h]
 ·rename_i e; exact if_neg e
section
variable {X : Cx} {k : Nat}
variable {σ : AHeap} {f C : Addr} {fs : List (Nat × V)} {t : List Nat} {least w ch ah : Nat} {Q : V → AHeap → Prop}
theorem Mt.mono {σ' : AHeap} (M : Mt σ f C fs t least w ch ah) (h : ∀ o, σ f = some o → σ' f = some o) : Mt σ' f C fs t least w ch ah := ⟨h _ M.obj, M.f0, M.f4, M.f5, M.f6, M.f7, M.nom⟩
structure Row (σ : AHeap) (r : Addr) (t : List Nat) (s : Nat) (la be : Addr) (i : Nat) : Prop where
 obj : σ r = some (.inst 92 (rowF t s la be))
 di : ∃ nd m, σ la = some (.dict nd m) ∧ nd ≤ i ∧ (∀ n v, m n = some v → ∃ z : Int, v = .int z) ∧ ∀ n : Nat, (m n).getD (.int (-1)) = .int (headI (chainL t s n i))
 li : ∃ l, σ be = some (.list l) ∧ l.length = t.length ∧ ∀ q, q < i → ∀ n, keyN t q s = some n → l[q]? = some (.int (headI (chainL t s n q)))
noncomputable def rowFt (r la be : Addr) : Addr → Prop := fun a => a = r ∨ a = la ∨ a = be
theorem Row.keep {σ' : AHeap} {r la be : Addr} {s i : Nat} (x : Row σ r t s la be i) (h : ∀ a o, rowFt r la be a → σ a = some o → σ' a = some o) : Row σ' r t s la be i := by
 obtain ⟨a, ⟨nd, m, b1, b2⟩, ⟨l, c1, c2⟩⟩ := x
 exact ⟨h _ _ (.inl rfl) a, ⟨nd, m, h _ _ (.inr (.inl rfl)) b1, b2⟩, ⟨l, h _ _ (.inr (.inr rfl)) c1, c2⟩⟩
theorem Row.live {r la be : Addr} {s i : Nat} (x : Row σ r t s la be i) : ∀ a, rowFt r la be a → σ a ≠ none := by
 obtain ⟨h1, ⟨nd, m, h2, _⟩, ⟨l, h3, _⟩⟩ := x
 rintro a (rfl | rfl | rfl) e
 ·rw [h1] at e; cases e
 ·rw [h2] at e; cases e
 ·rw [h3] at e; cases e
noncomputable def newestI (t : List Nat) (s i : Nat) : Int := match keyN t i s with | some n => headI (chainL t s n i) | none => -1
theorem headI_lt {s n i : Nat} : headI (chainL t s n i) < (i : Int) := by
 cases e : chainL t s n i with
 | nil => simp [headI]; lia
 | cons c r => have := (chainL_cons e).2.1; simp [headI]; lia
theorem newest_r (F : Fns X) {r la be : Addr} {s i : Nat} (x : Row σ r t s la be i) (hi : i ≤ t.length) (hQ : Q (.int (newestI t s i)) σ) : WC X (k + 2) (.ref 89) [.ref r, .int i] σ Q := by
 obtain ⟨a, ⟨nd, m, b1, b2, b3, b4⟩, ⟨l, c1, c2⟩⟩ := x
 have e : lastV m (keyN t i s) = newestI t s i := by
  unfold lastV newestI
  cases hk : keyN t i s with
  | none => rfl
  | some n =>
   have h4 := b4 n
   dsimp only
   cases q : m (n : Int) with
   | none => rw [q] at h4; simpa using h4
   | some v => obtain ⟨z, rfl⟩ := b3 _ _ q; rw [q] at h4; simpa using h4
 refine newest_c F a b1 hi b3 ?_ ?_
 ·rw [e]; unfold newestI; split
  ·exact headI_lt
  ·lia
 ·rw [e]; exact hQ
theorem put_r (F : Fns X) {r la be : Addr} {s i : Nat} (x : Row σ r t s la be i) (hi : i < t.length) (hn : t.length ≤ 900) :
  WC X (k + 2) (.ref 82) [.ref r, .int i] σ (fun v σ' => Row σ' r t s la be (i + 1) ∧ Fram (rowFt r la be) σ σ') := by
 obtain ⟨a, ⟨nd, m, b1, b2, b3, b4⟩, ⟨l, c1, c2, c3⟩⟩ := x
 have ne : la ≠ be := fun e => by rw [e,c1] at b1; cases b1
 have n1 : r ≠ la := fun e => by rw [e,b1] at a; cases a
 have n2 : r ≠ be := fun e => by rw [e,c1] at a; cases a
 refine put_c F a b1 c1 hi (by lia) c2 ne ?_
 cases hk : keyN t i s with
 | none =>
  refine ⟨⟨a, ⟨nd, m, b1, by exact Nat.le_succ_of_le ‹_›, b3, fun n => ?_⟩, ⟨l, c1, c2, fun q hq n hn => ?_⟩⟩, fun b o _ e => e⟩
  ·rw [b4, chainL, if_neg (by rw [hk]; simp)]
  ·rcases Nat.lt_or_ge q i with h | h
   ·exact c3 q h n hn
   ·rw [show q = i by lia,hk] at hn; cases hn
 | some n =>
  refine ⟨⟨?_, ⟨nd + 1, _, upd_self, by exact Nat.succ_le_succ ‹_›, fun j v hv => ?_, fun n' => ?_⟩, ⟨_, by rw [upd_ne ne.symm]; exact upd_self, by simp [c2], fun q hq n' hn' => ?_⟩⟩, fun b o nb e => ?_⟩
  ·rw [upd_ne n1,upd_ne n2]; exact a
  ·replace hv : (if j = (n : Int) then some (V.int (i : Int)) else m j) = some v := hv
   split at hv
   ·cases hv; exact ⟨_, rfl⟩
   ·exact b3 _ _ hv
  ·show (if (n' : Int) = (n : Int) then some (V.int (i : Int)) else m n').getD _ = _
   by_cases h : n' = n
   ·subst h
    rw [if_pos rfl,chainL,if_pos hk]
    rfl
   ·rw [if_neg (by lia), b4, chainL, if_neg (by rw [hk]; simp; lia)]
  ·rcases Nat.lt_or_ge q i with h | h
   ·rw [List.getElem?_set_ne (by exact Nat.ne_of_gt ‹_›)]
    exact c3 q h n' hn'
   ·have e : q = i := by lia
    subst e
    rw [hk] at hn'
    cases hn'
    rw [List.getElem?_set_self (by lia),b4]
  ·rw [upd_ne (fun e => nb (.inr (.inl e))),upd_ne (fun e => nb (.inr (.inr e)))]
   exact e
theorem mput_c (F : Fns X) {fe : Addr} {i : Nat} (hC : meth C 17 = some fe) (M : Mt σ f C fs t least w ch i) (hl : fs.length < 100) (hi : i < t.length)
  (h : WC X k (.ref fe) [.ref f, .int i] (upd σ f (.inst C (putF 7 (.int (i + 1 : Nat)) fs))) fun _ σ' => Q .none σ') (hnom : (putF 7 (.int (i + 1 : Nat)) fs).lookup 17 = none) : WC X (k + 1) (.ref 117) [.ref f, .int i] σ Q := by
 refine wc_of F F.Matcher_put rfl ?_
 unfold f_Matcher_put f_Matcher_put_b
 repeat (first | simp only [we_v,we_cmp,we_or,we_attr,we_len,ws_ife,ws_raise,wl_nil,wl_cons,gI,gY,gR,tB,cI,pLt,pGe,aR,nY,insL,retQ,initR,qa,qb,qh,qg,qi,Nat.reduceSub,if_true,decide_eq_true_eq,List.length_map,M.obj,M.f0,M.f7] | ((with_reducible apply tail);case e=>rfl))
 refine neg (by lia) ?_
 repeat (first | simp only [we_v,we_int,we_bool,we_str,we_none,we_neg,we_nowhere,we_bin,we_cmp,we_cmp2,we_isnone,we_and,we_or,we_not,we_ite,we_idx,we_last,we_slice,we_rev,we_attr,we_layers,we_treesize,we_tup,we_lst,we_nlst,we_ndict,we_frz,we_callf,we_meth,we_cmeth,we_len,we_min2,we_max2,we_max1,we_bytes,we_tuple,we_sorted,we_listr,we_lappend,we_dget,we_lindex,we_nrep,we_ncat,we_comp,wz_nil,wz_cons,wi_e,wi_r1,wi_r2,wi_r3,ws_asg,ws_setattr,ws_setidx,ws_aug,ws_ife,ws_forr,ws_wh,ws_ret,ws_retn,ws_brk,ws_pass,ws_raise,ws_expr,wl_nil,wl_cons,wl_fz,gN,gB,gI,gS,gY,gT,gL,gR,tB,cI,cS,cEL,cER,cNL,cNT,thL,thT,thR,pLt,pLe,pGt,pGe,pEq,pNe,bI,bL,oA,oS,oM,oD,oR,oP,aR,kR,mR,lsL,nY,nT,nL,nR,iY,iT,iL,iR,laL,laR,b00,b10,b01,b11,sY,sL,sR,rY,rR,dR,iD,apR,fzR,saR,siR,fT,fL,fY,lL,lR,rg1,rg2,rg3,insL,diL,inL,reL,tuL,liL,byB,byL,byR,isn,isi,agV,agT,agL,setAll,putF,retQ,initR,mkList,qa,qb,qc,qd,List.set_nil,qh,qg,qj,qi,Nat.reduceSub,Nat.reduceAdd,Option.some.injEq,exists_eq_left',ne_eq,reduceCtorEq,not_false_eq_true,true_and,and_true,if_true,if_false,Bool.true_eq_false,Bool.false_eq_true,Option.isSome_some,Nat.reduceBEq,List.lookup_nil,lookup_hit,lookup_miss,bne_self_eq_false,Bool.not_true,Bool.not_false,decide_true,decide_false,ite_true,ite_false,reduceIte,Nat.reduceEqDiff,Nat.reduceLT,Nat.reduceLeDiff,qe,qf,decide_eq_true_eq,Bool.not_eq_true',decide_eq_false_iff_not,Int.toNat_natCast,List.length_map,Bool.and_eq_true,Bool.or_eq_true,Bool.not_eq_eq_eq_not,Bool.not_eq_true,Bool.not_eq_false,M.obj,M.f0,M.f7] | ((with_reducible apply tail);case e=>rfl))
 rw [if_neg (by exact mt Int.ofNat_le.mp (Nat.not_le.mpr ‹_›))]
 repeat (first | simp only [we_v,we_int,we_bin,ws_setattr,wl_cons,gI,gR,bI,oA,saR,insL,retQ,qa,qb,true_and,Nat.reduceLT,M.obj] | ((with_reducible apply tail);case e=>rfl))
 rw [show ((i : Int) + 1) = ((i + 1 : Nat) : Int) by lia]
 refine ⟨hl, ?_⟩
 repeat (first | simp only [we_v,we_meth,wz_nil,wz_cons,ws_expr,wl_nil,wl_cons,gI,gR,mR,insL,retQ,qa,qb,Option.some.injEq,exists_eq_left',true_and,upd_self,hnom,hC] | ((with_reducible apply tail);case e=>rfl))
 exact h
noncomputable def finF (t : List Nat) (least w ch ah : Nat) (r : Addr) : List (Nat × V) := [(0, .bytes t), (4, .int least), (5, .int w), (6, .int ch), (7, .int ah), (8, .ref r)]
theorem finF_mt {ah : Nat} {r : Addr} (h : σ f = some (.inst C (finF t least w ch ah r))) : Mt σ f C (finF t least w ch ah r) t least w ch ah :=
 ⟨h, rfl, rfl, rfl, rfl, rfl, fun m hm => by
  unfold finF
  rw [lookup_miss (by simp; lia),lookup_miss (by simp; lia),lookup_miss (by simp; lia),lookup_miss (by simp; lia),lookup_miss (by simp; lia),lookup_miss (by simp; lia)]; rfl⟩
noncomputable def FinI (t : List Nat) (least w ch : Nat) (f r la be : Addr) (i : Nat) (σ : AHeap) : Prop := σ f = some (.inst 226 (finF t least w ch i r)) ∧ Row σ r t least la be i
noncomputable def finFt (f r la be : Addr) : Addr → Prop := fun a => a = f ∨ rowFt r la be a
theorem fin_put (F : Fns X) {r la be : Addr} {i : Nat} (I : FinI t least w ch f r la be i σ) (hi : i < t.length) (hn : t.length ≤ 900) :
  WC X (k + 4) (.ref 117) [.ref f, .int i] σ (fun v σ' => FinI t least w ch f r la be (i + 1) σ' ∧ Fram (finFt f r la be) σ σ') := by
 obtain ⟨hf, hr⟩ := I
 have n1 : r ≠ f := fun e => by rw [e] at hr; have := hr.obj; rw [hf] at this; cases this
 have n2 : la ≠ f := fun e => by obtain ⟨nd, m, b1, _⟩ := hr.di; rw [e,hf] at b1; cases b1
 have n3 : be ≠ f := fun e => by obtain ⟨l, b1, _⟩ := hr.li; rw [e,hf] at b1; cases b1
 refine mput_c F (C := 226) (fe := 209) rfl (finF_mt hf) (by simp [finF]) hi ?_ rfl
 show WC X (k + 3) (.ref 209) [.ref f, .int i] (upd σ f (.inst 226 (finF t least w ch (i + 1) r))) _
 have x : Row (upd σ f (.inst 226 (finF t least w ch (i + 1) r))) r t least la be i := hr.keep fun a o ha e => by
  have : a ≠ f := by rcases ha with rfl | rfl | rfl <;> assumption
  rw [upd_ne this]; exact e
 refine wc_of F F.Finder_enter rfl ?_
 have x1 := x.obj
 unfold rowF finF at x1
 repeat (first | simp only [we_v,we_attr,we_meth,wz_nil,wz_cons,ws_expr,wl_nil,wl_cons,gI,gR,aR,mR,insL,retQ,initR,qa,qb,qh,qg,qi,Nat.reduceSub,true_and,Nat.reduceBEq,List.lookup_nil,lookup_hit,lookup_miss,f_Finder_enter,f_Finder_enter_b,upd_self,finF,x1] | ((with_reducible apply tail);case e=>rfl))
 refine ⟨82, rfl, ?_⟩
 refine (put_r F x hi hn).mono fun v σ' ⟨h1, h2⟩ => ?_
 have nf : ¬ rowFt r la be f := fun h => by rcases h with h | h | h <;> simp_all
 refine ⟨⟨h2 _ _ nf upd_self, h1⟩, fun a o ha e => h2 _ _ (fun h => ha (.inr h)) ?_⟩
 rw [upd_ne (fun e => ha (.inl e))]
 exact e
theorem cand_loop (F : Fns X) {a r la be : Addr} {p n : Nat} {R : Fl → List V → AHeap → Prop} (M : Mt σ f C fs t least w ch p) (hC : isF C) (h8 : fs.lookup 8 = some (.ref r)) (Rw : Row σ r t least la be p) (ha : σ a = none)
  (hch : t.length < ch) (hn : t.length ≤ 900) (hp : p < t.length) : ∀ (i : Nat) (acc : List V) (m : Nat), i < m → i ≤ p → acc.length + i ≤ p →
  (∀ z, R .next [.ref f, .int p, .ref a, z] (upd σ a (.list (acc ++ ((chainL t least n i).filter fun q => decide (p - q ≤ w)).map fun (q : Nat) => V.int (q : Int))))) →
  whileP (fun ρ σ Q => wpE X (k + 1) f_Finder_candidates_c1 ρ σ fun u σ₁ => truthP u fun b => Q b σ₁) (fun ρ σ Q => wpSs X (k + 1) f_Finder_candidates_b2 ρ σ Q) R m [.ref f, .int p, .ref a, .int (headI (chainL t least n i))] (upd σ a (.list acc)) := by
 intro i
 induction i using Nat.strongRecOn with
 | ind i ih =>
  intro acc m hm hi hacc hR
  cases m with
  | zero => lia
  | succ m =>
   have E : Ext σ (upd σ a (.list acc)) := .upd ha
   have M' := M.mono (σ' := upd σ a (.list acc)) fun o h => E _ _ h
   have R' := Rw.keep (σ' := upd σ a (.list acc)) fun b o _ h => E _ _ h
   have o1 := R'.obj
   unfold rowF at o1
   obtain ⟨l, l1, l2, l3⟩ := R'.li
   unfold whileP
   generalize hK : whileP _ _ R m = K
   repeat (first | simp only [we_v,we_cmp,we_and,we_attr,we_meth,we_len,wz_nil,wz_cons,gI,gR,tB,aR,mR,nR,insL,qa,qb,true_and,if_false,Bool.false_eq_true,f_Finder_candidates_c1,M'.obj,M'.nom 21 (by decide)] | ((with_reducible apply tail);case e=>rfl))
   refine ⟨159, hC.m21, ?_⟩
   refine near_c F M' ?_
   repeat (first | simp only [gI,tB,cI,pLt,lsL,insL,ne_eq,decide_eq_true_eq,M'.obj,M'.f6,upd_self] | ((with_reducible apply tail);case e=>rfl))
   cases hc : chainL t least n i with
   | nil =>
    rw [hc] at hR
    refine neg (by simp [headI]) ?_
    repeat (first | simp only [we_v,we_int,we_bool,we_str,we_none,we_neg,we_nowhere,we_bin,we_cmp,we_cmp2,we_isnone,we_and,we_or,we_not,we_ite,we_idx,we_last,we_slice,we_rev,we_attr,we_layers,we_treesize,we_tup,we_lst,we_nlst,we_ndict,we_frz,we_callf,we_meth,we_cmeth,we_len,we_min2,we_max2,we_max1,we_bytes,we_tuple,we_sorted,we_listr,we_lappend,we_dget,we_lindex,we_nrep,we_ncat,we_comp,wz_nil,wz_cons,wi_e,wi_r1,wi_r2,wi_r3,ws_asg,ws_setattr,ws_setidx,ws_aug,ws_ife,ws_forr,ws_wh,ws_ret,ws_retn,ws_brk,ws_pass,ws_raise,ws_expr,wl_nil,wl_cons,wl_fz,gN,gB,gI,gS,gY,gT,gL,gR,tB,cI,cS,cEL,cER,cNL,cNT,thL,thT,thR,pLt,pLe,pGt,pGe,pEq,pNe,bI,bL,oA,oS,oM,oD,oR,oP,aR,kR,mR,lsL,nY,nT,nL,nR,iY,iT,iL,iR,laL,laR,b00,b10,b01,b11,sY,sL,sR,rY,rR,dR,iD,apR,fzR,saR,siR,fT,fL,fY,lL,lR,rg1,rg2,rg3,insL,diL,inL,reL,tuL,liL,byB,byL,byR,isn,isi,agV,agT,agL,setAll,putF,retQ,initR,mkList,qa,qb,qc,qd,List.set_nil,qh,qg,qj,qi,Nat.reduceSub,Nat.reduceAdd,Option.some.injEq,exists_eq_left',ne_eq,reduceCtorEq,not_false_eq_true,true_and,and_true,if_true,if_false,Bool.true_eq_false,Bool.false_eq_true,Option.isSome_some,Nat.reduceBEq,List.lookup_nil,lookup_hit,lookup_miss,bne_self_eq_false,Bool.not_true,Bool.not_false,decide_true,decide_false,ite_true,ite_false,reduceIte,Nat.reduceEqDiff,Nat.reduceLT,Nat.reduceLeDiff,qe,qf,decide_eq_true_eq,Bool.not_eq_true',decide_eq_false_iff_not,Int.toNat_natCast,List.length_map,Bool.and_eq_true,Bool.or_eq_true,Bool.not_eq_eq_eq_not,Bool.not_eq_true,Bool.not_eq_false] | ((with_reducible apply tail);case e=>rfl))
    simpa using hR _
   | cons c rest =>
    obtain ⟨e1, e2, e3⟩ := chainL_cons hc
    rw [hc] at hR
    by_cases hw : p - c ≤ w
    ·refine pos (by simp only [headI]; lia) (pos (by lia) ?_)
     rw [List.filter_cons_of_pos (by simpa using hw),List.map_cons,List.append_cons] at hR
     subst hK
     repeat (first | simp only [we_v,we_lappend,ws_expr,wl_cons,gI,gR,lsL,apR,lR,qa,qb,true_and,Option.isSome_some,f_Finder_candidates_b2,upd_self] | ((with_reducible apply tail);case e=>rfl))
     refine ⟨by lia, ?_⟩
     rw [upd_upd]
     have E2 : Ext σ (upd σ a (.list (acc ++ [.int (headI (c :: rest))]))) := .upd ha
     have M2 := M.mono (σ' := upd σ a (.list (acc ++ [.int (headI (c :: rest))]))) fun o h => E2 _ _ h
     have R2 := Rw.keep (σ' := upd σ a (.list (acc ++ [.int (headI (c :: rest))]))) fun b o _ h => E2 _ _ h
     have o2 := R2.obj
     unfold rowF at o2
     obtain ⟨l, l1, l2, l3⟩ := R2.li
     repeat (first | simp only [we_v,we_idx,we_attr,ws_asg,wl_nil,wl_cons,gI,gR,aR,lsL,iR,insL,agV,qa,qb,qc,qd,Nat.reduceBEq,lookup_hit,lookup_miss,M2.obj,h8,o2,l1] | ((with_reducible apply tail);case e=>rfl))
     refine ⟨by simp [headI], _, by simp only [headI]; exact l3 c (by exact Nat.le_trans ‹_› ‹_›) n e3, ?_⟩
     repeat (first | simp only [we_v,we_int,we_bool,we_str,we_none,we_neg,we_nowhere,we_bin,we_cmp,we_cmp2,we_isnone,we_and,we_or,we_not,we_ite,we_idx,we_last,we_slice,we_rev,we_attr,we_layers,we_treesize,we_tup,we_lst,we_nlst,we_ndict,we_frz,we_callf,we_meth,we_cmeth,we_len,we_min2,we_max2,we_max1,we_bytes,we_tuple,we_sorted,we_listr,we_lappend,we_dget,we_lindex,we_nrep,we_ncat,we_comp,wz_nil,wz_cons,wi_e,wi_r1,wi_r2,wi_r3,ws_asg,ws_setattr,ws_setidx,ws_aug,ws_ife,ws_forr,ws_wh,ws_ret,ws_retn,ws_brk,ws_pass,ws_raise,ws_expr,wl_nil,wl_cons,wl_fz,gN,gB,gI,gS,gY,gT,gL,gR,tB,cI,cS,cEL,cER,cNL,cNT,thL,thT,thR,pLt,pLe,pGt,pGe,pEq,pNe,bI,bL,oA,oS,oM,oD,oR,oP,aR,kR,mR,lsL,nY,nT,nL,nR,iY,iT,iL,iR,laL,laR,b00,b10,b01,b11,sY,sL,sR,rY,rR,dR,iD,apR,fzR,saR,siR,fT,fL,fY,lL,lR,rg1,rg2,rg3,insL,diL,inL,reL,tuL,liL,byB,byL,byR,isn,isi,agV,agT,agL,setAll,putF,retQ,initR,mkList,qa,qb,qc,qd,List.set_nil,qh,qg,qj,qi,Nat.reduceSub,Nat.reduceAdd,Option.some.injEq,exists_eq_left',ne_eq,reduceCtorEq,not_false_eq_true,true_and,and_true,if_true,if_false,Bool.true_eq_false,Bool.false_eq_true,Option.isSome_some,Nat.reduceBEq,List.lookup_nil,lookup_hit,lookup_miss,bne_self_eq_false,Bool.not_true,Bool.not_false,decide_true,decide_false,ite_true,ite_false,reduceIte,Nat.reduceEqDiff,Nat.reduceLT,Nat.reduceLeDiff,qe,qf,decide_eq_true_eq,Bool.not_eq_true',decide_eq_false_iff_not,Int.toNat_natCast,List.length_map,Bool.and_eq_true,Bool.or_eq_true,Bool.not_eq_eq_eq_not,Bool.not_eq_true,Bool.not_eq_false] | ((with_reducible apply tail);case e=>rfl))
     refine ih c e2 _ m (by lia) (by lia) (by simp; lia) ?_
     rw [← e1]
     exact hR
    ·refine neg (by simp only [headI]; lia) ?_
     rw [List.filter_cons_of_neg (by simpa using hw)] at hR
     have e4 : rest.filter (fun q => decide (p - q ≤ w)) = [] := by
      rw [List.filter_eq_nil_iff]
      intro q hq
      rw [e1,chainL_mem] at hq
      simp; lia
     rw [e4] at hR
     repeat (first | simp only [we_v,we_int,we_bool,we_str,we_none,we_neg,we_nowhere,we_bin,we_cmp,we_cmp2,we_isnone,we_and,we_or,we_not,we_ite,we_idx,we_last,we_slice,we_rev,we_attr,we_layers,we_treesize,we_tup,we_lst,we_nlst,we_ndict,we_frz,we_callf,we_meth,we_cmeth,we_len,we_min2,we_max2,we_max1,we_bytes,we_tuple,we_sorted,we_listr,we_lappend,we_dget,we_lindex,we_nrep,we_ncat,we_comp,wz_nil,wz_cons,wi_e,wi_r1,wi_r2,wi_r3,ws_asg,ws_setattr,ws_setidx,ws_aug,ws_ife,ws_forr,ws_wh,ws_ret,ws_retn,ws_brk,ws_pass,ws_raise,ws_expr,wl_nil,wl_cons,wl_fz,gN,gB,gI,gS,gY,gT,gL,gR,tB,cI,cS,cEL,cER,cNL,cNT,thL,thT,thR,pLt,pLe,pGt,pGe,pEq,pNe,bI,bL,oA,oS,oM,oD,oR,oP,aR,kR,mR,lsL,nY,nT,nL,nR,iY,iT,iL,iR,laL,laR,b00,b10,b01,b11,sY,sL,sR,rY,rR,dR,iD,apR,fzR,saR,siR,fT,fL,fY,lL,lR,rg1,rg2,rg3,insL,diL,inL,reL,tuL,liL,byB,byL,byR,isn,isi,agV,agT,agL,setAll,putF,retQ,initR,mkList,qa,qb,qc,qd,List.set_nil,qh,qg,qj,qi,Nat.reduceSub,Nat.reduceAdd,Option.some.injEq,exists_eq_left',ne_eq,reduceCtorEq,not_false_eq_true,true_and,and_true,if_true,if_false,Bool.true_eq_false,Bool.false_eq_true,Option.isSome_some,Nat.reduceBEq,List.lookup_nil,lookup_hit,lookup_miss,bne_self_eq_false,Bool.not_true,Bool.not_false,decide_true,decide_false,ite_true,ite_false,reduceIte,Nat.reduceEqDiff,Nat.reduceLT,Nat.reduceLeDiff,qe,qf,decide_eq_true_eq,Bool.not_eq_true',decide_eq_false_iff_not,Int.toNat_natCast,List.length_map,Bool.and_eq_true,Bool.or_eq_true,Bool.not_eq_eq_eq_not,Bool.not_eq_true,Bool.not_eq_false] | ((with_reducible apply tail);case e=>rfl))
     simpa using hR _
theorem cand_c (F : Fns X) {r la be : Addr} {p : Nat} (M : Mt σ f C fs t least w ch p) (hC : isF C) (h8 : fs.lookup 8 = some (.ref r)) (Rw : Row σ r t least la be p)
  (hch : t.length < ch) (hn : t.length ≤ 900) (hp : p < t.length) : WC X (k + 3) (.ref 216) [.ref f, .int p] σ (fun v σ' => σ' = σ ∧
   v = .list (match keyN t p least with | some n => ((chainL t least n p).filter fun q => decide (p - q ≤ w)).map fun (q : Nat) => V.int (q : Int) | none => [])) := by
 refine wc_of F F.Finder_candidates rfl ?_
 repeat (first | simp only [we_nlst,wz_nil,ws_asg,wl_cons,agV,retQ,initR,mkList,qc,qd,qh,qg,qj,qi,Nat.reduceSub,true_and,if_true,Nat.reduceLeDiff,qf,f_Finder_candidates,f_Finder_candidates_b] | ((with_reducible apply tail);case e=>rfl))
 refine fun a ha => ?_
 have E : Ext σ (upd σ a (.list [])) := .upd ha
 have M' := M.mono (σ' := upd σ a (.list [])) fun o h => E _ _ h
 have R' := Rw.keep (σ' := upd σ a (.list [])) fun b o _ h => E _ _ h
 have o1 := R'.obj
 unfold rowF at o1
 repeat (first | simp only [we_v,we_attr,we_meth,wz_nil,wz_cons,ws_asg,wl_cons,gI,gR,aR,mR,insL,agV,retQ,qa,qb,qc,qd,true_and,Nat.reduceBEq,List.lookup_nil,lookup_miss,M'.obj,h8,o1] | ((with_reducible apply tail);case e=>rfl))
 refine ⟨89, rfl, ?_⟩
 refine newest_r F R' (by exact Nat.le_of_lt ‹_›) ?_
 unfold newestI
 cases hk : keyN t p least with
 | none =>
  refine ⟨1, ?_⟩
  unfold whileP
  repeat (first | simp only [we_v,we_cmp,we_and,we_attr,we_meth,we_len,wz_nil,wz_cons,gI,gR,tB,aR,mR,nR,insL,retQ,qa,qb,true_and,if_false,Bool.false_eq_true,f_Finder_candidates_c1,M'.obj,M'.nom 21 (by decide)] | ((with_reducible apply tail);case e=>rfl))
  refine ⟨159, hC.m21, ?_⟩
  refine near_c F M' ?_
  refine tneg (by simp) ?_
  repeat (first | simp only [we_v,we_frz,ws_ret,wl_nil,wl_cons,gR,lsL,fzR,retQ,qa,qb,reduceCtorEq,and_true,upd_self] | ((with_reducible apply tail);case e=>rfl))
  exact del_upd ha
 | some n =>
  refine ⟨p + 1, cand_loop F M hC h8 Rw ha hch hn hp p [] (p + 1) (by exact Nat.lt_succ_self _) (by exact Nat.le_refl _) (by simp) fun z => ?_⟩
  repeat (first | simp only [we_v,we_frz,ws_ret,wl_nil,wl_cons,gR,lsL,fzR,retQ,qa,qb,qg,reduceCtorEq,and_true,upd_self] | ((with_reducible apply tail);case e=>rfl))
  exact del_upd ha
theorem every_loop (F : Fns X) {a : Addr} {p lim : Nat} {R : Fl → List V → AHeap → Prop} {mo : V} (M : Mt σ f C fs t least w ch ah) (hC : isF C) (ha : σ a = none) (hl : lim ≤ t.length - p) (hp : p < t.length) (hn : t.length ≤ 900) : ∀ (cs : List Nat) (acc : List V) (lo : Nat) (z1 z2 : V), (∀ c ∈ cs, c < p) → acc.length + cs.length ≤ p →
  (∀ lo' z1 z2, R .next [.ref f, .int p, mo, .ref a, .int lim, lo', z1, z2] (upd σ a (.list (acc ++ (recs t p lim lo cs).map pairN)))) →
  forP (Tg.v 6) (fun ρ σ Q => wpSs X (k + 1) f_Finder_every_b1 ρ σ Q) R (cs.map fun (q : Nat) => V.int (q : Int)) [.ref f, .int p, mo, .ref a, .int lim, .int lo, z1, z2] (upd σ a (.list acc))
 | [], acc, lo, z1, z2, _, _, hR => by simpa [forP, recs] using hR _ _ _
 | c :: cs, acc, lo, z1, z2, hc, hlen, hR => by
  simp only [List.map_cons,forP]
  have hcp := hc c List.mem_cons_self
  have M' := M.mono (σ' := upd σ a (.list acc)) fun o h => (Ext.upd ha) _ _ h
  have IH : ∀ acc' lo' z1 z2, acc'.length + cs.length ≤ p → acc' ++ (recs t p lim lo' cs).map pairN = acc ++ (recs t p lim lo (c :: cs)).map pairN →
    forP (Tg.v 6) (fun ρ σ Q => wpSs X (k + 1) f_Finder_every_b1 ρ σ Q) R (cs.map fun (q : Nat) => V.int (q : Int)) [.ref f, .int p, mo, .ref a, .int lim, .int lo', z1, z2] (upd σ a (.list acc')) := fun acc' lo' z1 z2 h1 h2 =>
   every_loop F M hC ha hl hp hn cs acc' lo' z1 z2 (fun c h => hc c (List.mem_cons_of_mem _ h)) h1 fun lo'' z1 z2 => by rw [h2]; exact hR _ _ _
  generalize hK : forP _ _ R (cs.map _) = K at IH
  simp only [asgP]
  rw [recs] at hR IH
  repeat (first | simp only [we_v,we_cmp,ws_ife,ws_brk,wl_nil,wl_cons,gI,tB,cI,pGe,qa,qb,qc,qd,decide_eq_true_eq,f_Finder_every_b1] | ((with_reducible apply tail);case e=>rfl))
  by_cases h1 : lim ≤ lo
  ·refine pos (by exact Int.ofNat_le.mpr ‹_›) ?_
   have e : recs t p lim lo cs = [] := recs_nil fun c _ => by unfold fv; lia
   rw [if_neg (by unfold fv; lia),e] at hR
   simpa using hR _ _ _
  ·refine neg (by exact mt Int.ofNat_le.mp ‹_›) ?_
   repeat (first | simp only [we_v,we_int,we_bin,we_cmp,we_idx,we_attr,we_meth,wz_nil,wz_cons,ws_asg,ws_ife,wl_nil,wl_cons,gI,gY,gR,tB,bI,oA,aR,mR,iY,insL,agV,qa,qb,qc,qd,M'.obj,M'.f0] | ((with_reducible apply tail);case e=>rfl))
   have e1 : ((c : Int) + (lo : Int)).toNat = c + lo := by rfl
   have e2 : ((p : Int) + (lo : Int)).toNat = p + lo := by rfl
   refine ⟨by exact Int.natCast_nonneg _, _, by rw [e1]; exact get_b (by lia), by exact Int.natCast_nonneg _, _, by rw [e2]; exact get_b (by lia), ?_⟩
   repeat (first | simp only [cI,pEq,decide_eq_true_eq] | ((with_reducible apply tail);case e=>rfl))
   by_cases h2 : dg t (c + lo) = dg t (p + lo)
   ·refine pos ((dg_eq (by lia) (by lia)).mpr h2) ?_
    repeat (first | simp only [true_and,M'.nom 20 (by decide)] | ((with_reducible apply tail);case e=>rfl))
    refine ⟨152, hC.m20, ?_⟩
    refine alike_c (kn := 0) F M' hcp hl (by exact Nat.le_of_lt ‹_›) (by exact Nat.zero_le _) ?_
    repeat (first | simp only [we_v,we_bin,we_cmp,we_tup,we_lappend,wz_nil,wz_cons,ws_ife,ws_expr,wl_nil,wl_cons,gI,gR,tB,cI,pGt,bI,oS,lsL,apR,lR,qa,qb,true_and,Option.isSome_some,Nat.reduceLeDiff,qe,qf,decide_eq_true_eq,upd_self] | ((with_reducible apply tail);case e=>rfl))
    by_cases h3 : lo < min (L t p c) lim
    ·refine pos (by exact Int.ofNat_lt.mpr ‹_›) ?_
     refine ⟨by simp only [qe] at hlen; lia, ?_⟩
     rw [upd_upd]
     repeat (first | simp only [we_v,ws_asg,wl_nil,wl_cons,gI,agV,qa,qb,qc,qd] | ((with_reducible apply tail);case e=>rfl))
     rw [if_pos (by unfold fv; exact h3)] at IH
     have e3 : (p : Int) - (c : Int) = ((p - c : Nat) : Int) := by exact (Int.natCast_sub (Nat.le_of_lt ‹_›)).symm
     rw [e3]
     refine IH _ _ _ _ (by simp at hlen ⊢; lia) ?_
     simp [pairN,fv]
    ·refine neg (by exact mt Int.ofNat_lt.mp ‹_›) ?_
     rw [if_neg (by unfold fv; exact h3)] at IH
     exact IH _ _ _ _ (by simp at hlen ⊢; lia) rfl
   ·refine neg (fun e => h2 ((dg_eq (by lia) (by lia)).mp e)) ?_
    have h3 : ¬ lo < fv t p lim c := fun h => h2 ((L_eq (by unfold fv at h; lia)).symm)
    rw [if_neg h3] at IH
    exact IH _ _ _ _ (by simp at hlen ⊢; lia) rfl
theorem fin_every (F : Fns X) {r la be : Addr} {i m : Nat} (hb : ∀ o ∈ t, o < 256) (hls : 0 < least) (hch : t.length < ch) (hn : t.length ≤ 900) (I : FinI t least w ch f r la be i σ) (hi : i < t.length) :
  WC X (k + 4) (.ref 223) [.ref f, .int i, .int m] σ (fun v σ' => v = .list ((recs t i (min m (t.length - i)) (least - 1) (cands i w)).map pairN) ∧ Ext σ σ') := by
 obtain ⟨hf, hr⟩ := I
 have M := finF_mt hf
 refine wc_of F F.Finder_every rfl ?_
 repeat (first | simp only [we_v,we_tup,we_nlst,we_meth,wz_nil,wz_cons,ws_asg,wl_cons,gI,gR,mR,agT,setAll,retQ,initR,mkList,qa,qb,qc,qd,qh,qg,qj,qi,Nat.reduceSub,Nat.reduceAdd,true_and,if_true,Nat.reduceEqDiff,Nat.reduceLeDiff,qe,qf,f_Finder_every,f_Finder_every_b] | ((with_reducible apply tail);case e=>rfl))
 refine fun a ha => ?_
 have E : Ext σ (upd σ a (.list [])) := .upd ha
 have M' := M.mono (σ' := upd σ a (.list [])) fun o h => E _ _ h
 repeat (first | simp only [insL,true_and,M'.obj,M'.nom 18 (by decide)] | ((with_reducible apply tail);case e=>rfl))
 refine ⟨138, rfl, ?_⟩
 refine limit_c F M' (by exact Nat.le_of_lt ‹_›) ?_
 repeat (first | simp only [we_v,we_int,we_bin,we_attr,we_meth,wz_nil,wz_cons,wi_e,ws_asg,ws_forr,wl_cons,gI,gR,bI,oS,aR,mR,insL,agV,retQ,qa,qb,qc,qd,true_and,M'.obj,M'.f4,M'.nom 24 (by decide)] | ((with_reducible apply tail);case e=>rfl))
 refine ⟨216, rfl, ?_⟩
 refine (cand_c F M' (.inl rfl) rfl (hr.keep fun b o _ h => E _ _ h) hch hn hi).mono fun v σ' ⟨e1, e2⟩ => ?_
 subst e1
 subst e2
 have e3 : ((least : Int) - 1) = ((least - 1 : Nat) : Int) := by exact (Int.natCast_sub ‹_›).symm
 rw [e3]
 simp only [fL,liL]
 cases hk : keyN t i least with
 | none =>
  refine every_loop F M (.inl rfl) ha (by exact Nat.min_le_right _ _) hi hn [] [] (least - 1) _ _ (fun c h => by cases h) (by simp) fun lo z1 z2 => ?_
  repeat (first | simp only [we_v,we_frz,ws_ret,wl_nil,wl_cons,gR,lsL,fzR,retQ,qa,qb,qg,reduceCtorEq,upd_self] | ((with_reducible apply tail);case e=>rfl))
  rw [none_recs hls hk,del_upd ha]
  exact ⟨rfl, .refl⟩
 | some n =>
  refine every_loop F M (.inl rfl) ha (by exact Nat.min_le_right _ _) hi hn ((chainL t least n i).filter fun q => decide (i - q ≤ w)) [] (least - 1) _ _ (fun c h => (chainL_mem.mp (List.mem_filter.mp h).1).1) ?_ fun lo z1 z2 => ?_
  ·rw [qf,Nat.zero_add]
   refine Nat.le_trans (List.length_filter_le _ _) ?_
   have : (chainL t least n i).Sublist (cands i i) := desc_sub chainL_desc cands_desc fun c h => cands_mem.mpr ⟨(chainL_mem.mp h).1, by exact Nat.sub_le _ _⟩
   have := this.length_le
   simpa [cands] using this
  ·repeat (first | simp only [we_v,we_frz,ws_ret,wl_nil,wl_cons,gR,lsL,fzR,retQ,qa,qb,qg,reduceCtorEq,upd_self] | ((with_reducible apply tail);case e=>rfl))
   rw [chain_recs hb hls hk,del_upd ha]
   exact ⟨rfl, .refl⟩
theorem fin_ok (F : Fns X) {r la be : Addr} (hb : ∀ o ∈ t, o < 256) (hls : 0 < least) (hch : t.length < ch) (hn : t.length ≤ 900) : Fi X (k + 4) t least w f (finFt f r la be) (FinI t least w ch f r la be) where
 self := .inl rfl
 mt := fun i σ I => ⟨226, _, ch, .inl rfl, finF_mt I.1⟩
 keep := fun i σ σ' I h => ⟨h _ _ (.inl rfl) I.1, I.2.keep fun a o ha e => h a o (.inr ha) e⟩
 live := fun i σ I a ha e => by
  rcases ha with rfl | ha
  ·rw [I.1] at e; cases e
  ·exact I.2.live a ha e
 every := fun i σ m I hi => ⟨226, _, 223, I.1, rfl, rfl, fin_every F hb hls hch hn I hi⟩
 put := fun i σ I hi => fin_put F I hi hn
end
end Mine
end

section
namespace Mine
inductive T where
 | nil
 | node (l : T) (c : Nat) (g : T)
noncomputable def T.has (x : Nat) : T → Prop
 | .nil => False
 | .node l c g => x = c ∨ l.has x ∨ g.has x
noncomputable def LtK (t : List Nat) (K x y : Nat) : Prop := ∃ k, k < K ∧ (∀ j, j < k → dg t (x + j) = dg t (y + j)) ∧ dg t (x + k) < dg t (y + k)
noncomputable def EqK (t : List Nat) (K x y : Nat) : Prop := ∀ j, j < K → dg t (x + j) = dg t (y + j)
theorem LtK.mono {t : List Nat} {K K' x y : Nat} (h : K' ≤ K) : LtK t K' x y → LtK t K x y := fun ⟨k, a, b⟩ => ⟨k, by exact Nat.le_trans ‹_› ‹_›, b⟩
theorem EqK.mono {t : List Nat} {K K' x y : Nat} (h : K' ≤ K) (e : EqK t K x y) : EqK t K' x y := fun j hj => e j (by exact Nat.le_trans ‹_› ‹_›)
noncomputable def WF (t : List Nat) (K : Nat) : T → Prop
 | .nil => True
 | .node l c g => (∀ x, l.has x → x < c ∧ ¬ LtK t K c x ∧ ¬ g.has x) ∧ (∀ x, g.has x → x < c ∧ ¬ LtK t K x c) ∧ WF t K l ∧ WF t K g
theorem WF.mono {t : List Nat} {K K' : Nat} (h : K' ≤ K) : ∀ {S : T}, WF t K S → WF t K' S
 | .nil, _ => trivial
 | .node l c g, ⟨a, b, cl, cg⟩ => ⟨fun x hx => ⟨(a x hx).1, fun q => (a x hx).2.1 (q.mono h), (a x hx).2.2⟩, fun x hx => ⟨(b x hx).1, fun q => (b x hx).2 (q.mono h)⟩, cl.mono h, cg.mono h⟩
section
variable {t : List Nat} {p w : Nat}
theorem LtK_of {K c : Nat} (h : L t p c < K) (hd : dg t (c + L t p c) < dg t (p + L t p c)) : LtK t K c p := ⟨_, h, fun j hj => (L_eq hj).symm, hd⟩
theorem LtK_of' {K c : Nat} (h : L t p c < K) (hd : dg t (p + L t p c) < dg t (c + L t p c)) : LtK t K p c := ⟨_, h, fun j hj => L_eq hj, hd⟩
theorem LtK_trans {K x y z : Nat} (h1 : LtK t K x y) (h2 : LtK t K y z) : LtK t K x z := by
 obtain ⟨k, a1, a2, a3⟩ := h1
 obtain ⟨m, b1, b2, b3⟩ := h2
 rcases Nat.lt_trichotomy k m with h | h | h
 ·exact ⟨k, a1, fun j hj => (a2 j hj).trans (b2 j (by exact Nat.lt_trans ‹_› ‹_›)), by rw [← b2 k h]; exact a3⟩
 ·subst h; exact ⟨k, a1, fun j hj => (a2 j hj).trans (b2 j hj), by exact Nat.lt_trans ‹_› ‹_›⟩
 ·exact ⟨m, b1, fun j hj => (a2 j (by exact Nat.lt_trans ‹_› ‹_›)).trans (b2 j hj), by rw [a2 m h]; exact b3⟩
theorem LtK_tri (t : List Nat) (K x y : Nat) : LtK t K x y ∨ LtK t K y x ∨ EqK t K x y := by
 induction K with
 | zero => exact .inr (.inr fun j hj => by exact absurd ‹_› (Nat.not_lt_zero _))
 | succ K ih =>
  rcases ih with h | h | h
  ·exact .inl (h.mono (by exact Nat.le_succ _))
  ·exact .inr (.inl (h.mono (by exact Nat.le_succ _)))
  ·rcases Nat.lt_trichotomy (dg t (x + K)) (dg t (y + K)) with q | q | q
   ·exact .inl ⟨K, by exact Nat.lt_succ_self _, h, q⟩
   ·refine .inr (.inr fun j hj => ?_)
    by_cases e : j = K
    ·rw [e]; exact q
    ·exact h j (by lia)
   ·exact .inr (.inl ⟨K, by exact Nat.lt_succ_self _, fun j hj => (h j hj).symm, q⟩)
theorem LeLt {K x y z : Nat} (h1 : ¬ LtK t K y x) (h2 : LtK t K y z) : LtK t K x z := by
 rcases LtK_tri t K x y with h | h | h
 ·exact LtK_trans h h2
 ·exact absurd h h1
 ·obtain ⟨k, a, b, c⟩ := h2
  exact ⟨k, a, fun j hj => (h j (by exact Nat.lt_trans ‹_› ‹_›)).trans (b j hj), by rw [h k a]; exact c⟩
theorem LtLe {K x y z : Nat} (h1 : LtK t K x y) (h2 : ¬ LtK t K z y) : LtK t K x z := by
 rcases LtK_tri t K y z with h | h | h
 ·exact LtK_trans h1 h
 ·exact absurd h h2
 ·obtain ⟨k, a, b, c⟩ := h1
  exact ⟨k, a, fun j hj => (b j hj).trans (h j (by exact Nat.lt_trans ‹_› ‹_›)), by rw [← h k a]; exact c⟩
theorem LtK_asymm {K x y : Nat} (h : LtK t K x y) : ¬ LtK t K y x := fun h' => by
 obtain ⟨k, a, b, c⟩ := LtK_trans h h'
 lia
theorem LtK_congr {K x y z : Nat} (e : EqK t K x y) : LtK t K x z ↔ LtK t K y z := by
 constructor
 ·rintro ⟨k, a, b, c⟩; exact ⟨k, a, fun j hj => (e j (by exact Nat.lt_trans ‹_› ‹_›)).symm.trans (b j hj), by rw [← e k a]; exact c⟩
 ·rintro ⟨k, a, b, c⟩; exact ⟨k, a, fun j hj => (e j (by exact Nat.lt_trans ‹_› ‹_›)).trans (b j hj), by rw [e k a]; exact c⟩
theorem LtK_congr' {K x y z : Nat} (e : EqK t K x y) : LtK t K z x ↔ LtK t K z y := by
 constructor
 ·rintro ⟨k, a, b, c⟩; exact ⟨k, a, fun j hj => (b j hj).trans (e j (by exact Nat.lt_trans ‹_› ‹_›)), by rw [← e k a]; exact c⟩
 ·rintro ⟨k, a, b, c⟩; exact ⟨k, a, fun j hj => (b j hj).trans (e j (by exact Nat.lt_trans ‹_› ‹_›)).symm, by rw [e k a]; exact c⟩
noncomputable def LoOk (t : List Nat) (p K lc : Nat) (S : T) : Prop := lc = 0 ∨ ∃ lo, lc ≤ L t p lo ∧ lo < p ∧ ∀ x, S.has x → ¬ LtK t K x lo
noncomputable def HiOk (t : List Nat) (p K hc : Nat) (S : T) : Prop := hc = 0 ∨ ∃ hi, hc ≤ L t p hi ∧ hi < p ∧ ∀ x, S.has x → ¬ LtK t K hi x
theorem known_ok {lc hc x : Nat} {S : T} (hp : p < t.length) (h1 : LoOk t p (t.length - p) lc S) (h2 : HiOk t p (t.length - p) hc S) (hx : S.has x) (hxp : x < p) : min lc hc ≤ L t p x := by
 rcases h1 with h1 | ⟨lo, a1, a2, a3⟩
 ·lia
 rcases h2 with h2 | ⟨hi, b1, b2, b3⟩
 ·lia
 rcases Nat.lt_or_ge (L t p x) (min lc hc) with h | h
 ·exfalso
  have hn := L_ne (t := t) (p := p) (q := x) (by exact Nat.ne_of_gt ‹_›) hp (by exact Nat.lt_trans ‹_› ‹_›)
  have l1 := (L_le (t := t) (p := p) (q := lo)).1
  have e1 : ∀ j, j < min lc hc → dg t (p + j) = dg t (lo + j) := fun j hj => L_eq (by lia)
  have e2 : ∀ j, j < min lc hc → dg t (p + j) = dg t (hi + j) := fun j hj => L_eq (by lia)
  rcases Nat.lt_or_ge (dg t (x + L t p x)) (dg t (p + L t p x)) with q | q
  ·exact a3 x hx ⟨L t p x, by lia, fun j hj => by rw [← L_eq hj]; exact e1 j (by exact Nat.lt_trans ‹_› ‹_›), by rw [← e1 _ h]; exact q⟩
  ·exact b3 x hx ⟨L t p x, by lia, fun j hj => by rw [← L_eq hj]; exact (e2 j (by exact Nat.lt_trans ‹_› ‹_›)).symm, by rw [← e2 _ h]; lia⟩
 ·exact h
noncomputable def path (t : List Nat) (p w lim : Nat) : T → List Nat
 | .nil => []
 | .node l c g => if p - c ≤ w then (if lim ≤ L t p c then [c] else if dg t (c + L t p c) < dg t (p + L t p c) then c :: path t p w lim g else c :: path t p w lim l) else []
theorem path_has {lim c : Nat} : ∀ {S : T}, c ∈ path t p w lim S → S.has c ∧ p - c ≤ w
 | .nil, h => by simp [path] at h
 | .node l c' g, h => by
  unfold path at h
  split at h
  ·rename_i hw
   split at h
   ·rw [List.mem_singleton] at h; subst h; exact ⟨.inl rfl, hw⟩
   ·split at h
    ·rcases List.mem_cons.mp h with rfl | h
     ·exact ⟨.inl rfl, hw⟩
     ·have := path_has h; exact ⟨.inr (.inr this.1), this.2⟩
    ·rcases List.mem_cons.mp h with rfl | h
     ·exact ⟨.inl rfl, hw⟩
     ·have := path_has h; exact ⟨.inr (.inl this.1), this.2⟩
  ·cases h
theorem path_desc {lim K : Nat} : ∀ {S : T}, WF t K S → (path t p w lim S).Pairwise (· > ·)
 | .nil, _ => by simp [path]
 | .node l c g, ⟨a, b, cl, cg⟩ => by
  unfold path
  split
  ·split
   ·simp
   ·split
    ·rw [List.pairwise_cons]
     exact ⟨fun x hx => (b x (path_has hx).1).1, path_desc cg⟩
    ·rw [List.pairwise_cons]
     exact ⟨fun x hx => (a x (path_has hx).1).1, path_desc cl⟩
  ·simp
theorem path_dom {lim c : Nat} (hp : p < t.length) (hl : lim ≤ t.length - p) : ∀ {S : T}, WF t (t.length - p) S → (∀ x, S.has x → x < p) → S.has c → p - c ≤ w → ∃ c' ∈ path t p w lim S, c ≤ c' ∧ fv t p lim c ≤ fv t p lim c'
 | .nil, _, _, h, _ => h.elim
 | .node l r g, ⟨a, b, cl, cg⟩, hlt, h, hw => by
  have hrp := hlt r (.inl rfl)
  have hcr : c ≤ r := by
   rcases h with h | h | h
   ·lia
   ·have := (a c h).1; lia
   ·have := (b c h).1; lia
  have hr : p - r ≤ w := by lia
  unfold path
  rw [if_pos hr]
  split
  ·rename_i h1
   exact ⟨r, by simp, hcr, by unfold fv; lia⟩
  ·rename_i h1
   have hL := (L_le (t := t) (p := p) (q := r)).1
   have hn := L_ne (t := t) (p := p) (q := r) (by exact Nat.ne_of_gt ‹_›) hp (by exact Nat.lt_trans ‹_› ‹_›)
   split
   ·rename_i h2
    rcases h with h | h | h
    ·subst h; exact ⟨c, List.mem_cons_self, by assumption, by exact Nat.le_refl _⟩
    ·refine ⟨r, List.mem_cons_self, hcr, ?_⟩
     have : L t p c ≤ L t p r := by
      rcases Nat.lt_or_ge (L t p r) (L t p c) with q | q
      ·refine absurd ?_ (a c h).2.1
       exact ⟨L t p r, by lia, fun j hj => by rw [← L_eq hj]; exact L_eq (by exact Nat.lt_trans ‹_› ‹_›), by rw [← L_eq (p := p) (q := c) q]; exact h2⟩
      ·exact q
     unfold fv; lia
    ·obtain ⟨c', h3, h4, h5⟩ := path_dom hp hl cg (fun x hx => hlt x (.inr (.inr hx))) h hw
     exact ⟨c', List.mem_cons_of_mem _ h3, h4, h5⟩
   ·rename_i h2
    rcases h with h | h | h
    ·subst h; exact ⟨c, List.mem_cons_self, by assumption, by exact Nat.le_refl _⟩
    ·obtain ⟨c', h3, h4, h5⟩ := path_dom hp hl cl (fun x hx => hlt x (.inr (.inl hx))) h hw
     exact ⟨c', List.mem_cons_of_mem _ h3, h4, h5⟩
    ·refine ⟨r, List.mem_cons_self, hcr, ?_⟩
     have : L t p c ≤ L t p r := by
      rcases Nat.lt_or_ge (L t p r) (L t p c) with q | q
      ·refine absurd ?_ (b c h).2
       exact ⟨L t p r, by lia, fun j hj => by rw [← L_eq (p := p) (q := r) hj]; exact (L_eq (by exact Nat.lt_trans ‹_› ‹_›)).symm, by rw [← L_eq (p := p) (q := c) q]; lia⟩
      ·exact q
     unfold fv; lia
theorem fv_congr {lim x y : Nat} (hp : p < t.length) (hx : x < p) (hy : y < p) (hl : lim ≤ t.length - p) (e : EqK t (t.length - p) x y) : fv t p lim x = fv t p lim y := by
 have key : ∀ {x y}, x < p → y < p → EqK t (t.length - p) x y → fv t p lim x ≤ fv t p lim y := fun {x y} hx hy e => by
  have : min (L t p x) lim ≤ L t p y := L_ge (by exact Nat.ne_of_gt ‹_›) hp (by exact Nat.lt_trans ‹_› ‹_›) fun i hi => (L_eq (by lia)).trans (e i (by lia))
  unfold fv; lia
 exact Nat.le_antisymm (key hx hy e) (key hy hx fun j hj => (e j hj).symm)
noncomputable def Full (t : List Nat) (s w n i : Nat) (S : T) : Prop := ∀ q, q < i → keyN t q s = some n → i - q ≤ w → ∃ c, S.has c ∧ q ≤ c ∧ EqK t (t.length - i) q c
noncomputable def Keyed (t : List Nat) (s n i : Nat) (S : T) : Prop := ∀ x, S.has x → x < i ∧ keyN t x s = some n
theorem tree_recs {s lim n : Nat} {S : T} (hb : ∀ o ∈ t, o < 256) (hs : 0 < s) (hn : keyN t p s = some n) (hp : p < t.length) (hl : lim ≤ t.length - p) (W : WF t (t.length - p) S) (Ky : Keyed t s n p S) (Fu : Full t s w n p S) :
  recs t p lim (s - 1) (path t p w lim S) = recs t p lim (s - 1) (cands p w) := by
 have hps : p + s ≤ t.length := by
  rcases Nat.lt_or_ge t.length (p + s) with h | h
  ·rw [keyN_none h] at hn; cases hn
  ·exact h
 refine recs_sub (desc_sub (path_desc W) cands_desc fun c h => ?_) cands_desc fun c h1 h2 => ?_
 ·exact cands_mem.mpr ⟨(Ky c (path_has h).1).1, (path_has h).2⟩
 ·rw [cands_mem] at h1
  by_cases hL : s ≤ L t p c
  ·obtain ⟨d, h3, h4, h5⟩ := Fu c h1.1 (((keyN_iff hb h1.1 hps hs).mpr hL).trans hn) h1.2
   obtain ⟨c', h6, h7, h8⟩ := path_dom (w := w) hp hl W (fun x hx => (Ky x hx).1) h3 (by lia)
   rw [← fv_congr hp h1.1 (Ky d h3).1 hl h5] at h8
   refine .inr ⟨c', h6, ?_, h8⟩
   have : c ≠ c' := fun e => h2 (by rw [e]; exact h6)
   lia
  ·exact .inl (by unfold fv; lia)
noncomputable def split (t : List Nat) (p w : Nat) : T → T × T
 | .nil => (.nil, .nil)
 | .node l c g => if p - c ≤ w then (if t.length - p ≤ L t p c then (l, g) else if dg t (c + L t p c) < dg t (p + L t p c) then (.node l c (split t p w g).1, (split t p w g).2) else ((split t p w l).1, .node (split t p w l).2 c g)) else (.nil, .nil)
theorem split_has : ∀ {S : T} {x : Nat}, (split t p w S).1.has x ∨ (split t p w S).2.has x → S.has x
 | .nil, x, h => by unfold split at h; rcases h with h | h <;> exact h
 | .node l c g, x, h => by
  unfold split at h
  split at h
  ·split at h
   ·rcases h with h | h
    ·exact .inr (.inl h)
    ·exact .inr (.inr h)
   ·split at h
    ·rcases h with (h | h | h) | h
     ·exact .inl h
     ·exact .inr (.inl h)
     ·exact .inr (.inr (split_has (.inl h)))
     ·exact .inr (.inr (split_has (.inr h)))
    ·rcases h with h | (h | h | h)
     ·exact .inr (.inl (split_has (.inl h)))
     ·exact .inl h
     ·exact .inr (.inl (split_has (.inr h)))
     ·exact .inr (.inr h)
  ·rcases h with h | h <;> exact h.elim
theorem split_wf (hp : p < t.length) : ∀ {S : T}, WF t (t.length - p) S → (∀ x, S.has x → x < p) →
  WF t (t.length - p) (split t p w S).1 ∧ WF t (t.length - p) (split t p w S).2 ∧ (∀ x, (split t p w S).1.has x → ¬ LtK t (t.length - p) p x ∧ ¬ (split t p w S).2.has x) ∧ (∀ x, (split t p w S).2.has x → ¬ LtK t (t.length - p) x p)
 | .nil, _, _ => by unfold split; exact ⟨trivial, trivial, fun x h => h.elim, fun x h => h.elim⟩
 | .node l c g, ⟨a, b, cl, cg⟩, hlt => by
  have hcp := hlt c (.inl rfl)
  have hL := (L_le (t := t) (p := p) (q := c)).1
  have hn := L_ne (t := t) (p := p) (q := c) (by exact Nat.ne_of_gt ‹_›) hp (by exact Nat.lt_trans ‹_› ‹_›)
  unfold split
  split
  ·split
   ·rename_i h1
    have e : EqK t (t.length - p) p c := fun j hj => L_eq (by exact Nat.le_trans ‹_› ‹_›)
    refine ⟨cl, cg, fun x hx => ⟨fun h => (a x hx).2.1 ((LtK_congr e).mp h), (a x hx).2.2⟩, fun x hx h => (b x hx).2 ((LtK_congr' e).mp h)⟩
   ·split
    ·rename_i h1 h2
     obtain ⟨w1, w2, w3, w4⟩ := split_wf hp cg fun x hx => hlt x (.inr (.inr hx))
     have hc : LtK t (t.length - p) c p := LtK_of (by exact Nat.lt_of_not_le ‹_›) h2
     refine ⟨⟨fun x hx => ⟨(a x hx).1, (a x hx).2.1, fun h => (a x hx).2.2 (split_has (.inl h))⟩, fun x hx => b x (split_has (.inl hx)), cl, w1⟩, w2, fun x hx => ?_, w4⟩
     rcases hx with rfl | hx | hx
     ·exact ⟨LtK_asymm hc, fun h => Nat.lt_irrefl _ (b x (split_has (.inr h))).1⟩
     ·exact ⟨LtK_asymm (LeLt (a x hx).2.1 hc), fun h => (a x hx).2.2 (split_has (.inr h))⟩
     ·exact w3 x hx
    ·rename_i h1 h2
     obtain ⟨w1, w2, w3, w4⟩ := split_wf hp cl fun x hx => hlt x (.inr (.inl hx))
     have hc : LtK t (t.length - p) p c := LtK_of' (by exact Nat.lt_of_not_le ‹_›) (by lia)
     refine ⟨w1, ⟨fun x hx => ⟨(a x (split_has (.inr hx))).1, (a x (split_has (.inr hx))).2.1, (a x (split_has (.inr hx))).2.2⟩, b, w2, cg⟩, fun x hx => ⟨(w3 x hx).1, fun h => ?_⟩, fun x hx => ?_⟩
     ·rcases h with rfl | h | h
      ·exact Nat.lt_irrefl _ (a x (split_has (.inl hx))).1
      ·exact (w3 x hx).2 h
      ·exact (a x (split_has (.inl hx))).2.2 h
     ·rcases hx with rfl | hx | hx
      ·exact LtK_asymm hc
      ·exact w4 x hx
      ·exact LtK_asymm (LtLe hc (b x hx).2)
  ·exact ⟨trivial, trivial, fun x h => h.elim, fun x h => h.elim⟩
theorem split_full (hp : p < t.length) : ∀ {S : T} {c : Nat}, WF t (t.length - p) S → S.has c → p - c ≤ w → (split t p w S).1.has c ∨ (split t p w S).2.has c ∨ t.length - p ≤ L t p c
 | .nil, c, _, h, _ => h.elim
 | .node l r g, c, ⟨a, b, cl, cg⟩, h, hw => by
  have hcr : c ≤ r := by
   rcases h with h | h | h
   ·lia
   ·have := (a c h).1; lia
   ·have := (b c h).1; lia
  unfold split
  rw [if_pos (by lia)]
  split
  ·rename_i h1
   rcases h with rfl | h | h
   ·exact .inr (.inr h1)
   ·exact .inl h
   ·exact .inr (.inl h)
  ·split
   ·rcases h with rfl | h | h
    ·exact .inl (.inl rfl)
    ·exact .inl (.inr (.inl h))
    ·rcases split_full hp cg h hw with h | h | h
     ·exact .inl (.inr (.inr h))
     ·exact .inr (.inl h)
     ·exact .inr (.inr h)
   ·rcases h with rfl | h | h
    ·exact .inr (.inl (.inl rfl))
    ·rcases split_full hp cl h hw with h | h | h
     ·exact .inl h
     ·exact .inr (.inl (.inr (.inl h)))
     ·exact .inr (.inr h)
    ·exact .inr (.inl (.inr (.inr h)))
noncomputable def put1 (t : List Nat) (p w : Nat) (S : T) : T := .node (split t p w S).1 p (split t p w S).2
theorem put1_ok {s n : Nat} {S : T} (hp : p < t.length) (hn : keyN t p s = some n) (W : WF t (t.length - p) S) (Ky : Keyed t s n p S) (Fu : Full t s w n p S) :
  WF t (t.length - (p + 1)) (put1 t p w S) ∧ Keyed t s n (p + 1) (put1 t p w S) ∧ Full t s w n (p + 1) (put1 t p w S) := by
 obtain ⟨w1, w2, w3, w4⟩ := split_wf (w := w) hp W fun x hx => (Ky x hx).1
 refine ⟨⟨fun x hx => ⟨(Ky x (split_has (.inl hx))).1, fun h => (w3 x hx).1 (h.mono (by lia)), (w3 x hx).2⟩, fun x hx => ⟨(Ky x (split_has (.inr hx))).1, fun h => w4 x hx (h.mono (by lia))⟩, w1.mono (by lia), w2.mono (by lia)⟩, fun x hx => ?_, fun q hq hk hw => ?_⟩
 ·rcases hx with rfl | hx | hx
  ·exact ⟨by exact Nat.lt_succ_self _, hn⟩
  ·have := Ky x (split_has (.inl hx)); exact ⟨by lia, this.2⟩
  ·have := Ky x (split_has (.inr hx)); exact ⟨by lia, this.2⟩
 ·rcases Nat.lt_or_ge q p with h | h
  ·obtain ⟨c, h1, h2, h3⟩ := Fu q h hk (by lia)
   rcases split_full (w := w) hp W h1 (by lia) with h4 | h4 | h4
   ·exact ⟨c, .inr (.inl h4), h2, h3.mono (by lia)⟩
   ·exact ⟨c, .inr (.inr h4), h2, h3.mono (by lia)⟩
   ·exact ⟨p, .inl rfl, by exact Nat.le_of_lt ‹_›, fun j hj => (h3 j (by lia)).trans (L_eq (p := p) (q := c) (by lia)).symm⟩
  ·exact ⟨p, .inl rfl, by exact Nat.le_of_lt_succ ‹_›, fun j hj => by rw [show q = p by lia]⟩
theorem keep_ok {s n i : Nat} {S : T} (hk : keyN t i s ≠ some n) (W : WF t (t.length - i) S) (Ky : Keyed t s n i S) (Fu : Full t s w n i S) : WF t (t.length - (i + 1)) S ∧ Keyed t s n (i + 1) S ∧ Full t s w n (i + 1) S := by
 refine ⟨W.mono (by lia), fun x hx => ?_, fun q hq hq2 hw => ?_⟩
 ·have := Ky x hx; exact ⟨by lia, this.2⟩
 ·rcases Nat.lt_or_ge q i with h | h
  ·obtain ⟨c, h1, h2, h3⟩ := Fu q h hq2 (by lia)
   exact ⟨c, h1, h2, h3.mono (by lia)⟩
  ·rw [show q = i by lia] at hq2
   exact absurd hq2 hk
end
end Mine
end

section
open PySem PySem.Calls PyProof.Rows PySem.W
set_option maxRecDepth 20000
set_option backward.defeqAttrib.useBackward true
namespace Mine
noncomputable def Rep (ar : Bool → List V) : Int → T → Prop
 | z, .nil => z = -1
 | z, .node l c g => z = c ∧ ∃ a b : Int, (ar false)[c]? = some (.int a) ∧ (ar true)[c]? = some (.int b) ∧ Rep ar a l ∧ Rep ar b g
theorem Rep.congr {ar ar' : Bool → List V} : ∀ {S : T} {z : Int}, (∀ x fl, S.has x → (ar' fl)[x]? = (ar fl)[x]?) → Rep ar z S → Rep ar' z S
 | .nil, z, _, h => h
 | .node l c g, z, e, ⟨h, a, b, h1, h2, h3, h4⟩ => ⟨h, a, b, (e c false (.inl rfl)).trans h1, (e c true (.inl rfl)).trans h2, h3.congr fun x fl hx => e x fl (.inr (.inl hx)), h4.congr fun x fl hx => e x fl (.inr (.inr hx))⟩
noncomputable def setA (ar : Bool → List V) (b : Bool) (x : Nat) (v : V) : Bool → List V := fun c => if c = b then (ar b).set x v else ar c
theorem setA_len {ar : Bool → List V} {b c : Bool} {x : Nat} {v : V} : (setA ar b x v c).length = (ar c).length := by
 unfold setA; split
 ·rename_i h; subst h; simp
 ·rfl
theorem setA_self {ar : Bool → List V} {b : Bool} {x : Nat} {v : V} (h : x < (ar b).length) : (setA ar b x v b)[x]? = some v := by
 unfold setA; rw [if_pos rfl,List.getElem?_set_self h]
theorem setA_ne {ar : Bool → List V} {b c : Bool} {x y : Nat} {v : V} (h : (c, y) ≠ (b, x)) : (setA ar b x v c)[y]? = (ar c)[y]? := by
 unfold setA; split
 ·rename_i e; subst e
  rw [List.getElem?_set_ne (fun e => h (by rw [e]))]
 ·rfl
theorem setA_nx {ar : Bool → List V} {b c : Bool} {x y : Nat} {v : V} (h : y ≠ x) : (setA ar b x v c)[y]? = (ar c)[y]? := setA_ne fun e => h (Prod.mk.inj e).2
noncomputable def ad (sa ga : Addr) (b : Bool) : Addr := if b = true then ga else sa
noncomputable def sA (σ : AHeap) (sa ga : Addr) (ar : Bool → List V) : AHeap := upd (upd σ sa (.list (ar false))) ga (.list (ar true))
theorem sA_ne {σ : AHeap} {sa ga a : Addr} {ar : Bool → List V} (h1 : a ≠ sa) (h2 : a ≠ ga) : sA σ sa ga ar a = σ a := by unfold sA; rw [upd_ne h2,upd_ne h1]
theorem sA_s {σ : AHeap} {sa ga : Addr} {ar : Bool → List V} (h : sa ≠ ga) : sA σ sa ga ar sa = some (.list (ar false)) := by unfold sA; rw [upd_ne h,upd_self]
theorem sA_g {σ : AHeap} {sa ga : Addr} {ar : Bool → List V} : sA σ sa ga ar ga = some (.list (ar true)) := by unfold sA; rw [upd_self]
theorem sA_set {σ : AHeap} {sa ga : Addr} {ar : Bool → List V} {b : Bool} {x : Nat} {v : V} (h : sa ≠ ga) : upd (sA σ sa ga ar) (ad sa ga b) (.list ((ar b).set x v)) = sA σ sa ga (setA ar b x v) := by
 funext a
 cases b <;> simp [sA,ad,setA,upd]
 ·by_cases h1 : a = sa
  ·subst h1; simp [h]
  ·simp [h1]
 ·by_cases h1 : a = ga
  ·simp [h1]
  ·simp [h1]
theorem sA_here {σ : AHeap} {sa ga : Addr} {ar : Bool → List V} (h1 : σ sa = some (.list (ar false))) (h2 : σ ga = some (.list (ar true))) : sA σ sa ga ar = σ := by
 funext a
 unfold sA upd
 split
 ·rename_i e; rw [e,h2]
 ·split
  ·rename_i e; rw [e,h1]
  ·rfl
section
variable {X : Cx} {k : Nat}
variable {σ : AHeap} {f C : Addr} {fs : List (Nat × V)} {t : List Nat} {least w ch ah p : Nat} {Q : V → AHeap → Prop} {sa ga : Addr} {ar : Bool → List V}
structure Tn (σ : AHeap) (f : Addr) (fs : List (Nat × V)) (t : List Nat) (least w ch ah : Nat) (sa ga : Addr) : Prop where
 mt : Mt σ f 274 fs t least w ch ah
 f10 : fs.lookup 10 = some (.ref sa)
 f11 : fs.lookup 11 = some (.ref ga)
 ne : sa ≠ ga
 nf : f ≠ sa ∧ f ≠ ga
theorem Tn.at_ (N : Tn σ f fs t least w ch ah sa ga) (ar : Bool → List V) : Mt (sA σ sa ga ar) f 274 fs t least w ch ah := N.mt.mono fun o h => by rw [sA_ne N.nf.1 N.nf.2]; exact h
theorem hang_c (F : Fns X) (N : Tn σ f fs t least w ch ah sa ga) {x : Nat} {b : Bool} {z : Int} (hv : V.int z ≠ .undef) (hl : ∀ b, (ar b).length = t.length) (hx : x < t.length) (hQ : Q .none (sA σ sa ga (setA ar b x (.int z)))) :
  WC X (k + 1) (.ref 250) [.ref f, .int x, .bool b, .int z] (sA σ sa ga ar) Q := by
 refine wc_of F F.TreeFinder_hang rfl ?_
 rw [← sA_set N.ne] at hQ
 have h1 := hl true
 have h2 := hl false
 cases b
 ·repeat (first | simp only [we_v,we_attr,ws_setidx,ws_ife,wl_nil,wl_cons,gB,gI,gR,tB,aR,siR,insL,retQ,initR,qa,qb,qh,qg,qi,Nat.reduceSub,if_false,Bool.false_eq_true,Int.toNat_natCast,f_TreeFinder_hang,f_TreeFinder_hang_b,(N.at_ ar).obj,N.f10,sA_s N.ne] | ((with_reducible apply tail);case e=>rfl))
  exact ⟨by exact Int.natCast_nonneg _, by lia, hQ⟩
 ·repeat (first | simp only [we_v,we_attr,ws_setidx,ws_ife,wl_nil,wl_cons,gB,gI,gR,tB,aR,siR,insL,retQ,initR,qa,qb,qh,qg,qi,Nat.reduceSub,if_true,Int.toNat_natCast,f_TreeFinder_hang,f_TreeFinder_hang_b,(N.at_ ar).obj,N.f11,sA_g] | ((with_reducible apply tail);case e=>rfl))
  exact ⟨by exact Int.natCast_nonneg _, by lia, hQ⟩
structure PartEnd (t : List Nat) (p w : Nat) (ar ar' : Bool → List V) (S : T) (lo : Nat) (lf : Bool) (hi : Nat) (hf : Bool) : Prop where
 ends : ∃ a b : Int, (ar' lf)[lo]? = some (.int a) ∧ (ar' hf)[hi]? = some (.int b) ∧ Rep ar' a (split t p w S).1 ∧ Rep ar' b (split t p w S).2
 frame : ∀ fl x, ¬ S.has x → (fl, x) ≠ (lf, lo) → (fl, x) ≠ (hf, hi) → (ar' fl)[x]? = (ar fl)[x]?
 len : ∀ fl, (ar' fl).length = (ar fl).length
theorem part_loop (F : Fns X) (N : Tn σ f fs t least w ch ah sa ga) (hp : p < t.length) (hch : t.length < ch) {R : Fl → List V → AHeap → Prop}
  (hnext : ∀ ar z st lo lf lc hi hf hc ct, (∀ b, (ar b).length = t.length) → lo < t.length → hi < t.length → Q .none (sA σ sa ga (setA (setA ar lf lo (.int (-1))) hf hi (.int (-1)))) →
   R .next [.ref f, .int p, .int z, .int (t.length - p : Nat), .int st, .int (lo : Nat), .bool lf, .int lc, .int (hi : Nat), .bool hf, .int hc, ct] (sA σ sa ga ar))
  (hret : ∀ ρ σ', Q .none σ' → R (.ret .none) ρ σ') :
  ∀ (S : T) (m steps bound : Nat) (ar : Bool → List V) (z : Int) (lo lc hi hc : Nat) (lf hf : Bool) (ct : V), Rep ar z S → (∀ x, S.has x → x < bound) → WF t (t.length - p) S → steps + bound ≤ p → bound < m → (∀ b, (ar b).length = t.length) →
   lo < t.length → hi < t.length → ¬ S.has lo → ¬ S.has hi → (lf, lo) ≠ (hf, hi) → LoOk t p (t.length - p) lc S → HiOk t p (t.length - p) hc S → lc ≤ t.length - p →
   (∀ ar', PartEnd t p w ar ar' S lo lf hi hf → Q .none (sA σ sa ga ar')) →
   whileP (fun ρ σ Q => wpE X (k + 1) f_TreeFinder_part_c1 ρ σ fun u σ₁ => truthP u fun b => Q b σ₁) (fun ρ σ Q => wpSs X (k + 1) f_TreeFinder_part_b2 ρ σ Q) R m
    [.ref f, .int p, .int z, .int (t.length - p : Nat), .int steps, .int lo, .bool lf, .int lc, .int hi, .bool hf, .int hc, ct] (sA σ sa ga ar) := by
 intro S
 induction S with
 | nil =>
  intro m steps bound ar z lo lc hi hc lf hf ct hR hB hW hst hm hlen hlo hhi nlo nhi nsl hLo hHi hlc hQ
  obtain ⟨m, rfl⟩ : ∃ m', m = m' + 1 := ⟨m - 1, by lia⟩
  unfold whileP
  have M := N.at_ ar
  generalize hK : whileP _ _ R m = K
  repeat (first | simp only [we_v,we_cmp,we_and,we_attr,we_meth,wz_nil,wz_cons,gI,gR,tB,aR,mR,insL,qa,qb,true_and,if_false,Bool.false_eq_true,f_TreeFinder_part_c1,M.obj,M.nom 21 (by decide)] | ((with_reducible apply tail);case e=>rfl))
  refine ⟨159, rfl, ?_⟩
  refine near_c F M ?_
  have hz : z = -1 := hR
  subst hz
  refine tneg (by simp) ?_
  refine hnext _ _ _ _ _ _ _ _ _ _ hlen hlo hhi (hQ _ ⟨⟨-1, -1, ?_, ?_, rfl, rfl⟩, fun fl x _ h1 h2 => ?_, fun fl => by rw [setA_len,setA_len]⟩)
  ·rw [setA_ne nsl]; exact setA_self (by rw [hlen]; exact hlo)
  ·exact setA_self (by rw [setA_len,hlen]; exact hhi)
  ·rw [setA_ne h2,setA_ne h1]
 | node l c g ihl ihg =>
  intro m steps bound ar z lo lc hi hc lf hf ct hR hB hW hst hm hlen hlo hhi nlo nhi nsl hLo hHi hlc hQ
  obtain ⟨m, rfl⟩ : ∃ m', m = m' + 1 := ⟨m - 1, by lia⟩
  obtain ⟨rfl, za, zb, hA, hB', hRl, hRg⟩ := hR
  obtain ⟨w1, w2, w3, w4⟩ := hW
  have hcb := hB c (.inl rfl)
  have ncl : c ≠ lo := fun e => nlo (.inl e.symm)
  have nch : c ≠ hi := fun e => nhi (.inl e.symm)
  unfold whileP
  have M := N.at_ ar
  generalize hK : whileP _ _ R m = K
  repeat (first | simp only [we_v,we_cmp,we_and,we_attr,we_meth,wz_nil,wz_cons,gI,gR,tB,aR,mR,insL,qa,qb,true_and,if_false,Bool.false_eq_true,f_TreeFinder_part_c1,M.obj,M.nom 21 (by decide)] | ((with_reducible apply tail);case e=>rfl))
  refine ⟨159, rfl, ?_⟩
  refine near_c F M ?_
  by_cases hw : p - c ≤ w
  ·refine pos (by simp; lia) ?_
   repeat (first | simp only [gI,cI,pLt,insL,decide_eq_true_eq,M.obj,M.f6] | ((with_reducible apply tail);case e=>rfl))
   refine pos (by lia) ?_
   repeat (first | simp only [we_v,we_int,we_meth,we_min2,wz_nil,wz_cons,ws_asg,ws_aug,wl_cons,gI,gR,mR,insL,inL,agV,qa,qb,qc,qd,true_and,f_TreeFinder_part_b2,M.obj,M.nom 20 (by decide)] | ((with_reducible apply tail);case e=>rfl))
   refine ⟨152, rfl, ?_⟩
   have hmin : min (lc : Int) (hc : Int) = ((min lc hc : Nat) : Int) := imin
   rw [hmin]
   have hkn := known_ok hp hLo hHi (.inl rfl) (show c < p by lia)
   refine alike_c F M (by lia) (Nat.le_refl _) (by exact Nat.le_of_lt ‹_›) (Nat.le_min.mpr ⟨by assumption, Nat.le_trans (Nat.min_le_left _ _) (by assumption)⟩) ?_
   have hL := (L_le (t := t) (p := p) (q := c)).1
   have hL2 : min (L t p c) (t.length - p) = L t p c := Nat.min_eq_left hL
   rw [hL2]
   repeat (first | simp only [we_v,we_cmp,we_idx,we_attr,we_meth,wz_nil,wz_cons,ws_ife,ws_expr,wl_nil,wl_cons,gB,gI,gR,tB,cI,pEq,aR,mR,lsL,iR,insL,qa,qb,true_and,decide_eq_true_eq,Int.toNat_natCast,M.obj,M.nom 25 (by decide),N.f10,sA_s N.ne] | ((with_reducible apply tail);case e=>rfl))
   by_cases h1 : t.length - p ≤ L t p c
   ·refine pos (by lia) ?_
    refine ⟨250, rfl, by exact Int.natCast_nonneg _, _, hA, ?_⟩
    refine hang_c F N (by simp) hlen hlo ?_
    have M1 := N.at_ (setA ar lf lo (.int za))
    repeat (first | simp only [we_v,we_idx,we_attr,we_meth,wz_nil,wz_cons,ws_expr,wl_cons,gB,gI,gR,aR,mR,lsL,iR,insL,qa,qb,true_and,Int.toNat_natCast,M1.obj,M1.nom 25 (by decide),N.f11,sA_g] | ((with_reducible apply tail);case e=>rfl))
    refine ⟨250, rfl, by exact Int.natCast_nonneg _, _, (setA_nx ncl).trans hB', ?_⟩
    refine hang_c F N (by simp) (fun b => by rw [setA_len]; exact hlen b) hhi ?_
    repeat (first | simp only [ws_retn,wl_nil,wl_cons] | ((with_reducible apply tail);case e=>rfl))
    refine hret _ _ (hQ _ ⟨⟨za, zb, ?_, ?_, ?_, ?_⟩, fun fl x _ h1 h2 => ?_, fun fl => by rw [setA_len,setA_len]⟩)
    ·rw [setA_ne nsl]; exact setA_self (by rw [hlen]; exact hlo)
    ·exact setA_self (by rw [setA_len,hlen]; exact hhi)
    ·rw [split,if_pos hw,if_pos h1]
     exact hRl.congr fun x fl hx => by rw [setA_nx (show x ≠ hi from fun e => nhi (.inr (.inl (e ▸ hx)))),setA_nx (show x ≠ lo from fun e => nlo (.inr (.inl (e ▸ hx))))]
    ·rw [split,if_pos hw,if_pos h1]
     exact hRg.congr fun x fl hx => by rw [setA_nx (show x ≠ hi from fun e => nhi (.inr (.inr (e ▸ hx)))),setA_nx (show x ≠ lo from fun e => nlo (.inr (.inr (e ▸ hx))))]
    ·rw [setA_ne h2,setA_ne h1]
   ·refine neg (by lia) ?_
    have hpL : p + L t p c < t.length := Nat.lt_sub_iff_add_lt'.mp (Nat.lt_of_not_le h1)
    have hcL : c + L t p c < t.length := by lia
    repeat (first | simp only [we_v,we_bin,we_cmp,we_idx,we_attr,we_meth,wz_nil,wz_cons,ws_ife,ws_expr,wl_nil,wl_cons,gB,gI,gY,gR,tB,bI,oA,aR,mR,iY,insL,qa,qb,M.obj,M.f0] | ((with_reducible apply tail);case e=>rfl))
    have e1 : ((c : Int) + (L t p c : Int)).toNat = c + L t p c := by rfl
    have e2 : ((p : Int) + (L t p c : Int)).toNat = p + L t p c := by rfl
    refine ⟨by exact Int.natCast_nonneg _, _, by rw [e1]; exact get_b hcL, by exact Int.natCast_nonneg _, _, by rw [e2]; exact get_b hpL, ?_⟩
    repeat (first | simp only [cI,pLt,decide_eq_true_eq] | ((with_reducible apply tail);case e=>rfl))
    have e3 : (steps : Int) + 1 = ((steps + 1 : Nat) : Int) := by rfl
    rw [e3]
    by_cases h2 : dg t (c + L t p c) < dg t (p + L t p c)
    ·refine pos ((dg_lt hcL hpL).mpr h2) ?_
     repeat (first | simp only [true_and,M.nom 25 (by decide)] | ((with_reducible apply tail);case e=>rfl))
     refine ⟨250, rfl, ?_⟩
     refine hang_c F N (by simp) hlen hlo ?_
     have M1 := N.at_ (setA ar lf lo (.int c))
     repeat (first | simp only [we_v,we_bool,we_idx,we_attr,we_tup,wz_nil,wz_cons,ws_asg,wl_nil,wl_cons,gI,gR,aR,lsL,iR,insL,agV,agT,setAll,qa,qb,qc,qd,Nat.reduceAdd,true_and,Nat.reduceEqDiff,Nat.reduceLeDiff,qe,qf,Int.toNat_natCast,M1.obj,N.f11,sA_g] | ((with_reducible apply tail);case e=>rfl))
     refine ⟨by exact Int.natCast_nonneg _, _, (setA_nx ncl).trans hB', ?_⟩
     repeat (first | simp only [we_v,we_int,we_bool,we_str,we_none,we_neg,we_nowhere,we_bin,we_cmp,we_cmp2,we_isnone,we_and,we_or,we_not,we_ite,we_idx,we_last,we_slice,we_rev,we_attr,we_layers,we_treesize,we_tup,we_lst,we_nlst,we_ndict,we_frz,we_callf,we_meth,we_cmeth,we_len,we_min2,we_max2,we_max1,we_bytes,we_tuple,we_sorted,we_listr,we_lappend,we_dget,we_lindex,we_nrep,we_ncat,we_comp,wz_nil,wz_cons,wi_e,wi_r1,wi_r2,wi_r3,ws_asg,ws_setattr,ws_setidx,ws_aug,ws_ife,ws_forr,ws_wh,ws_ret,ws_retn,ws_brk,ws_pass,ws_raise,ws_expr,wl_nil,wl_cons,wl_fz,gN,gB,gI,gS,gY,gT,gL,gR,tB,cI,cS,cEL,cER,cNL,cNT,thL,thT,thR,pLt,pLe,pGt,pGe,pEq,pNe,bI,bL,oA,oS,oM,oD,oR,oP,aR,kR,mR,lsL,nY,nT,nL,nR,iY,iT,iL,iR,laL,laR,b00,b10,b01,b11,sY,sL,sR,rY,rR,dR,iD,apR,fzR,saR,siR,fT,fL,fY,lL,lR,rg1,rg2,rg3,insL,diL,inL,reL,tuL,liL,byB,byL,byR,isn,isi,agV,agT,agL,setAll,putF,retQ,initR,mkList,qa,qb,qc,qd,List.set_nil,qh,qg,qj,qi,Nat.reduceSub,Nat.reduceAdd,Option.some.injEq,exists_eq_left',ne_eq,reduceCtorEq,not_false_eq_true,true_and,and_true,if_true,if_false,Bool.true_eq_false,Bool.false_eq_true,Option.isSome_some,Nat.reduceBEq,List.lookup_nil,lookup_hit,lookup_miss,bne_self_eq_false,Bool.not_true,Bool.not_false,decide_true,decide_false,ite_true,ite_false,reduceIte,Nat.reduceEqDiff,Nat.reduceLT,Nat.reduceLeDiff,qe,qf,decide_eq_true_eq,Bool.not_eq_true',decide_eq_false_iff_not,Int.toNat_natCast,List.length_map,Bool.and_eq_true,Bool.or_eq_true,Bool.not_eq_eq_eq_not,Bool.not_eq_true,Bool.not_eq_false] | ((with_reducible apply tail);case e=>rfl))
     subst hK
     refine ihg m (steps + 1) c (setA ar lf lo (.int c)) zb c (L t p c) hi hc true hf _ (hRg.congr fun x fl hx => setA_nx (fun e => nlo (.inr (.inr (e ▸ hx))))) (fun x hx => (w2 x hx).1) w4 (by lia) (by lia) (fun b => by rw [setA_len]; exact hlen b)
      (by lia) hhi (fun h => Nat.lt_irrefl _ (w2 c h).1) (fun h => nhi (.inr (.inr h))) (fun e => nch (Prod.mk.inj e).2) (.inr ⟨c, by exact Nat.le_refl _, by lia, fun x hx => (w2 x hx).2⟩) ?_ (by assumption) fun ar' E => hQ ar' ?_
     ·rcases hHi with h | ⟨y, y1, y2, y3⟩
      ·exact .inl h
      ·exact .inr ⟨y, y1, y2, fun x hx => y3 x (.inr (.inr hx))⟩
     ·obtain ⟨⟨a1, b1, q1, q2, q3, q4⟩, q5, q6⟩ := E
      have gl : ¬ g.has c := fun h => Nat.lt_irrefl _ (w2 c h).1
      refine ⟨⟨c, b1, ?_, q2, ?_, ?_⟩, fun fl x hx n1 n2 => ?_, fun fl => by rw [q6,setA_len]⟩
      ·rw [q5 lf lo (fun h => nlo (.inr (.inr h))) (fun e => ncl (Prod.mk.inj e).2.symm) nsl]
       exact setA_self (by rw [hlen]; exact hlo)
      ·rw [split,if_pos hw,if_neg h1,if_pos h2]
       refine ⟨rfl, za, a1, ?_, q1, ?_, q3⟩
       ·rw [q5 false c gl (by simp) (fun e => nch (Prod.mk.inj e).2),setA_nx ncl]
        exact hA
       ·refine hRl.congr fun x fl hx => ?_
        have nx : x ≠ c := fun e => by subst e; exact Nat.lt_irrefl _ (w1 x hx).1
        rw [q5 fl x (w1 x hx).2.2 (fun e => nx (Prod.mk.inj e).2) (fun e => nhi (.inr (.inl ((Prod.mk.inj e).2 ▸ hx)))),setA_nx (show x ≠ lo from fun e => nlo (.inr (.inl (e ▸ hx))))]
      ·rw [split,if_pos hw,if_neg h1,if_pos h2]
       exact q4
      ·rw [q5 fl x (fun h => hx (.inr (.inr h))) (fun e => hx (.inl (Prod.mk.inj e).2)) n2,setA_ne n1]
    ·refine neg (fun e => h2 ((dg_lt hcL hpL).mp e)) ?_
     repeat (first | simp only [true_and,M.nom 25 (by decide)] | ((with_reducible apply tail);case e=>rfl))
     refine ⟨250, rfl, ?_⟩
     refine hang_c F N (by simp) hlen hhi ?_
     have M1 := N.at_ (setA ar hf hi (.int c))
     repeat (first | simp only [we_v,we_bool,we_idx,we_attr,we_tup,wz_nil,wz_cons,ws_asg,wl_nil,wl_cons,gI,gR,aR,lsL,iR,insL,agV,agT,setAll,qa,qb,qc,qd,Nat.reduceAdd,true_and,Nat.reduceEqDiff,Nat.reduceLeDiff,qe,qf,Int.toNat_natCast,M1.obj,N.f10,sA_s N.ne] | ((with_reducible apply tail);case e=>rfl))
     refine ⟨by exact Int.natCast_nonneg _, _, (setA_nx nch).trans hA, ?_⟩
     repeat (first | simp only [we_v,we_int,we_bool,we_str,we_none,we_neg,we_nowhere,we_bin,we_cmp,we_cmp2,we_isnone,we_and,we_or,we_not,we_ite,we_idx,we_last,we_slice,we_rev,we_attr,we_layers,we_treesize,we_tup,we_lst,we_nlst,we_ndict,we_frz,we_callf,we_meth,we_cmeth,we_len,we_min2,we_max2,we_max1,we_bytes,we_tuple,we_sorted,we_listr,we_lappend,we_dget,we_lindex,we_nrep,we_ncat,we_comp,wz_nil,wz_cons,wi_e,wi_r1,wi_r2,wi_r3,ws_asg,ws_setattr,ws_setidx,ws_aug,ws_ife,ws_forr,ws_wh,ws_ret,ws_retn,ws_brk,ws_pass,ws_raise,ws_expr,wl_nil,wl_cons,wl_fz,gN,gB,gI,gS,gY,gT,gL,gR,tB,cI,cS,cEL,cER,cNL,cNT,thL,thT,thR,pLt,pLe,pGt,pGe,pEq,pNe,bI,bL,oA,oS,oM,oD,oR,oP,aR,kR,mR,lsL,nY,nT,nL,nR,iY,iT,iL,iR,laL,laR,b00,b10,b01,b11,sY,sL,sR,rY,rR,dR,iD,apR,fzR,saR,siR,fT,fL,fY,lL,lR,rg1,rg2,rg3,insL,diL,inL,reL,tuL,liL,byB,byL,byR,isn,isi,agV,agT,agL,setAll,putF,retQ,initR,mkList,qa,qb,qc,qd,List.set_nil,qh,qg,qj,qi,Nat.reduceSub,Nat.reduceAdd,Option.some.injEq,exists_eq_left',ne_eq,reduceCtorEq,not_false_eq_true,true_and,and_true,if_true,if_false,Bool.true_eq_false,Bool.false_eq_true,Option.isSome_some,Nat.reduceBEq,List.lookup_nil,lookup_hit,lookup_miss,bne_self_eq_false,Bool.not_true,Bool.not_false,decide_true,decide_false,ite_true,ite_false,reduceIte,Nat.reduceEqDiff,Nat.reduceLT,Nat.reduceLeDiff,qe,qf,decide_eq_true_eq,Bool.not_eq_true',decide_eq_false_iff_not,Int.toNat_natCast,List.length_map,Bool.and_eq_true,Bool.or_eq_true,Bool.not_eq_eq_eq_not,Bool.not_eq_true,Bool.not_eq_false] | ((with_reducible apply tail);case e=>rfl))
     subst hK
     have hne := L_ne (t := t) (p := p) (q := c) (by lia) hp (by lia)
     refine ihl m (steps + 1) c (setA ar hf hi (.int c)) za lo lc c (L t p c) lf false _ (hRl.congr fun x fl hx => setA_nx (fun e => nhi (.inr (.inl (e ▸ hx))))) (fun x hx => (w1 x hx).1) w3 (by lia) (by lia) (fun b => by rw [setA_len]; exact hlen b)
      hlo (by lia) (fun h => nlo (.inr (.inl h))) (fun h => Nat.lt_irrefl _ (w1 c h).1) (fun e => ncl (Prod.mk.inj e).2.symm) ?_ (.inr ⟨c, by exact Nat.le_refl _, by lia, fun x hx => (w1 x hx).2.1⟩) (by assumption) fun ar' E => hQ ar' ?_
     ·rcases hLo with h | ⟨y, y1, y2, y3⟩
      ·exact .inl h
      ·exact .inr ⟨y, y1, y2, fun x hx => y3 x (.inr (.inl hx))⟩
     ·obtain ⟨⟨a1, b1, q1, q2, q3, q4⟩, q5, q6⟩ := E
      have ll : ¬ l.has c := fun h => Nat.lt_irrefl _ (w1 c h).1
      refine ⟨⟨a1, c, q1, ?_, ?_, ?_⟩, fun fl x hx n1 n2 => ?_, fun fl => by rw [q6,setA_len]⟩
      ·rw [q5 hf hi (fun h => nhi (.inr (.inl h))) (fun e => nsl e.symm) (fun e => nch (Prod.mk.inj e).2.symm)]
       exact setA_self (by rw [hlen]; exact hhi)
      ·rw [split,if_pos hw,if_neg h1,if_neg h2]
       exact q3
      ·rw [split,if_pos hw,if_neg h1,if_neg h2]
       refine ⟨rfl, b1, zb, q2, ?_, q4, ?_⟩
       ·rw [q5 true c ll (fun e => ncl (Prod.mk.inj e).2) (by simp),setA_nx nch]
        exact hB'
       ·refine hRg.congr fun x fl hx => ?_
        have nx : x ≠ c := fun e => by subst e; exact Nat.lt_irrefl _ (w2 x hx).1
        rw [q5 fl x (fun h => (w1 x h).2.2 hx) (fun e => nlo (.inr (.inr ((Prod.mk.inj e).2 ▸ hx)))) (fun e => nx (Prod.mk.inj e).2),setA_nx (show x ≠ hi from fun e => nhi (.inr (.inr (e ▸ hx))))]
      ·rw [q5 fl x (fun h => hx (.inr (.inl h))) n1 (fun e => hx (.inl (Prod.mk.inj e).2)),setA_ne n2]
  ·refine neg (by simp; lia) ?_
   refine hnext _ _ _ _ _ _ _ _ _ _ hlen hlo hhi (hQ _ ⟨⟨-1, -1, ?_, ?_, ?_, ?_⟩, fun fl x _ h1 h2 => ?_, fun fl => by rw [setA_len,setA_len]⟩)
   ·rw [setA_ne nsl]; exact setA_self (by rw [hlen]; exact hlo)
   ·exact setA_self (by rw [setA_len,hlen]; exact hhi)
   ·rw [split,if_neg hw]; rfl
   ·rw [split,if_neg hw]; rfl
   ·rw [setA_ne h2,setA_ne h1]
end
end Mine
end

section
open PySem PySem.Calls PyProof.Rows PySem.W
set_option backward.defeqAttrib.useBackward true
set_option maxRecDepth 20000
namespace Mine
section
variable {X : Cx} {k : Nat}
variable {σ : AHeap} {f C : Addr} {fs : List (Nat × V)} {t : List Nat} {least w ch ah p : Nat} {Q : V → AHeap → Prop} {sa ga : Addr} {ar : Bool → List V}
theorem part_c (F : Fns X) (N : Tn σ f fs t least w ch ah sa ga) (hp : p < t.length) (hch : t.length < ch) {z : Int} {S : T} (hR : Rep ar z S) (hB : ∀ x, S.has x → x < p) (hW : WF t (t.length - p) S) (hlen : ∀ b, (ar b).length = t.length)
  (hQ : ∀ ar', PartEnd t p w ar ar' S p false p true → Q .none (sA σ sa ga ar')) : WC X (k + 2) (.ref 264) [.ref f, .int p, .int z] (sA σ sa ga ar) Q := by
 refine wc_of F F.TreeFinder_part rfl ?_
 have M := N.at_ ar
 repeat (first | simp only [we_v,we_int,we_bool,we_bin,we_attr,we_tup,we_len,wz_nil,wz_cons,ws_asg,ws_wh,wl_cons,gI,gY,gR,bI,oS,aR,nY,insL,agT,setAll,retQ,initR,qa,qb,qc,qd,qh,qg,qj,qi,Nat.reduceSub,Nat.reduceAdd,true_and,Nat.reduceEqDiff,Nat.reduceLeDiff,qe,qf,List.length_map,f_TreeFinder_part,f_TreeFinder_part_b,M.obj,M.f0] | ((with_reducible apply tail);case e=>rfl))
 have e1 : (t.length : Int) - (p : Int) = ((t.length - p : Nat) : Int) := by exact (Int.natCast_sub (Nat.le_of_lt ‹_›)).symm
 rw [e1]
 have np : ¬ S.has p := fun h => Nat.lt_irrefl _ (hB p h)
 refine ⟨p + 1, part_loop (Q := Q) F N hp hch ?_ ?_ S (p + 1) 0 p ar z p 0 p 0 false true _ hR hB hW (by lia) (by exact Nat.lt_succ_self _) hlen hp hp np np (by simp) (.inl rfl) (.inl rfl) (by exact Nat.zero_le _) hQ⟩
 ·intro ar z st lo lf lc hi hf hc ct hl h1 h2 hq
  have M := N.at_ ar
  repeat (first | simp only [we_v,we_nowhere,we_meth,wz_nil,wz_cons,ws_expr,wl_cons,gB,gI,gR,mR,insL,retQ,qa,qb,true_and,M.obj,M.nom 25 (by decide)] | ((with_reducible apply tail);case e=>rfl))
  refine ⟨250, rfl, ?_⟩
  refine hang_c F N (by simp) hl h1 ?_
  have M1 := N.at_ (setA ar lf lo (.int (-1)))
  repeat (first | simp only [we_v,we_nowhere,we_meth,wz_nil,wz_cons,ws_expr,wl_nil,wl_cons,gB,gI,gR,mR,insL,retQ,qa,qb,true_and,M1.obj,M1.nom 25 (by decide)] | ((with_reducible apply tail);case e=>rfl))
  refine ⟨250, rfl, ?_⟩
  refine hang_c F N (by simp) (fun b => by rw [setA_len]; exact hl b) h2 ?_
  repeat (first | simp only [we_v,we_int,we_bool,we_str,we_none,we_neg,we_nowhere,we_bin,we_cmp,we_cmp2,we_isnone,we_and,we_or,we_not,we_ite,we_idx,we_last,we_slice,we_rev,we_attr,we_layers,we_treesize,we_tup,we_lst,we_nlst,we_ndict,we_frz,we_callf,we_meth,we_cmeth,we_len,we_min2,we_max2,we_max1,we_bytes,we_tuple,we_sorted,we_listr,we_lappend,we_dget,we_lindex,we_nrep,we_ncat,we_comp,wz_nil,wz_cons,wi_e,wi_r1,wi_r2,wi_r3,ws_asg,ws_setattr,ws_setidx,ws_aug,ws_ife,ws_forr,ws_wh,ws_ret,ws_retn,ws_brk,ws_pass,ws_raise,ws_expr,wl_nil,wl_cons,wl_fz,gN,gB,gI,gS,gY,gT,gL,gR,tB,cI,cS,cEL,cER,cNL,cNT,thL,thT,thR,pLt,pLe,pGt,pGe,pEq,pNe,bI,bL,oA,oS,oM,oD,oR,oP,aR,kR,mR,lsL,nY,nT,nL,nR,iY,iT,iL,iR,laL,laR,b00,b10,b01,b11,sY,sL,sR,rY,rR,dR,iD,apR,fzR,saR,siR,fT,fL,fY,lL,lR,rg1,rg2,rg3,insL,diL,inL,reL,tuL,liL,byB,byL,byR,isn,isi,agV,agT,agL,setAll,putF,retQ,initR,mkList,qa,qb,qc,qd,List.set_nil,qh,qg,qj,qi,Nat.reduceSub,Nat.reduceAdd,Option.some.injEq,exists_eq_left',ne_eq,reduceCtorEq,not_false_eq_true,true_and,and_true,if_true,if_false,Bool.true_eq_false,Bool.false_eq_true,Option.isSome_some,Nat.reduceBEq,List.lookup_nil,lookup_hit,lookup_miss,bne_self_eq_false,Bool.not_true,Bool.not_false,decide_true,decide_false,ite_true,ite_false,reduceIte,Nat.reduceEqDiff,Nat.reduceLT,Nat.reduceLeDiff,qe,qf,decide_eq_true_eq,Bool.not_eq_true',decide_eq_false_iff_not,Int.toNat_natCast,List.length_map,Bool.and_eq_true,Bool.or_eq_true,Bool.not_eq_eq_eq_not,Bool.not_eq_true,Bool.not_eq_false] | ((with_reducible apply tail);case e=>rfl))
  exact hq
 ·intro ρ σ' h
  exact h
noncomputable def treF (t : List Nat) (least w ch ah : Nat) (r ro sa ga : Addr) : List (Nat × V) := [(0, .bytes t), (4, .int least), (5, .int w), (6, .int ch), (7, .int ah), (8, .ref r), (9, .ref ro), (10, .ref sa), (11, .ref ga)]
theorem treF_mt {ah : Nat} {r ro : Addr} (h : σ f = some (.inst C (treF t least w ch ah r ro sa ga))) : Mt σ f C (treF t least w ch ah r ro sa ga) t least w ch ah :=
 ⟨h, rfl, rfl, rfl, rfl, rfl, fun m hm => by
  unfold treF
  rw [lookup_miss (by simp; lia),lookup_miss (by simp; lia),lookup_miss (by simp; lia),lookup_miss (by simp; lia),lookup_miss (by simp; lia),lookup_miss (by simp; lia),lookup_miss (by simp; lia),lookup_miss (by simp; lia),lookup_miss (by simp; lia)]; rfl⟩
noncomputable def TreH (t : List Nat) (least w : Nat) (ro sa ga : Addr) (i : Nat) (σ : AHeap) : Prop := ∃ (nd : Nat) (m : Int → Option V) (ar : Bool → List V) (z : Nat → Int) (S : Nat → T), σ ro = some (.dict nd m) ∧ nd ≤ i ∧ σ sa = some (.list (ar false)) ∧ σ ga = some (.list (ar true)) ∧ (∀ b, (ar b).length = t.length) ∧
  (∀ n : Nat, (m n).getD (.int (-1)) = .int (z n)) ∧ ∀ n : Nat, Rep ar (z n) (S n) ∧ WF t (t.length - i) (S n) ∧ Keyed t least n i (S n) ∧ Full t least w n i (S n)
structure TreI (t : List Nat) (least w ch : Nat) (f r ro sa ga : Addr) (i : Nat) (σ : AHeap) : Prop where
 obj : σ f = some (.inst 274 (treF t least w ch i r ro sa ga))
 row : ∃ la be, σ r = some (.inst 92 (rowF t least la be))
 ne : sa ≠ ga
 all : TreH t least w ro sa ga i σ
noncomputable def treFt (f r ro sa ga : Addr) : Addr → Prop := fun a => a = f ∨ a = r ∨ a = ro ∨ a = sa ∨ a = ga
theorem TreI.keep {σ' : AHeap} {r ro : Addr} {i : Nat} (x : TreI t least w ch f r ro sa ga i σ) (h : ∀ a o, treFt f r ro sa ga a → σ a = some o → σ' a = some o) : TreI t least w ch f r ro sa ga i σ' := by
 obtain ⟨a, ⟨la, be, b⟩, c, ⟨nd, m, ar, z, S, d1, d2, d3, d4, d5⟩⟩ := x
 exact ⟨h _ _ (.inl rfl) a, ⟨la, be, h _ _ (.inr (.inl rfl)) b⟩, c, ⟨nd, m, ar, z, S, h _ _ (.inr (.inr (.inl rfl))) d1, d2, h _ _ (.inr (.inr (.inr (.inl rfl)))) d3, h _ _ (.inr (.inr (.inr (.inr rfl)))) d4, d5⟩⟩
theorem tre_enter (F : Fns X) {r ro : Addr} {i : Nat} (hch : t.length < ch) (hn : t.length ≤ 900) (hi : i < t.length) (h1 : σ f = some (.inst 274 (treF t least w ch ah r ro sa ga))) (h2 : ∃ la be, σ r = some (.inst 92 (rowF t least la be))) (ne : sa ≠ ga)
  (h3 : TreH t least w ro sa ga i σ) :
  WC X (k + 3) (.ref 257) [.ref f, .int i] σ (fun v σ' => (σ' f = some (.inst 274 (treF t least w ch ah r ro sa ga)) ∧ (∃ la be, σ' r = some (.inst 92 (rowF t least la be))) ∧
   TreH t least w ro sa ga (i + 1) σ') ∧ Fram (treFt f r ro sa ga) σ σ') := by
 obtain ⟨la, be, h2'⟩ := h2
 have h2 := h2'
 obtain ⟨nd, m, ar, z, S, d1, d2, d3, d4, d5, d6, d7⟩ := h3
 have n1 : f ≠ sa := fun e => by rw [e,d3] at h1; cases h1
 have n2 : f ≠ ga := fun e => by rw [e,d4] at h1; cases h1
 have n3 : f ≠ ro := fun e => by rw [e,d1] at h1; cases h1
 have n4 : r ≠ ro := fun e => by rw [e,d1] at h2; cases h2
 have n5 : r ≠ sa := fun e => by rw [e,d3] at h2; cases h2
 have n6 : r ≠ ga := fun e => by rw [e,d4] at h2; cases h2
 have n7 : sa ≠ ro := fun e => by rw [e,d1] at d3; cases d3
 have n8 : ga ≠ ro := fun e => by rw [e,d1] at d4; cases d4
 refine wc_of F F.TreeFinder_enter rfl ?_
 have h1' := h1
 unfold treF at h1'
 unfold rowF at h2'
 repeat (first | simp only [we_v,we_attr,we_meth,wz_nil,wz_cons,ws_asg,wl_cons,gI,gR,aR,mR,insL,agV,retQ,initR,qa,qb,qc,qd,qh,qg,qj,qi,Nat.reduceSub,true_and,Nat.reduceBEq,List.lookup_nil,lookup_hit,lookup_miss,f_TreeFinder_enter,f_TreeFinder_enter_b,h1',h2'] | ((with_reducible apply tail);case e=>rfl))
 refine ⟨75, rfl, ?_⟩
 refine key_c F h2 (by exact Nat.le_of_lt ‹_›) ?_
 unfold keyV
 cases hk : keyN t i least with
 | none =>
  repeat (first | simp only [we_v,we_isnone,ws_ife,ws_retn,wl_nil,wl_cons,gN,tB,isn,retQ,qa,qb,ne_eq,reduceCtorEq,not_false_eq_true,true_and] | ((with_reducible apply tail);case e=>rfl))
  refine ⟨⟨h1, ⟨la, be, h2⟩, nd, m, ar, z, S, d1, by exact Nat.le_succ_of_le ‹_›, d3, d4, d5, d6, fun n => ?_⟩, fun b o _ e => e⟩
  obtain ⟨a1, a2, a3, a4⟩ := d7 n
  exact ⟨a1, keep_ok (by rw [hk]; simp) a2 a3 a4⟩
 | some n =>
  obtain ⟨a1, a2, a3, a4⟩ := d7 n
  repeat (first | simp only [we_v,we_nowhere,we_isnone,we_attr,we_dget,ws_asg,ws_setidx,ws_ife,ws_retn,wl_nil,wl_cons,gI,gR,tB,aR,dR,iD,siR,insL,diL,isi,agV,retQ,qa,qb,qc,qd,Option.some.injEq,ne_eq,reduceCtorEq,not_false_eq_true,true_and,if_false,Bool.false_eq_true,Nat.reduceBEq,lookup_hit,lookup_miss,bne_self_eq_false,h1',h2',d1,d6 n] | ((with_reducible apply tail);case e=>rfl))
  refine ⟨by lia, ?_⟩
  generalize hσ : upd σ ro _ = σ1
  have g1 : σ1 f = some (.inst 274 (treF t least w ch ah r ro sa ga)) := by rw [← hσ,upd_ne n3]; exact h1
  have g2 : σ1 sa = some (.list (ar false)) := by rw [← hσ,upd_ne n7]; exact d3
  have g3 : σ1 ga = some (.list (ar true)) := by rw [← hσ,upd_ne n8]; exact d4
  have M := treF_mt g1
  repeat (first | simp only [we_v,we_meth,wz_nil,wz_cons,ws_expr,wl_nil,wl_cons,gI,gR,mR,insL,retQ,qa,qb,true_and,M.obj,M.nom 26 (by decide)] | ((with_reducible apply tail);case e=>rfl))
  refine ⟨264, rfl, ?_⟩
  rw [← sA_here g2 g3]
  have N : Tn σ1 f (treF t least w ch ah r ro sa ga) t least w ch ah sa ga := ⟨M, rfl, rfl, ne, n1, n2⟩
  refine part_c F N hi hch a1 (fun x hx => (a3 x hx).1) a2 d5 fun ar' E => ?_
  repeat (first | simp only [we_v,we_int,we_bool,we_str,we_none,we_neg,we_nowhere,we_bin,we_cmp,we_cmp2,we_isnone,we_and,we_or,we_not,we_ite,we_idx,we_last,we_slice,we_rev,we_attr,we_layers,we_treesize,we_tup,we_lst,we_nlst,we_ndict,we_frz,we_callf,we_meth,we_cmeth,we_len,we_min2,we_max2,we_max1,we_bytes,we_tuple,we_sorted,we_listr,we_lappend,we_dget,we_lindex,we_nrep,we_ncat,we_comp,wz_nil,wz_cons,wi_e,wi_r1,wi_r2,wi_r3,ws_asg,ws_setattr,ws_setidx,ws_aug,ws_ife,ws_forr,ws_wh,ws_ret,ws_retn,ws_brk,ws_pass,ws_raise,ws_expr,wl_nil,wl_cons,wl_fz,gN,gB,gI,gS,gY,gT,gL,gR,tB,cI,cS,cEL,cER,cNL,cNT,thL,thT,thR,pLt,pLe,pGt,pGe,pEq,pNe,bI,bL,oA,oS,oM,oD,oR,oP,aR,kR,mR,lsL,nY,nT,nL,nR,iY,iT,iL,iR,laL,laR,b00,b10,b01,b11,sY,sL,sR,rY,rR,dR,iD,apR,fzR,saR,siR,fT,fL,fY,lL,lR,rg1,rg2,rg3,insL,diL,inL,reL,tuL,liL,byB,byL,byR,isn,isi,agV,agT,agL,setAll,putF,retQ,initR,mkList,qa,qb,qc,qd,List.set_nil,qh,qg,qj,qi,Nat.reduceSub,Nat.reduceAdd,Option.some.injEq,exists_eq_left',ne_eq,reduceCtorEq,not_false_eq_true,true_and,and_true,if_true,if_false,Bool.true_eq_false,Bool.false_eq_true,Option.isSome_some,Nat.reduceBEq,List.lookup_nil,lookup_hit,lookup_miss,bne_self_eq_false,Bool.not_true,Bool.not_false,decide_true,decide_false,ite_true,ite_false,reduceIte,Nat.reduceEqDiff,Nat.reduceLT,Nat.reduceLeDiff,qe,qf,decide_eq_true_eq,Bool.not_eq_true',decide_eq_false_iff_not,Int.toNat_natCast,List.length_map,Bool.and_eq_true,Bool.or_eq_true,Bool.not_eq_eq_eq_not,Bool.not_eq_true,Bool.not_eq_false] | ((with_reducible apply tail);case e=>rfl))
  obtain ⟨⟨a, b, q1, q2, q3, q4⟩, q5, q6⟩ := E
  refine ⟨⟨by rw [sA_ne n1 n2]; exact g1, ⟨la, be, by rw [sA_ne n5 n6,← hσ,upd_ne n4]; exact h2⟩, nd + 1, _, ar', (fun j => if j = n then (i : Int) else z j), (fun j => if j = n then put1 t i w (S n) else S j),
   by rw [sA_ne n7.symm n8.symm,← hσ,upd_self], by exact Nat.succ_le_succ ‹_›, sA_s ne, sA_g, fun b => by rw [q6]; exact d5 b, fun j => ?_, fun j => ?_⟩, fun c o hc e => ?_⟩
  ·show (if (j : Int) = (n : Int) then some (V.int (i : Int)) else m j).getD _ = _
   by_cases h : j = n
   ·rw [if_pos (by lia)]; simp [h]
   ·rw [if_neg (by lia),d6 j]; simp [h]
  ·by_cases h : j = n
   ·subst h
    simp only [if_true]
    have hx : ¬ (S j).has i := fun h => Nat.lt_irrefl _ (a3 i h).1
    obtain ⟨b1, b2, b3⟩ := put1_ok hi hk a2 a3 a4
    exact ⟨⟨rfl, a, b, q1, q2, q3, q4⟩, b1, b2, b3⟩
   ·simp only [if_neg h]
    obtain ⟨c1, c2, c3, c4⟩ := d7 j
    obtain ⟨b1, b2, b3⟩ := keep_ok (by rw [hk]; intro e; exact h (Option.some.inj e).symm) c2 c3 c4
    refine ⟨c1.congr fun x fl hx => ?_, b1, b2, b3⟩
    have hx1 := c3 x hx
    have nx : x ≠ i := by lia
    refine q5 fl x (fun hx2 => ?_) (fun e => nx (Prod.mk.inj e).2) (fun e => nx (Prod.mk.inj e).2)
    have := (a3 x hx2).2
    rw [hx1.2] at this
    exact h (Option.some.inj this)
  ·have := fun e => hc (.inr (.inr (.inr (.inl e))))
   rw [sA_ne (fun e => hc (.inr (.inr (.inr (.inl e))))) (fun e => hc (.inr (.inr (.inr (.inr e))))),← hσ,upd_ne (fun e => hc (.inr (.inr (.inl e))))]
   exact e
theorem tre_put (F : Fns X) {r ro : Addr} {i : Nat} (hch : t.length < ch) (hn : t.length ≤ 900) (I : TreI t least w ch f r ro sa ga i σ) (hi : i < t.length) :
  WC X (k + 4) (.ref 117) [.ref f, .int i] σ (fun v σ' => TreI t least w ch f r ro sa ga (i + 1) σ' ∧ Fram (treFt f r ro sa ga) σ σ') := by
 obtain ⟨hf, ⟨la, be, hr⟩, ne, ⟨nd, m, ar, z, S, d1, d2, d3, d4, d5⟩⟩ := I
 have n1 : sa ≠ f := fun e => by rw [← e,d3] at hf; cases hf
 have n2 : ga ≠ f := fun e => by rw [← e,d4] at hf; cases hf
 have n3 : ro ≠ f := fun e => by rw [← e,d1] at hf; cases hf
 have n4 : r ≠ f := fun e => by rw [← e,hr] at hf; cases hf
 refine mput_c F (C := 274) (fe := 257) rfl (treF_mt hf) (by simp [treF]) hi ?_ rfl
 show WC X (k + 3) (.ref 257) [.ref f, .int i] (upd σ f (.inst 274 (treF t least w ch (i + 1) r ro sa ga))) _
 refine (tre_enter F hch hn hi upd_self ⟨la, be, by rw [upd_ne n4]; exact hr⟩ ne ⟨nd, m, ar, z, S, by rw [upd_ne n3]; exact d1, d2, by rw [upd_ne n1]; exact d3, by rw [upd_ne n2]; exact d4, d5⟩).mono fun v σ' ⟨⟨h1, h2, h3⟩, h4⟩ => ?_
 refine ⟨⟨h1, h2, ne, h3⟩, fun a o ha e => h4 a o ha ?_⟩
 rw [upd_ne (fun e => ha (.inl e))]
 exact e
end
end Mine
end

section
open PySem PySem.Calls PyProof.Rows PySem.W
set_option backward.defeqAttrib.useBackward true
set_option maxRecDepth 20000
namespace Mine
section
variable {X : Cx} {k : Nat}
variable {σ : AHeap} {f C : Addr} {fs : List (Nat × V)} {t : List Nat} {least w ch ah p : Nat} {Q : V → AHeap → Prop} {sa ga : Addr} {ar : Bool → List V}
noncomputable def tev_tail : Ss := (.cons (.ife (.cmp (.v 11) .lt (.v 5)) (.cons (.ife (.cmp (.idx (.attr (.v 0) 0) (.bin .add (.v 10) (.v 11))) .lt (.idx (.attr (.v 0) 0) (.bin .add (.v 1) (.v 11)))) (.cons (.asg (.tup [8, 10]) (.tup (.cons (.v 11) (.cons (.idx (.attr (.v 0) 11) (.v 10)) .nil)))) .nil) (.cons (.asg (.tup [9, 10]) (.tup (.cons (.v 11) (.cons (.idx (.attr (.v 0) 10) (.v 10)) .nil)))) .nil)) .nil) .nil) .nil)
theorem tev_b2 : f_TreeFinder_every_b2 = (.cons (.aug 7 .add (.int 1)) (.cons (.asg (.v 11) (.meth (.v 0) 20 (.cons (.v 1) (.cons (.v 10) (.cons (.min2 (.v 8) (.v 9)) (.cons (.v 5) .nil)))))) (.cons (.ife (.cmp (.v 11) .gt (.v 6)) (.cons (.expr (.lappend (.v 4) (.tup (.cons (.v 11) (.cons (.bin .sub (.v 1) (.v 10)) .nil))))) (.cons (.asg (.v 6) (.v 11)) .nil)) .nil) tev_tail))) := rfl
theorem tev_loop (F : Fns X) {a : Addr} {lim : Nat} {R : Fl → List V → AHeap → Prop} {mo nu : V} (M0 : Mt σ f 274 fs t least w ch ah) (h10 : fs.lookup 10 = some (.ref sa)) (h11 : fs.lookup 11 = some (.ref ga)) (hs : σ sa = some (.list (ar false))) (hg : σ ga = some (.list (ar true)))
  (ha : σ a = none) (hl : lim ≤ t.length - p) (hp : p < t.length) (hch : t.length < ch) (hn : t.length ≤ 900) :
  ∀ (S : T) (m steps bound : Nat) (acc : List V) (z : Int) (lc hc lo : Nat) (ct : V), Rep ar z S → (∀ x, S.has x → x < bound) → WF t (t.length - p) S → steps + bound ≤ p → bound < m → acc.length ≤ steps →
   LoOk t p (t.length - p) lc S → HiOk t p (t.length - p) hc S → min lc hc ≤ lim →
   (∀ lo' st lc hc z ct, R .next [.ref f, .int p, mo, nu, .ref a, .int lim, lo', st, lc, hc, z, ct] (upd σ a (.list (acc ++ (recs t p lim lo (path t p w lim S)).map pairN)))) →
   whileP (fun ρ σ Q => wpE X (k + 1) f_TreeFinder_every_c1 ρ σ fun u σ₁ => truthP u fun b => Q b σ₁) (fun ρ σ Q => wpSs X (k + 1) f_TreeFinder_every_b2 ρ σ Q) R m
    [.ref f, .int p, mo, nu, .ref a, .int lim, .int lo, .int steps, .int lc, .int hc, .int z, ct] (upd σ a (.list acc)) := by
 have nsa : sa ≠ a := fun e => by rw [e,ha] at hs; cases hs
 have nga : ga ≠ a := fun e => by rw [e,ha] at hg; cases hg
 intro S
 induction S with
 | nil =>
  intro m steps bound acc z lc hc lo ct hR hB hW hst hm hac hLo hHi hkn hQ
  obtain ⟨m, rfl⟩ : ∃ m', m = m' + 1 := ⟨m - 1, by lia⟩
  unfold whileP
  have M := M0.mono (σ' := upd σ a (.list acc)) fun o h => (Ext.upd ha) _ _ h
  generalize hK : whileP _ _ R m = K
  repeat (first | simp only [we_v,we_cmp,we_and,we_attr,we_meth,wz_nil,wz_cons,gI,gR,tB,cI,pLt,aR,mR,insL,qa,qb,true_and,if_false,Bool.false_eq_true,decide_eq_true_eq,f_TreeFinder_every_c1,M.obj,M.nom 21 (by decide)] | ((with_reducible apply tail);case e=>rfl))
  refine ⟨159, rfl, ?_⟩
  refine near_c F M ?_
  have hz : z = -1 := hR
  subst hz
  refine tneg (by simp) ?_
  repeat (first | simp only [we_v,we_int,we_bool,we_str,we_none,we_neg,we_nowhere,we_bin,we_cmp,we_cmp2,we_isnone,we_and,we_or,we_not,we_ite,we_idx,we_last,we_slice,we_rev,we_attr,we_layers,we_treesize,we_tup,we_lst,we_nlst,we_ndict,we_frz,we_callf,we_meth,we_cmeth,we_len,we_min2,we_max2,we_max1,we_bytes,we_tuple,we_sorted,we_listr,we_lappend,we_dget,we_lindex,we_nrep,we_ncat,we_comp,wz_nil,wz_cons,wi_e,wi_r1,wi_r2,wi_r3,ws_asg,ws_setattr,ws_setidx,ws_aug,ws_ife,ws_forr,ws_wh,ws_ret,ws_retn,ws_brk,ws_pass,ws_raise,ws_expr,wl_nil,wl_cons,wl_fz,gN,gB,gI,gS,gY,gT,gL,gR,tB,cI,cS,cEL,cER,cNL,cNT,thL,thT,thR,pLt,pLe,pGt,pGe,pEq,pNe,bI,bL,oA,oS,oM,oD,oR,oP,aR,kR,mR,lsL,nY,nT,nL,nR,iY,iT,iL,iR,laL,laR,b00,b10,b01,b11,sY,sL,sR,rY,rR,dR,iD,apR,fzR,saR,siR,fT,fL,fY,lL,lR,rg1,rg2,rg3,insL,diL,inL,reL,tuL,liL,byB,byL,byR,isn,isi,agV,agT,agL,setAll,putF,retQ,initR,mkList,qa,qb,qc,qd,List.set_nil,qh,qg,qj,qi,Nat.reduceSub,Nat.reduceAdd,Option.some.injEq,exists_eq_left',ne_eq,reduceCtorEq,not_false_eq_true,true_and,and_true,if_true,if_false,Bool.true_eq_false,Bool.false_eq_true,Option.isSome_some,Nat.reduceBEq,List.lookup_nil,lookup_hit,lookup_miss,bne_self_eq_false,Bool.not_true,Bool.not_false,decide_true,decide_false,ite_true,ite_false,reduceIte,Nat.reduceEqDiff,Nat.reduceLT,Nat.reduceLeDiff,qe,qf,decide_eq_true_eq,Bool.not_eq_true',decide_eq_false_iff_not,Int.toNat_natCast,List.length_map,Bool.and_eq_true,Bool.or_eq_true,Bool.not_eq_eq_eq_not,Bool.not_eq_true,Bool.not_eq_false] | ((with_reducible apply tail);case e=>rfl))
  simpa [path, recs] using hQ _ _ _ _ _ _
 | node l c g ihl ihg =>
  intro m steps bound acc z lc hc lo ct hR hB hW hst hm hac hLo hHi hkn hQ
  obtain ⟨m, rfl⟩ : ∃ m', m = m' + 1 := ⟨m - 1, by lia⟩
  obtain ⟨rfl, za, zb, hA, hB', hRl, hRg⟩ := hR
  obtain ⟨w1, w2, w3, w4⟩ := hW
  have hcb := hB c (.inl rfl)
  have M := M0.mono (σ' := upd σ a (.list acc)) fun o h => (Ext.upd ha) _ _ h
  unfold whileP
  generalize hK : whileP _ _ R m = K
  repeat (first | simp only [we_v,we_cmp,we_and,we_attr,we_meth,wz_nil,wz_cons,gI,gR,tB,cI,pLt,aR,mR,insL,qa,qb,true_and,if_false,Bool.false_eq_true,decide_eq_true_eq,f_TreeFinder_every_c1,M.obj,M.nom 21 (by decide)] | ((with_reducible apply tail);case e=>rfl))
  refine ⟨159, rfl, ?_⟩
  refine near_c F M ?_
  by_cases hw : p - c ≤ w
  ·refine pos (by simp; lia) ?_
   repeat (first | simp only [gI,cI,pLt,insL,decide_eq_true_eq,M.obj,M.f6] | ((with_reducible apply tail);case e=>rfl))
   refine pos (by lia) ?_
   by_cases hlo : lo < lim
   ·refine pos (by exact Int.ofNat_lt.mpr ‹_›) ?_
    rw [path,if_pos hw] at hQ
    have fin : ∀ (acc' : List V) (lo' : Nat), acc'.length ≤ steps + 1 → (∀ cs, acc ++ (recs t p lim lo (c :: cs)).map pairN = acc' ++ (recs t p lim lo' cs).map pairN) → (lim ≤ fv t p lim c → lim ≤ lo') →
      wpSs X (k + 1) tev_tail [.ref f, .int p, mo, nu, .ref a, .int lim, .int lo', .int (steps + 1 : Nat), .int lc, .int hc, .int c, .int (min (L t p c) lim : Nat)] (upd σ a (.list acc')) (fun fl ρ' σ' => match fl with | .next => K ρ' σ' | .brk => R .next ρ' σ' | .ret v => R (.ret v) ρ' σ') := by
     intro acc' lo' hac' hrec hfull
     have M' := M0.mono (σ' := upd σ a (.list acc')) fun o h => (Ext.upd ha) _ _ h
     repeat (first | simp only [we_v,we_bin,we_cmp,we_idx,we_attr,we_tup,wz_nil,wz_cons,ws_asg,ws_ife,wl_nil,wl_cons,gI,gR,tB,cI,pLt,bI,oA,aR,agT,setAll,qa,qb,qc,qd,Nat.reduceAdd,true_and,Nat.reduceEqDiff,Nat.reduceLeDiff,qe,qf,decide_eq_true_eq,tev_tail] | ((with_reducible apply tail);case e=>rfl))
     have hL := (L_le (t := t) (p := p) (q := c)).1
     by_cases h1 : lim ≤ L t p c
     ·refine neg (by lia) ?_
      rw [if_pos h1,hrec] at hQ
      subst hK
      obtain ⟨m, rfl⟩ : ∃ m', m = m' + 1 := ⟨m - 1, by lia⟩
      have hf := hfull (by unfold fv; lia)
      unfold whileP
      generalize hK : whileP _ _ R m = K
      repeat (first | simp only [we_v,we_cmp,we_and,we_attr,we_meth,wz_nil,wz_cons,gI,gR,tB,cI,pLt,aR,mR,insL,qa,qb,true_and,if_false,Bool.false_eq_true,decide_eq_true_eq,f_TreeFinder_every_c1,M'.obj,M'.nom 21 (by decide)] | ((with_reducible apply tail);case e=>rfl))
      refine ⟨159, rfl, ?_⟩
      refine near_c F M' ?_
      refine pos (by simp; lia) ?_
      repeat (first | simp only [gI,cI,pLt,insL,decide_eq_true_eq,M'.obj,M'.f6] | ((with_reducible apply tail);case e=>rfl))
      refine pos (by lia) (neg (by exact mt Int.ofNat_lt.mp (Nat.not_lt.mpr ‹_›)) ?_)
      repeat (first | simp only [we_v,we_int,we_bool,we_str,we_none,we_neg,we_nowhere,we_bin,we_cmp,we_cmp2,we_isnone,we_and,we_or,we_not,we_ite,we_idx,we_last,we_slice,we_rev,we_attr,we_layers,we_treesize,we_tup,we_lst,we_nlst,we_ndict,we_frz,we_callf,we_meth,we_cmeth,we_len,we_min2,we_max2,we_max1,we_bytes,we_tuple,we_sorted,we_listr,we_lappend,we_dget,we_lindex,we_nrep,we_ncat,we_comp,wz_nil,wz_cons,wi_e,wi_r1,wi_r2,wi_r3,ws_asg,ws_setattr,ws_setidx,ws_aug,ws_ife,ws_forr,ws_wh,ws_ret,ws_retn,ws_brk,ws_pass,ws_raise,ws_expr,wl_nil,wl_cons,wl_fz,gN,gB,gI,gS,gY,gT,gL,gR,tB,cI,cS,cEL,cER,cNL,cNT,thL,thT,thR,pLt,pLe,pGt,pGe,pEq,pNe,bI,bL,oA,oS,oM,oD,oR,oP,aR,kR,mR,lsL,nY,nT,nL,nR,iY,iT,iL,iR,laL,laR,b00,b10,b01,b11,sY,sL,sR,rY,rR,dR,iD,apR,fzR,saR,siR,fT,fL,fY,lL,lR,rg1,rg2,rg3,insL,diL,inL,reL,tuL,liL,byB,byL,byR,isn,isi,agV,agT,agL,setAll,putF,retQ,initR,mkList,qa,qb,qc,qd,List.set_nil,qh,qg,qj,qi,Nat.reduceSub,Nat.reduceAdd,Option.some.injEq,exists_eq_left',ne_eq,reduceCtorEq,not_false_eq_true,true_and,and_true,if_true,if_false,Bool.true_eq_false,Bool.false_eq_true,Option.isSome_some,Nat.reduceBEq,List.lookup_nil,lookup_hit,lookup_miss,bne_self_eq_false,Bool.not_true,Bool.not_false,decide_true,decide_false,ite_true,ite_false,reduceIte,Nat.reduceEqDiff,Nat.reduceLT,Nat.reduceLeDiff,qe,qf,decide_eq_true_eq,Bool.not_eq_true',decide_eq_false_iff_not,Int.toNat_natCast,List.length_map,Bool.and_eq_true,Bool.or_eq_true,Bool.not_eq_eq_eq_not,Bool.not_eq_true,Bool.not_eq_false] | ((with_reducible apply tail);case e=>rfl))
      simpa [recs] using hQ _ _ _ _ _ _
     ·rw [if_neg h1] at hQ
      refine pos (by lia) ?_
      repeat (first | simp only [gY,iY,insL,M'.obj,M'.f0] | ((with_reducible apply tail);case e=>rfl))
      have e0 : min (L t p c) lim = L t p c := by lia
      rw [e0]
      have e1 : ((c : Int) + (L t p c : Int)).toNat = c + L t p c := by rfl
      have e2 : ((p : Int) + (L t p c : Int)).toNat = p + L t p c := by rfl
      refine ⟨by exact Int.natCast_nonneg _, _, by rw [e1]; exact get_b (by lia), by exact Int.natCast_nonneg _, _, by rw [e2]; exact get_b (by lia), ?_⟩
      repeat (first | simp only [cI,pLt,decide_eq_true_eq] | ((with_reducible apply tail);case e=>rfl))
      by_cases h2 : dg t (c + L t p c) < dg t (p + L t p c)
      ·refine pos ((dg_lt (by lia) (by lia)).mpr h2) ?_
       repeat (first | simp only [gR,lsL,iR,Int.toNat_natCast,h11,upd_ne nga,hg] | ((with_reducible apply tail);case e=>rfl))
       refine ⟨by exact Int.natCast_nonneg _, _, hB', ?_⟩
       repeat (first | simp only [we_v,we_int,we_bool,we_str,we_none,we_neg,we_nowhere,we_bin,we_cmp,we_cmp2,we_isnone,we_and,we_or,we_not,we_ite,we_idx,we_last,we_slice,we_rev,we_attr,we_layers,we_treesize,we_tup,we_lst,we_nlst,we_ndict,we_frz,we_callf,we_meth,we_cmeth,we_len,we_min2,we_max2,we_max1,we_bytes,we_tuple,we_sorted,we_listr,we_lappend,we_dget,we_lindex,we_nrep,we_ncat,we_comp,wz_nil,wz_cons,wi_e,wi_r1,wi_r2,wi_r3,ws_asg,ws_setattr,ws_setidx,ws_aug,ws_ife,ws_forr,ws_wh,ws_ret,ws_retn,ws_brk,ws_pass,ws_raise,ws_expr,wl_nil,wl_cons,wl_fz,gN,gB,gI,gS,gY,gT,gL,gR,tB,cI,cS,cEL,cER,cNL,cNT,thL,thT,thR,pLt,pLe,pGt,pGe,pEq,pNe,bI,bL,oA,oS,oM,oD,oR,oP,aR,kR,mR,lsL,nY,nT,nL,nR,iY,iT,iL,iR,laL,laR,b00,b10,b01,b11,sY,sL,sR,rY,rR,dR,iD,apR,fzR,saR,siR,fT,fL,fY,lL,lR,rg1,rg2,rg3,insL,diL,inL,reL,tuL,liL,byB,byL,byR,isn,isi,agV,agT,agL,setAll,putF,retQ,initR,mkList,qa,qb,qc,qd,List.set_nil,qh,qg,qj,qi,Nat.reduceSub,Nat.reduceAdd,Option.some.injEq,exists_eq_left',ne_eq,reduceCtorEq,not_false_eq_true,true_and,and_true,if_true,if_false,Bool.true_eq_false,Bool.false_eq_true,Option.isSome_some,Nat.reduceBEq,List.lookup_nil,lookup_hit,lookup_miss,bne_self_eq_false,Bool.not_true,Bool.not_false,decide_true,decide_false,ite_true,ite_false,reduceIte,Nat.reduceEqDiff,Nat.reduceLT,Nat.reduceLeDiff,qe,qf,decide_eq_true_eq,Bool.not_eq_true',decide_eq_false_iff_not,Int.toNat_natCast,List.length_map,Bool.and_eq_true,Bool.or_eq_true,Bool.not_eq_eq_eq_not,Bool.not_eq_true,Bool.not_eq_false] | ((with_reducible apply tail);case e=>rfl))
       subst hK
       rw [if_pos h2,hrec] at hQ
       refine ihg m (steps + 1) c acc' zb (L t p c) hc lo' _ hRg (fun x hx => (w2 x hx).1) w4 (by lia) (by lia) hac' (.inr ⟨c, by exact Nat.le_refl _, by lia, fun x hx => (w2 x hx).2⟩) ?_ (by lia) hQ
       rcases hHi with h | ⟨y, y1, y2, y3⟩
       ·exact .inl h
       ·exact .inr ⟨y, y1, y2, fun x hx => y3 x (.inr (.inr hx))⟩
      ·refine neg (fun e => h2 ((dg_lt (by lia) (by lia)).mp e)) ?_
       repeat (first | simp only [gR,lsL,iR,Int.toNat_natCast,h10,upd_ne nsa,hs] | ((with_reducible apply tail);case e=>rfl))
       refine ⟨by exact Int.natCast_nonneg _, _, hA, ?_⟩
       repeat (first | simp only [we_v,we_int,we_bool,we_str,we_none,we_neg,we_nowhere,we_bin,we_cmp,we_cmp2,we_isnone,we_and,we_or,we_not,we_ite,we_idx,we_last,we_slice,we_rev,we_attr,we_layers,we_treesize,we_tup,we_lst,we_nlst,we_ndict,we_frz,we_callf,we_meth,we_cmeth,we_len,we_min2,we_max2,we_max1,we_bytes,we_tuple,we_sorted,we_listr,we_lappend,we_dget,we_lindex,we_nrep,we_ncat,we_comp,wz_nil,wz_cons,wi_e,wi_r1,wi_r2,wi_r3,ws_asg,ws_setattr,ws_setidx,ws_aug,ws_ife,ws_forr,ws_wh,ws_ret,ws_retn,ws_brk,ws_pass,ws_raise,ws_expr,wl_nil,wl_cons,wl_fz,gN,gB,gI,gS,gY,gT,gL,gR,tB,cI,cS,cEL,cER,cNL,cNT,thL,thT,thR,pLt,pLe,pGt,pGe,pEq,pNe,bI,bL,oA,oS,oM,oD,oR,oP,aR,kR,mR,lsL,nY,nT,nL,nR,iY,iT,iL,iR,laL,laR,b00,b10,b01,b11,sY,sL,sR,rY,rR,dR,iD,apR,fzR,saR,siR,fT,fL,fY,lL,lR,rg1,rg2,rg3,insL,diL,inL,reL,tuL,liL,byB,byL,byR,isn,isi,agV,agT,agL,setAll,putF,retQ,initR,mkList,qa,qb,qc,qd,List.set_nil,qh,qg,qj,qi,Nat.reduceSub,Nat.reduceAdd,Option.some.injEq,exists_eq_left',ne_eq,reduceCtorEq,not_false_eq_true,true_and,and_true,if_true,if_false,Bool.true_eq_false,Bool.false_eq_true,Option.isSome_some,Nat.reduceBEq,List.lookup_nil,lookup_hit,lookup_miss,bne_self_eq_false,Bool.not_true,Bool.not_false,decide_true,decide_false,ite_true,ite_false,reduceIte,Nat.reduceEqDiff,Nat.reduceLT,Nat.reduceLeDiff,qe,qf,decide_eq_true_eq,Bool.not_eq_true',decide_eq_false_iff_not,Int.toNat_natCast,List.length_map,Bool.and_eq_true,Bool.or_eq_true,Bool.not_eq_eq_eq_not,Bool.not_eq_true,Bool.not_eq_false] | ((with_reducible apply tail);case e=>rfl))
       subst hK
       rw [if_neg h2,hrec] at hQ
       refine ihl m (steps + 1) c acc' za lc (L t p c) lo' _ hRl (fun x hx => (w1 x hx).1) w3 (by lia) (by lia) hac' ?_ (.inr ⟨c, by exact Nat.le_refl _, by lia, fun x hx => (w1 x hx).2.1⟩) (by lia) hQ
       rcases hLo with h | ⟨y, y1, y2, y3⟩
       ·exact .inl h
       ·exact .inr ⟨y, y1, y2, fun x hx => y3 x (.inr (.inl hx))⟩
    repeat (first | simp only [we_v,we_int,we_bin,we_cmp,we_tup,we_meth,we_min2,we_lappend,wz_nil,wz_cons,ws_asg,ws_aug,ws_ife,ws_expr,wl_nil,wl_cons,gI,gR,tB,bI,oS,mR,apR,lR,insL,inL,agV,qa,qb,qc,qd,true_and,Nat.reduceLeDiff,qe,qf,tev_b2,M.obj,M.nom 20 (by decide)] | ((with_reducible apply tail);case e=>rfl))
    refine ⟨152, rfl, ?_⟩
    have hmin : min (lc : Int) (hc : Int) = ((min lc hc : Nat) : Int) := by lia
    rw [hmin]
    have hk2 := known_ok hp hLo hHi (.inl rfl) (show c < p by lia)
    refine alike_c F M (by lia) hl (by exact Nat.le_of_lt ‹_›) (by lia) ?_
    have e5 : (steps : Int) + 1 = ((steps + 1 : Nat) : Int) := by rfl
    rw [e5]
    repeat (first | simp only [gI,cI,pGt,lsL,true_and,Option.isSome_some,decide_eq_true_eq,upd_self] | ((with_reducible apply tail);case e=>rfl))
    by_cases h3 : lo < min (L t p c) lim
    ·refine pos (by exact Int.ofNat_lt.mpr ‹_›) ?_
     refine ⟨by lia, ?_⟩
     rw [upd_upd]
     have e6 : (p : Int) - (c : Int) = ((p - c : Nat) : Int) := by lia
     rw [e6]
     exact fin _ _ (by simp; lia) (fun cs => by rw [recs,if_pos (by unfold fv; exact h3)]; simp [pairN,fv]) (fun h => by unfold fv at h; lia)
    ·refine neg (by exact mt Int.ofNat_lt.mp ‹_›) ?_
     exact fin _ _ (by exact Nat.le_succ_of_le ‹_›) (fun cs => by rw [recs,if_neg (by unfold fv; exact h3)]) (fun h => by unfold fv at h; lia)
   ·refine neg (by exact mt Int.ofNat_lt.mp ‹_›) ?_
    repeat (first | simp only [we_v,we_int,we_bool,we_str,we_none,we_neg,we_nowhere,we_bin,we_cmp,we_cmp2,we_isnone,we_and,we_or,we_not,we_ite,we_idx,we_last,we_slice,we_rev,we_attr,we_layers,we_treesize,we_tup,we_lst,we_nlst,we_ndict,we_frz,we_callf,we_meth,we_cmeth,we_len,we_min2,we_max2,we_max1,we_bytes,we_tuple,we_sorted,we_listr,we_lappend,we_dget,we_lindex,we_nrep,we_ncat,we_comp,wz_nil,wz_cons,wi_e,wi_r1,wi_r2,wi_r3,ws_asg,ws_setattr,ws_setidx,ws_aug,ws_ife,ws_forr,ws_wh,ws_ret,ws_retn,ws_brk,ws_pass,ws_raise,ws_expr,wl_nil,wl_cons,wl_fz,gN,gB,gI,gS,gY,gT,gL,gR,tB,cI,cS,cEL,cER,cNL,cNT,thL,thT,thR,pLt,pLe,pGt,pGe,pEq,pNe,bI,bL,oA,oS,oM,oD,oR,oP,aR,kR,mR,lsL,nY,nT,nL,nR,iY,iT,iL,iR,laL,laR,b00,b10,b01,b11,sY,sL,sR,rY,rR,dR,iD,apR,fzR,saR,siR,fT,fL,fY,lL,lR,rg1,rg2,rg3,insL,diL,inL,reL,tuL,liL,byB,byL,byR,isn,isi,agV,agT,agL,setAll,putF,retQ,initR,mkList,qa,qb,qc,qd,List.set_nil,qh,qg,qj,qi,Nat.reduceSub,Nat.reduceAdd,Option.some.injEq,exists_eq_left',ne_eq,reduceCtorEq,not_false_eq_true,true_and,and_true,if_true,if_false,Bool.true_eq_false,Bool.false_eq_true,Option.isSome_some,Nat.reduceBEq,List.lookup_nil,lookup_hit,lookup_miss,bne_self_eq_false,Bool.not_true,Bool.not_false,decide_true,decide_false,ite_true,ite_false,reduceIte,Nat.reduceEqDiff,Nat.reduceLT,Nat.reduceLeDiff,qe,qf,decide_eq_true_eq,Bool.not_eq_true',decide_eq_false_iff_not,Int.toNat_natCast,List.length_map,Bool.and_eq_true,Bool.or_eq_true,Bool.not_eq_eq_eq_not,Bool.not_eq_true,Bool.not_eq_false] | ((with_reducible apply tail);case e=>rfl))
    have e : recs t p lim lo (path t p w lim (.node l c g)) = [] := recs_nil fun x _ => by unfold fv; lia
    rw [e] at hQ
    simpa using hQ _ _ _ _ _ _
  ·refine neg (by simp; lia) ?_
   repeat (first | simp only [we_v,we_int,we_bool,we_str,we_none,we_neg,we_nowhere,we_bin,we_cmp,we_cmp2,we_isnone,we_and,we_or,we_not,we_ite,we_idx,we_last,we_slice,we_rev,we_attr,we_layers,we_treesize,we_tup,we_lst,we_nlst,we_ndict,we_frz,we_callf,we_meth,we_cmeth,we_len,we_min2,we_max2,we_max1,we_bytes,we_tuple,we_sorted,we_listr,we_lappend,we_dget,we_lindex,we_nrep,we_ncat,we_comp,wz_nil,wz_cons,wi_e,wi_r1,wi_r2,wi_r3,ws_asg,ws_setattr,ws_setidx,ws_aug,ws_ife,ws_forr,ws_wh,ws_ret,ws_retn,ws_brk,ws_pass,ws_raise,ws_expr,wl_nil,wl_cons,wl_fz,gN,gB,gI,gS,gY,gT,gL,gR,tB,cI,cS,cEL,cER,cNL,cNT,thL,thT,thR,pLt,pLe,pGt,pGe,pEq,pNe,bI,bL,oA,oS,oM,oD,oR,oP,aR,kR,mR,lsL,nY,nT,nL,nR,iY,iT,iL,iR,laL,laR,b00,b10,b01,b11,sY,sL,sR,rY,rR,dR,iD,apR,fzR,saR,siR,fT,fL,fY,lL,lR,rg1,rg2,rg3,insL,diL,inL,reL,tuL,liL,byB,byL,byR,isn,isi,agV,agT,agL,setAll,putF,retQ,initR,mkList,qa,qb,qc,qd,List.set_nil,qh,qg,qj,qi,Nat.reduceSub,Nat.reduceAdd,Option.some.injEq,exists_eq_left',ne_eq,reduceCtorEq,not_false_eq_true,true_and,and_true,if_true,if_false,Bool.true_eq_false,Bool.false_eq_true,Option.isSome_some,Nat.reduceBEq,List.lookup_nil,lookup_hit,lookup_miss,bne_self_eq_false,Bool.not_true,Bool.not_false,decide_true,decide_false,ite_true,ite_false,reduceIte,Nat.reduceEqDiff,Nat.reduceLT,Nat.reduceLeDiff,qe,qf,decide_eq_true_eq,Bool.not_eq_true',decide_eq_false_iff_not,Int.toNat_natCast,List.length_map,Bool.and_eq_true,Bool.or_eq_true,Bool.not_eq_eq_eq_not,Bool.not_eq_true,Bool.not_eq_false] | ((with_reducible apply tail);case e=>rfl))
   rw [path,if_neg hw] at hQ
   simpa [recs] using hQ _ _ _ _ _ _
theorem tre_every (F : Fns X) {r ro : Addr} {i m : Nat} (hb : ∀ o ∈ t, o < 256) (hls : 0 < least) (hch : t.length < ch) (hn : t.length ≤ 900) (I : TreI t least w ch f r ro sa ga i σ) (hi : i < t.length) :
  WC X (k + 3) (.ref 271) [.ref f, .int i, .int m] σ (fun v σ' => v = .list ((recs t i (min m (t.length - i)) (least - 1) (cands i w)).map pairN) ∧ Ext σ σ') := by
 obtain ⟨hf, ⟨la, be, hr⟩, ne, ⟨nd, mm, ar, z, S, d1, d2, d3, d4, d5, d6, d7⟩⟩ := I
 have M := treF_mt hf
 refine wc_of F F.TreeFinder_every rfl ?_
 have hf' := hf
 have hr' := hr
 unfold treF at hf'
 unfold rowF at hr'
 repeat (first | simp only [we_v,we_cmp,we_attr,ws_ife,ws_raise,wl_nil,wl_cons,gI,gR,tB,cI,pLt,aR,insL,retQ,initR,qa,qb,qh,qg,qj,qi,Nat.reduceSub,Nat.reduceBEq,lookup_hit,lookup_miss,decide_eq_true_eq,f_TreeFinder_every,f_TreeFinder_every_b,hf'] | ((with_reducible apply tail);case e=>rfl))
 refine neg (by lia) ?_
 repeat (first | simp only [we_v,we_attr,we_meth,wz_nil,wz_cons,ws_asg,wl_cons,gI,gR,aR,mR,insL,agV,retQ,qa,qb,qc,qd,true_and,Nat.reduceBEq,List.lookup_nil,lookup_hit,lookup_miss,hf',hr'] | ((with_reducible apply tail);case e=>rfl))
 refine ⟨75, rfl, ?_⟩
 refine key_c F hr (by exact Nat.le_of_lt ‹_›) ?_
 unfold keyV
 cases hk : keyN t i least with
 | none =>
  repeat (first | simp only [we_v,we_isnone,we_lst,wz_nil,ws_ife,ws_ret,wl_nil,wl_cons,gN,tB,isn,retQ,mkList,qa,qb,ne_eq,reduceCtorEq,not_false_eq_true,true_and,if_false,Bool.false_eq_true,Nat.reduceLeDiff,qf] | ((with_reducible apply tail);case e=>rfl))
  rw [none_recs hls hk]
  exact ⟨rfl, .refl⟩
 | some n =>
  obtain ⟨a1, a2, a3, a4⟩ := d7 n
  repeat (first | simp only [we_v,we_isnone,we_tup,we_lst,we_nlst,we_meth,wz_nil,wz_cons,ws_asg,ws_ife,ws_ret,wl_nil,wl_cons,gI,gR,tB,mR,isi,agT,setAll,retQ,mkList,qa,qb,qc,qd,Nat.reduceAdd,ne_eq,reduceCtorEq,not_false_eq_true,true_and,if_true,if_false,Bool.false_eq_true,bne_self_eq_false,Nat.reduceEqDiff,Nat.reduceLeDiff,qe,qf] | ((with_reducible apply tail);case e=>rfl))
  refine fun a ha => ?_
  have E : Ext σ (upd σ a (.list [])) := .upd ha
  have M' := M.mono (σ' := upd σ a (.list [])) fun o h => E _ _ h
  repeat (first | simp only [insL,true_and,M'.obj,M'.nom 18 (by decide)] | ((with_reducible apply tail);case e=>rfl))
  refine ⟨138, rfl, ?_⟩
  refine limit_c F M' (by exact Nat.le_of_lt ‹_›) ?_
  have g9 : (treF t least w ch i r ro sa ga).lookup 9 = some (.ref ro) := rfl
  repeat (first | simp only [we_v,we_int,we_nowhere,we_bin,we_attr,we_tup,we_dget,wz_nil,wz_cons,ws_asg,ws_wh,wl_cons,gI,gR,bI,oS,aR,dR,iD,insL,diL,agV,agT,setAll,retQ,qa,qb,qc,qd,Nat.reduceAdd,true_and,Nat.reduceEqDiff,Nat.reduceLeDiff,qe,qf,M'.obj,M'.f4,g9,E _ _ d1,d6 n] | ((with_reducible apply tail);case e=>rfl))
  have e3 : ((least : Int) - 1) = ((least - 1 : Nat) : Int) := by exact (Int.natCast_sub ‹_›).symm
  rw [e3]
  refine ⟨i + 1, tev_loop F M rfl rfl d3 d4 ha (by exact Nat.min_le_right _ _) hi hch hn (S n) (i + 1) 0 i [] (z n) 0 0 (least - 1) _ a1 (fun x hx => (a3 x hx).1) a2 (by lia) (by exact Nat.lt_succ_self _) (by simp) (.inl rfl) (.inl rfl) (by exact Nat.zero_le _) fun lo st lc hc z ct => ?_⟩
  repeat (first | simp only [we_v,we_frz,ws_ret,wl_nil,wl_cons,gR,lsL,fzR,retQ,qa,qb,qg,reduceCtorEq,upd_self] | ((with_reducible apply tail);case e=>rfl))
  rw [tree_recs hb hls hk hi (by exact Nat.min_le_right _ _) a2 a3 a4,del_upd ha]
  exact ⟨rfl, .refl⟩
theorem tre_ok (F : Fns X) {r ro : Addr} (hb : ∀ o ∈ t, o < 256) (hls : 0 < least) (hch : t.length < ch) (hn : t.length ≤ 900) : Fi X (k + 4) t least w f (treFt f r ro sa ga) (TreI t least w ch f r ro sa ga) where
 self := .inl rfl
 mt := fun i σ I => ⟨274, _, ch, .inr (.inl rfl), treF_mt I.obj⟩
 keep := fun i σ σ' I h => I.keep h
 live := fun i σ I a ha e => by
  obtain ⟨h1, ⟨la, be, h2⟩, _, ⟨nd, m, ar, z, S, d1, d2, d3, d4, d5⟩⟩ := I
  rcases ha with rfl | rfl | rfl | rfl | rfl
  ·rw [h1] at e; cases e
  ·rw [h2] at e; cases e
  ·rw [d1] at e; cases e
  ·rw [d3] at e; cases e
  ·rw [d4] at e; cases e
 every := fun i σ m I hi => ⟨274, _, 271, I.obj, rfl, rfl, (tre_every (k := k) F hb hls hch hn I hi).le (by exact Nat.le_succ _)⟩
 put := fun i σ I hi => tre_put F hch hn I hi
end
end Mine
end

section
open PySem PySem.Calls PyProof.Rows PySem.W
set_option backward.defeqAttrib.useBackward true
set_option maxRecDepth 20000
namespace Mine
section
variable {t : List Nat} {p w lim : Nat}
theorem newest_spec {s : Nat} (hb : ∀ o ∈ t, o < 256) (hs : 0 < s) (hp : p < t.length) : (newestI t s p = -1 ∧ ∀ c, c < p → L t p c < s) ∨ ∃ o : Nat, newestI t s p = o ∧ o < p ∧ s ≤ L t p o ∧ ∀ c, c < p → o < c → L t p c < s := by
 unfold newestI
 cases hk : keyN t p s with
 | none =>
  refine .inl ⟨rfl, fun c hc => ?_⟩
  have := (L_le (t := t) (p := p) (q := c)).1
  rcases Nat.lt_or_ge t.length (p + s) with h | h
  ·lia
  ·obtain ⟨m, e⟩ := keyN_some h; rw [hk] at e; cases e
 | some n =>
  have hps : p + s ≤ t.length := by
   rcases Nat.lt_or_ge t.length (p + s) with h | h
   ·rw [keyN_none h] at hk; cases hk
   ·exact h
  dsimp only
  have key : ∀ c, c < p → s ≤ L t p c → c ∈ chainL t s n p := fun c hc h => chainL_mem.mpr ⟨hc, ((keyN_iff hb hc hps hs).mpr h).trans hk⟩
  cases hc : chainL t s n p with
  | nil =>
   refine .inl ⟨rfl, fun c hcp => ?_⟩
   rcases Nat.lt_or_ge (L t p c) s with h | h
   ·exact h
   ·have := key c hcp h; rw [hc] at this; cases this
  | cons o r =>
   have ho : o ∈ chainL t s n p := by rw [hc]; exact List.mem_cons_self
   rw [chainL_mem] at ho
   refine .inr ⟨o, rfl, ho.1, (keyN_iff hb ho.1 hps hs).mp (ho.2.trans hk.symm), fun c hcp hoc => ?_⟩
   rcases Nat.lt_or_ge (L t p c) s with h | h
   ·exact h
   ·have h1 := key c hcp h
    have h2 := chainL_desc (t := t) (s := s) (n := n) (i := p)
    rw [hc] at h1 h2
    rw [List.pairwise_cons] at h2
    rcases List.mem_cons.mp h1 with rfl | h1
    ·lia
    ·have := h2.1 c h1; lia
noncomputable def LayJ (t : List Nat) (p w lim s m : Nat) : Prop := s ≤ m ∨ ∀ c ∈ cands p w, fv t p lim c ≤ m
theorem lay_step {s m : Nat} (hb : ∀ o ∈ t, o < 256) (hs : 0 < s) (hp : p < t.length) (J : LayJ t p w lim (s - 1) m) :
  (∀ o : Nat, newestI t s p = o → o < p → p - o ≤ w → m < fv t p lim o → recs t p lim m (cands p w) = (fv t p lim o, p - o) :: recs t p lim (fv t p lim o) (cands p w) ∧ LayJ t p w lim s (fv t p lim o)) ∧
  ((∀ o : Nat, newestI t s p = o → o < p → p - o ≤ w → fv t p lim o ≤ m) → LayJ t p w lim s m) := by
 constructor
 ·intro o ho hop hw hm
  rcases newest_spec hb hs hp with ⟨h, _⟩ | ⟨o', h1, h2, h3, h4⟩
  ·lia
  ·have e : o' = o := by lia
   subst e
   constructor
   ·refine recs_first cands_desc (cands_mem.mpr ⟨hop, hw⟩) hm fun c hc hoc => ?_
    rcases J with J | J
    ·have := h4 c (cands_mem.mp hc).1 hoc
     unfold fv; lia
    ·exact J c hc
   ·rcases Nat.lt_or_ge lim s with h | h
    ·refine .inr fun c _ => ?_
     unfold fv; lia
    ·refine .inl ?_
     unfold fv; lia
 ·intro hno
  rcases newest_spec hb hs hp with ⟨h, h1⟩ | ⟨o, h1, h2, h3, h4⟩
  ·rcases J with J | J
   ·rcases Nat.lt_or_ge m s with q | q
    ·refine .inr fun c hc => ?_
     have := h1 c (cands_mem.mp hc).1
     unfold fv; lia
    ·exact .inl q
   ·exact .inr J
  ·by_cases hw : p - o ≤ w
   ·have h5 := hno o h1 h2 hw
    unfold fv at h5
    rcases Nat.lt_or_ge lim s with h | h
    ·refine .inr fun c _ => ?_
     unfold fv; lia
    ·exact .inl (by lia)
   ·rcases J with J | J
    ·rcases Nat.lt_or_ge m s with q | q
     ·refine .inr fun c hc => ?_
      rw [cands_mem] at hc
      have := h4 c hc.1 (by lia)
      unfold fv; lia
     ·exact .inl q
    ·exact .inr J
noncomputable def upl : Nat → List (Nat × Nat) → List (Nat × Nat)
 | _, [] => []
 | m, x :: r => if m < x.1 then x :: upl x.1 r else upl m r
theorem upl_recs : ∀ {l : List Nat} {v m : Nat}, v ≤ m → upl m (recs t p lim v l) = recs t p lim m l
 | [], v, m, h => by simp [recs,upl]
 | c :: l, v, m, h => by
  rw [recs,recs]
  by_cases h1 : v < fv t p lim c
  ·rw [if_pos h1,upl]
   by_cases h2 : m < fv t p lim c
   ·rw [if_pos h2,if_pos h2,upl_recs (Nat.le_refl _)]
   ·rw [if_neg h2,if_neg h2,upl_recs (by exact Nat.le_of_not_lt ‹_›)]
  ·rw [if_neg h1,if_neg (by lia),upl_recs h]
theorem lay_end {m : Nat} (J : LayJ t p w lim 3 m) : upl m (recs t p lim 3 (cands p w)) = recs t p lim m (cands p w) := by
 rcases J with J | J
 ·exact upl_recs J
 ·by_cases h : 3 ≤ m
  ·exact upl_recs h
  ·rw [recs_nil (m := 3) fun c hc => by have := J c hc; lia,recs_nil (m := m) J]; rfl
end
section
variable {X : Cx} {k : Nat}
variable {σ : AHeap} {f C : Addr} {fs : List (Nat × V)} {t : List Nat} {least w ch ah p : Nat} {Q : V → AHeap → Prop}
theorem Fi.le {k' : Nat} {foot : Addr → Prop} {Inv : Nat → AHeap → Prop} (h : k ≤ k') (x : Fi X k t least w f foot Inv) : Fi X k' t least w f foot Inv where
 self := x.self
 mt := x.mt
 keep := x.keep
 live := x.live
 every := fun i σ m I hi => (x.every i σ m I hi).elim fun C q => q.elim fun fs q => q.elim fun fn q => ⟨C, fs, fn, q.1, q.2.1, q.2.2.1, q.2.2.2.le h⟩
 put := fun i σ I hi => (x.put i σ I hi).le h
noncomputable def layF (t : List Nat) (w ch ah : Nat) (r2 r3 tf : Addr) : List (Nat × V) := [(0, .bytes t), (4, .int (2 : Nat)), (5, .int w), (6, .int ch), (7, .int ah), (12, .list [.ref r2, .ref r3]), (13, .ref tf)]
theorem layF_mt {r2 r3 tf : Addr} (h : σ f = some (.inst C (layF t w ch ah r2 r3 tf))) : Mt σ f C (layF t w ch ah r2 r3 tf) t 2 w ch ah :=
 ⟨h, rfl, rfl, rfl, rfl, rfl, fun m hm => by
  unfold layF
  rw [lookup_miss (by simp; lia),lookup_miss (by simp; lia),lookup_miss (by simp; lia),lookup_miss (by simp; lia),lookup_miss (by simp; lia),lookup_miss (by simp; lia),lookup_miss (by simp; lia)]; rfl⟩
noncomputable def Disj (A B : Addr → Prop) : Prop := ∀ a, A a → ¬ B a
structure LayI (t : List Nat) (w ch : Nat) (f r2 la2 be2 r3 la3 be3 tf : Addr) (tfoot : Addr → Prop) (TI : Nat → AHeap → Prop) (i : Nat) (σ : AHeap) : Prop where
 obj : σ f = some (.inst 307 (layF t w ch i r2 r3 tf))
 row2 : Row σ r2 t 2 la2 be2 i
 row3 : Row σ r3 t 3 la3 be3 i
 tree : TI i σ
 d23 : Disj (rowFt r2 la2 be2) (rowFt r3 la3 be3)
 d2t : Disj (rowFt r2 la2 be2) tfoot
 d3t : Disj (rowFt r3 la3 be3) tfoot
 df : ¬ rowFt r2 la2 be2 f ∧ ¬ rowFt r3 la3 be3 f ∧ ¬ tfoot f
noncomputable def layFt (f r2 la2 be2 r3 la3 be3 : Addr) (tfoot : Addr → Prop) : Addr → Prop := fun a => a = f ∨ rowFt r2 la2 be2 a ∨ rowFt r3 la3 be3 a ∨ tfoot a
theorem Fram.keep {A B : Addr → Prop} {σ σ' : AHeap} (h : Fram A σ σ') (d : ∀ a, B a → ¬ A a) : ∀ a o, B a → σ a = some o → σ' a = some o := fun a o hb e => h a o (d a hb) e
theorem lay_put (F : Fns X) {r2 la2 be2 r3 la3 be3 tf : Addr} {tfoot : Addr → Prop} {TI : Nat → AHeap → Prop} {i : Nat} (Z : Fi X (k + 4) t 4 w tf tfoot TI) (hn : t.length ≤ 900)
  (I : LayI t w ch f r2 la2 be2 r3 la3 be3 tf tfoot TI i σ) (hi : i < t.length) :
  WC X (k + 6) (.ref 117) [.ref f, .int i] σ (fun v σ' => LayI t w ch f r2 la2 be2 r3 la3 be3 tf tfoot TI (i + 1) σ' ∧ Fram (layFt f r2 la2 be2 r3 la3 be3 tfoot) σ σ') := by
 refine mput_c F (C := 307) (fe := 297) rfl (layF_mt I.obj) (by simp [layF]) hi ?_ rfl
 show WC X (k + 5) (.ref 297) [.ref f, .int i] (upd σ f (.inst 307 (layF t w ch (i + 1) r2 r3 tf))) _
 have U : ∀ a o, a ≠ f → σ a = some o → (upd σ f (.inst 307 (layF t w ch (i + 1) r2 r3 tf))) a = some o := fun a o h e => by rw [upd_ne h]; exact e
 have R2 := I.row2.keep fun a o ha e => U a o (fun q => I.df.1 (q ▸ ha)) e
 have R3 := I.row3.keep fun a o ha e => U a o (fun q => I.df.2.1 (q ▸ ha)) e
 have TT := Z.keep _ _ _ I.tree fun a o ha e => U a o (fun q => I.df.2.2 (q ▸ ha)) e
 have hσf : (upd σ f (.inst 307 (layF t w ch (i + 1) r2 r3 tf))) f = some (.inst 307 (layF t w ch (i + 1) r2 r3 tf)) := upd_self
 have UF : Fram (fun a => a = f) σ (upd σ f (.inst 307 (layF t w ch (i + 1) r2 r3 tf))) := fun a o h e => U a o h e
 generalize upd σ f (.inst 307 (layF t w ch (i + 1) r2 r3 tf)) = σ1 at *
 refine wc_of F F.LayeredFinder_enter rfl ?_
 have h1 := R2.obj
 have hf' := hσf
 unfold layF at hf'
 unfold rowF at h1
 repeat (first | simp only [we_v,we_attr,we_meth,wz_nil,wz_cons,wi_e,ws_forr,ws_expr,wl_nil,wl_cons,gI,gL,gR,aR,mR,fL,insL,liL,agV,retQ,initR,qa,qb,qc,qd,qh,qg,qj,qi,Nat.reduceSub,true_and,Nat.reduceBEq,List.lookup_nil,lookup_hit,lookup_miss,f_LayeredFinder_enter,f_LayeredFinder_enter_b,hf',forP,f_LayeredFinder_enter_b1,h1] | ((with_reducible apply tail);case e=>rfl))
 refine ⟨82, rfl, ?_⟩
 refine ((put_r (k := k + 2) F R2 hi hn).mono fun v σ2 ⟨g1, g2⟩ => ?_)
 have R3' := R3.keep (g2.keep fun a h h' => I.d23 a h' h)
 have TT' := Z.keep _ _ _ TT (g2.keep fun a h h' => I.d2t a h' h)
 have hf2 := g2 _ _ I.df.1 hσf
 have h3 := R3'.obj
 unfold rowF at h3
 repeat (first | simp only [insL,true_and,Nat.reduceBEq,List.lookup_nil,lookup_miss,h3] | ((with_reducible apply tail);case e=>rfl))
 refine ⟨82, rfl, ?_⟩
 refine ((put_r (k := k + 2) F R3' hi hn).mono fun v σ3 ⟨g3, g4⟩ => ?_)
 have R2' := g1.keep (g4.keep fun a h h' => I.d23 a h h')
 have TT'' := Z.keep _ _ _ TT' (g4.keep fun a h h' => I.d3t a h' h)
 have hf3 := g4 _ _ I.df.2.1 hf2
 obtain ⟨CT, fsT, chT, isT, MT⟩ := Z.mt _ _ TT''
 have hf3' := hf3
 unfold layF at hf3'
 repeat (first | simp only [we_v,we_attr,we_meth,wz_nil,wz_cons,ws_expr,wl_nil,wl_cons,gI,gR,aR,mR,insL,retQ,qa,qb,true_and,Nat.reduceBEq,lookup_hit,lookup_miss,hf3',MT.obj,MT.nom 15 (by decide)] | ((with_reducible apply tail);case e=>rfl))
 refine ⟨117, isT.m15, ?_⟩
 refine (Z.put _ _ TT'' hi).mono fun v σ4 ⟨g5, g6⟩ => ?_
 refine ⟨⟨g6 _ _ I.df.2.2 hf3, R2'.keep (g6.keep fun a h h' => I.d2t a h h'), g3.keep (g6.keep fun a h h' => I.d3t a h h'), g5, I.d23, I.d2t, I.d3t, I.df⟩, fun a o ha e => ?_⟩
 exact g6 a o (fun h => ha (.inr (.inr (.inr h)))) (g4 a o (fun h => ha (.inr (.inr (.inl h)))) (g2 a o (fun h => ha (.inr (.inl h))) (UF a o (fun h => ha (.inl h)) e)))
theorem lay_row (F : Fns X) {r la be : Addr} {s m lim : Nat} {a : Addr} {acc : List V} {mo z1 z2 z3 : V} {R : Fl → List V → AHeap → Prop} (hb : ∀ o ∈ t, o < 256) (hs : 0 < s) (hn : t.length ≤ 900) (hp : p < t.length) (hl : lim ≤ t.length - p) (hC : isF C) (M0 : Mt σ f C fs t least w ch p) (Rw : Row σ r t s la be p) (ha : σ a = none) (hacc : acc.length ≤ 10)
  (J : LayJ t p w lim (s - 1) m)
  (hR : ∀ acc' m' z1 z2, acc' ++ (recs t p lim m' (cands p w)).map pairN = acc ++ (recs t p lim m (cands p w)).map pairN → LayJ t p w lim s m' → acc'.length ≤ acc.length + 1 → R .next [.ref f, .int p, mo, .int lim, .ref a, .int (m' : Nat), .ref r, z1, z2, z3] (upd σ a (.list acc'))) :
  wpSs X (k + 2) f_LayeredFinder_every_b1 [.ref f, .int p, mo, .int lim, .ref a, .int m, .ref r, z1, z2, z3] (upd σ a (.list acc)) R := by
 have E : Ext σ (upd σ a (.list acc)) := .upd ha
 have M := M0.mono (σ' := upd σ a (.list acc)) fun o h => E _ _ h
 have Rw' := Rw.keep (σ' := upd σ a (.list acc)) fun b o _ h => E _ _ h
 have o1 := Rw'.obj
 unfold rowF at o1
 repeat (first | simp only [we_v,we_meth,wz_nil,wz_cons,ws_asg,wl_cons,gI,gR,mR,insL,agV,qa,qb,qc,qd,true_and,Nat.reduceBEq,List.lookup_nil,lookup_miss,f_LayeredFinder_every_b1,o1] | ((with_reducible apply tail);case e=>rfl))
 refine ⟨89, rfl, ?_⟩
 refine newest_r F Rw' (by exact Nat.le_of_lt ‹_›) ?_
 repeat (first | simp only [we_v,we_int,we_meth,wz_nil,wz_cons,ws_asg,ws_ife,wl_nil,wl_cons,gI,gR,mR,insL,agV,qa,qb,qc,qd,true_and,M.obj,M.nom 21 (by decide)] | ((with_reducible apply tail);case e=>rfl))
 refine ⟨159, hC.m21, ?_⟩
 refine near_c F M ?_
 obtain ⟨st1, st2⟩ := lay_step (w := w) (lim := lim) hb hs hp J
 rcases newest_spec hb hs hp with ⟨h1, h2⟩ | ⟨o, h1, h2, h3, h4⟩
 ·rw [h1]
  refine tneg (by simp) ?_
  exact hR _ _ _ _ rfl (st2 fun o ho => by rw [h1] at ho; lia) (by exact Nat.le_succ _)
 ·rw [h1]
  by_cases hw : p - o ≤ w
  ·refine pos (by simp; lia) ?_
   repeat (first | simp only [insL,true_and,M.obj,M.nom 20 (by decide)] | ((with_reducible apply tail);case e=>rfl))
   refine ⟨152, hC.m20, ?_⟩
   refine alike_c (kn := 0) F M h2 hl (by exact Nat.le_of_lt ‹_›) (by exact Nat.zero_le _) ?_
   repeat (first | simp only [we_v,we_bin,we_cmp,we_tup,we_lappend,wz_nil,wz_cons,ws_ife,ws_expr,wl_nil,wl_cons,gI,gR,tB,cI,pGt,bI,oS,lsL,apR,lR,qa,qb,true_and,Option.isSome_some,Nat.reduceLeDiff,qe,qf,decide_eq_true_eq,upd_self] | ((with_reducible apply tail);case e=>rfl))
   by_cases h5 : m < min (L t p o) lim
   ·refine pos (by exact Int.ofNat_lt.mpr ‹_›) ?_
    refine ⟨by lia, ?_⟩
    rw [upd_upd]
    have e6 : (p : Int) - (o : Int) = ((p - o : Nat) : Int) := by exact (Int.natCast_sub (Nat.le_of_lt ‹_›)).symm
    rw [e6]
    obtain ⟨g1, g2⟩ := st1 o h1 h2 hw (by unfold fv; exact h5)
    refine hR _ _ _ _ ?_ g2 (by simp)
    rw [g1]
    simp [pairN,fv]
   ·refine neg (by exact mt Int.ofNat_lt.mp ‹_›) ?_
    exact hR _ _ _ _ rfl (st2 fun o' ho' _ _ => by rw [h1] at ho'; (have : o = o' := by lia); subst this; unfold fv; lia) (by exact Nat.le_succ _)
  ·refine neg (by simp; lia) ?_
   exact hR _ _ _ _ rfl (st2 fun o' ho' _ hw' => by rw [h1] at ho'; (have : o = o' := by lia); subst this; lia) (by exact Nat.le_succ _)
theorem lay_loop {a : Addr} {p lim : V} {R : Fl → List V → AHeap → Prop} {s mo z1 z2 : V} : ∀ (ys : List (Nat × Nat)) (acc : List V) (m : Nat) (z3 z4 : V), acc.length + ys.length ≤ 950 →
  (∀ z3 z4 m', R .next [s, p, mo, lim, .ref a, m', z1, z2, z3, z4] (upd σ a (.list (acc ++ (upl m ys).map pairN)))) →
  forP (Tg.tup [8, 9]) (fun ρ σ Q => wpSs X k f_LayeredFinder_every_b2 ρ σ Q) R (ys.map pairN) [s, p, mo, lim, .ref a, .int m, z1, z2, z3, z4] (upd σ a (.list acc))
 | [], acc, m, z3, z4, _, h => by simpa [forP, upl] using h _ _ _
 | y :: ys, acc, m, z3, z4, hlen, h => by
  simp only [List.map_cons,forP]
  have IH := fun (acc : List V) (m : Nat) z3 z4 => lay_loop (R := R) (a := a) (p := p) (lim := lim) (s := s) (mo := mo) (z1 := z1) (z2 := z2) ys acc m z3 z4
  generalize hK : forP _ _ R (ys.map _) = K at IH
  unfold pairN
  repeat (first | simp only [we_v,we_cmp,we_tup,we_lappend,wz_nil,wz_cons,ws_ife,ws_expr,wl_nil,wl_cons,gI,gR,tB,cI,pGt,lsL,apR,lR,agT,setAll,qa,qb,qc,qd,Nat.reduceAdd,true_and,Option.isSome_some,Nat.reduceLeDiff,qe,qf,decide_eq_true_eq,f_LayeredFinder_every_b2,upd_self] | ((with_reducible apply tail);case e=>rfl))
  simp only [qe] at hlen
  rw [upl] at h
  by_cases h1 : m < y.1
  ·refine pos (by exact Int.ofNat_lt.mpr ‹_›) ?_
   refine ⟨by lia, ?_⟩
   rw [upd_upd]
   rw [if_pos h1] at h
   refine IH _ _ _ _ (by simp; lia) fun z3 z4 m' => ?_
   have := h z3 z4 m'
   simpa [pairN] using this
  ·refine neg (by exact mt Int.ofNat_lt.mp ‹_›) ?_
   rw [if_neg h1] at h
   exact IH _ _ _ _ (by exact Nat.le_of_lt ‹_›) h
theorem lay_every (F : Fns X) {r2 la2 be2 r3 la3 be3 tf : Addr} {tfoot : Addr → Prop} {TI : Nat → AHeap → Prop} {i m : Nat} (Z : Fi X (k + 4) t 4 w tf tfoot TI) (hb : ∀ o ∈ t, o < 256) (hn : t.length ≤ 900)
  (I : LayI t w ch f r2 la2 be2 r3 la3 be3 tf tfoot TI i σ) (hi : i < t.length) :
  WC X (k + 5) (.ref 304) [.ref f, .int i, .int m] σ (fun v σ' => v = .list ((recs t i (min m (t.length - i)) 1 (cands i w)).map pairN) ∧ Ext σ σ') := by
 have M := layF_mt I.obj
 refine wc_of F F.LayeredFinder_every rfl ?_
 have hf' := I.obj
 unfold layF at hf'
 repeat (first | simp only [we_v,we_meth,wz_nil,wz_cons,ws_asg,wl_cons,gI,gR,mR,insL,agV,retQ,initR,qa,qb,qc,qd,qh,qg,qj,qi,Nat.reduceSub,true_and,f_LayeredFinder_every,f_LayeredFinder_every_b,M.obj,M.nom 18 (by decide)] | ((with_reducible apply tail);case e=>rfl))
 refine ⟨138, rfl, ?_⟩
 refine limit_c F M (by exact Nat.le_of_lt ‹_›) ?_
 repeat (first | simp only [we_v,we_int,we_bin,we_attr,we_tup,we_nlst,wz_nil,wz_cons,ws_asg,wl_cons,gR,aR,agT,setAll,retQ,mkList,qa,qc,qd,Nat.reduceAdd,true_and,if_true,Nat.reduceEqDiff,Nat.reduceLeDiff,qe,qf] | ((with_reducible apply tail);case e=>rfl))
 refine fun a ha => ?_
 have E : ∀ acc, Ext σ (upd σ a (.list acc)) := fun _ => .upd ha
 have g12 : (layF t w ch i r2 r3 tf).lookup 12 = some (.list [.ref r2, .ref r3]) := rfl
 have g13 : (layF t w ch i r2 r3 tf).lookup 13 = some (.ref tf) := rfl
 try simp only [we_v,we_attr,wi_e,ws_forr,wl_cons,gI,gL,gR,bI,oS,aR,fL,insL,liL,agV,retQ,qa,qc,qd,E _ _ _ I.obj,M.f4,g12,forP,f_LayeredFinder_every_t7]
 rw [show ((2 : Nat) : Int) - 1 = ((1 : Nat) : Int) by lia]
 refine lay_row (k := k + 2) (s := 2) F hb (by exact Nat.succ_pos _) hn hi (by exact Nat.min_le_right _ _) (.inr (.inr rfl)) M I.row2 ha (by simp) (.inl (by exact Nat.succ_pos _)) fun acc2 m2 z1 z2 e2 J2 l2 => ?_
 try simp only [qc,qd]
 refine lay_row (k := k + 2) (s := 3) F hb (by exact Nat.succ_pos _) hn hi (by exact Nat.min_le_right _ _) (.inr (.inr rfl)) M I.row3 ha (by simp at l2; lia) J2 fun acc3 m3 z1 z2 e3 J3 l3 => ?_
 have TT : TI i (upd σ a (.list acc3)) := Z.keep _ _ _ I.tree fun b o _ h => E _ _ _ h
 obtain ⟨CT, fsT, fn, t1, t2, t3, t4⟩ := Z.every i _ m TT hi
 repeat (first | simp only [we_v,we_attr,we_meth,wz_nil,wz_cons,wi_e,ws_forr,wl_cons,gI,gR,aR,mR,insL,retQ,qa,qb,true_and,E _ _ _ I.obj,g13,t1,t2] | ((with_reducible apply tail);case e=>rfl))
 refine ⟨fn, t3, ?_⟩
 refine t4.mono fun v σ' ⟨ev, ex⟩ => ?_
 subst ev
 have ha' : σ' a = some (.list acc3) := ex _ _ upd_self
 have es : σ' = upd (del σ' a) a (.list acc3) := by
  funext b; unfold upd del; split
  ·rename_i e; rw [e,ha']
  ·rfl
 have hd : (del σ' a) a = none := del_self
 rw [es]
 repeat (first | simp only [fL,liL,Nat.reduceSub] | ((with_reducible apply tail);case e=>rfl))
 have hlen : (recs t i (min m (t.length - i)) 3 (cands i w)).length ≤ 900 := by
  have : ∀ (l : List Nat) (v : Nat), (recs t i (min m (t.length - i)) v l).length ≤ l.length := by
   intro l
   induction l with
   | nil => intro v; simp [recs]
   | cons c l ih => intro v; rw [recs]; split <;> simp <;> have := ih v <;> have := ih (fv t i (min m (t.length - i)) c) <;> lia
  have := this (cands i w) 3
  unfold cands at this ⊢
  simp at this ⊢
  lia
 simp at l2
 refine lay_loop (recs t i (min m (t.length - i)) 3 (cands i w)) acc3 m3 _ _ (by lia) fun z3 z4 m' => ?_
 repeat (first | simp only [we_v,we_frz,ws_ret,wl_nil,wl_cons,gR,lsL,fzR,retQ,qa,qb,reduceCtorEq,upd_self] | ((with_reducible apply tail);case e=>rfl))
 rw [lay_end J3,e3,e2,del_upd hd]
 refine ⟨rfl, fun b o hbo => ?_⟩
 have hne : b ≠ a := fun e => by rw [e,ha] at hbo; cases hbo
 rw [del_ne hne]
 exact ex _ _ (E _ _ _ hbo)
theorem lay_ok (F : Fns X) {r2 la2 be2 r3 la3 be3 tf : Addr} {tfoot : Addr → Prop} {TI : Nat → AHeap → Prop} (Z : Fi X (k + 4) t 4 w tf tfoot TI) (hb : ∀ o ∈ t, o < 256) (hn : t.length ≤ 900) :
  Fi X (k + 6) t 2 w f (layFt f r2 la2 be2 r3 la3 be3 tfoot) (LayI t w ch f r2 la2 be2 r3 la3 be3 tf tfoot TI) where
 self := .inl rfl
 mt := fun i σ I => ⟨307, _, ch, .inr (.inr rfl), layF_mt I.obj⟩
 keep := fun i σ σ' I h => ⟨h _ _ (.inl rfl) I.obj, I.row2.keep fun a o ha e => h a o (.inr (.inl ha)) e, I.row3.keep fun a o ha e => h a o (.inr (.inr (.inl ha))) e, Z.keep _ _ _ I.tree fun a o ha e => h a o (.inr (.inr (.inr ha))) e, I.d23, I.d2t, I.d3t, I.df⟩
 live := fun i σ I a ha e => by
  rcases ha with rfl | ha | ha | ha
  ·rw [I.obj] at e; cases e
  ·exact I.row2.live a ha e
  ·exact I.row3.live a ha e
  ·exact Z.live _ _ I.tree a ha e
 every := fun i σ m I hi => ⟨307, _, 304, I.obj, rfl, rfl, (lay_every (k := k) F Z hb hn I hi).le (by exact Nat.le_succ _)⟩
 put := fun i σ I hi => lay_put F Z hn I hi
end
end Mine
end

section
open PySem PySem.Calls PyProof.Rows PySem.W
set_option backward.defeqAttrib.useBackward true
set_option maxRecDepth 20000
namespace Mine
section
variable {X : Cx} {k : Nat}
variable {σ : AHeap} {f C : Addr} {fs : List (Nat × V)} {t : List Nat} {least w ch ah p : Nat} {Q : V → AHeap → Prop}
theorem upd_none {σ : AHeap} {a b : Addr} {o : AObj} (h : upd σ a o b = none) : b ≠ a ∧ σ b = none := by
 by_cases e : b = a
 ·subst e; rw [upd_self] at h; cases h
 ·rw [upd_ne e] at h; exact ⟨e, h⟩
theorem row_new (F : Fns X) {s : Nat} (hs : 0 < s) (hn : t.length ≤ 900) :
  WC X (k + 2) (.ref 92) [.bytes t, .int s] σ (fun v σ' => ∃ r la be, v = .ref r ∧ Row σ' r t s la be 0 ∧ Ext σ σ' ∧ ∀ a, rowFt r la be a → σ a = none) := by
 refine cls_entry F.base (C := 92) (fI := 68) (by decide) rfl fun x dx hx hd hne => ?_
 refine wcc_of F F.PlaceRow_init rfl ?_
 repeat (first | simp only [we_v,we_int,we_cmp,ws_ife,ws_raise,wl_nil,wl_cons,gI,tB,cI,pLt,retQ,initR,qa,qb,qh,qg,qi,Nat.reduceSub,decide_eq_true_eq,f_PlaceRow_init,f_PlaceRow_init_b] | ((with_reducible apply tail);case e=>rfl))
 refine neg (by exact mt Int.ofNat_lt.mp (Nat.not_lt.mpr ‹_›)) ?_
 repeat (first | simp only [we_v,we_ndict,ws_setattr,wl_cons,gI,gY,gR,saR,insL,putF,retQ,qa,qb,Nat.reduceAdd,reduceCtorEq,true_and,if_false,Nat.reduceLT,qe,qf,upd_self,upd_upd] | ((with_reducible apply tail);case e=>rfl))
 intro la hla
 obtain ⟨l1, hla⟩ := upd_none hla
 obtain ⟨l2, hla⟩ := upd_none hla
 repeat (first | simp only [we_v,we_nowhere,we_len,we_nrep,ws_setattr,wl_nil,wl_cons,gY,gR,nY,saR,insL,inL,putF,retQ,mkList,qa,qb,Nat.reduceAdd,reduceCtorEq,true_and,if_true,if_false,Nat.reduceEqDiff,Nat.reduceLT,qe,qf,Int.toNat_natCast,List.length_map,upd_ne l1.symm,upd_self] | ((with_reducible apply tail);case e=>rfl))
 refine ⟨by exact Int.natCast_nonneg _, by simp; lia, fun be hbe => ?_⟩
 obtain ⟨b1, hbe⟩ := upd_none hbe
 obtain ⟨b2, hbe⟩ := upd_none hbe
 obtain ⟨b3, hbe⟩ := upd_none hbe
 obtain ⟨b4, hbe⟩ := upd_none hbe
 repeat (first | simp only [insL,putF,Nat.reduceAdd,reduceCtorEq,true_and,if_false,Nat.reduceEqDiff,Nat.reduceLT,qe,qf,upd_ne b1.symm,upd_self] | ((with_reducible apply tail);case e=>rfl))
 refine ⟨x, la, be, rfl, ⟨upd_self, ⟨0, fun _ => none, ?_, by exact Nat.zero_le _, fun n v h => by simp at h, fun n => by simp [chainL,headI]⟩, ⟨List.replicate t.length (.int (-1)), ?_, by simp, fun q h => by exact absurd ‹_› (Nat.not_lt_zero _)⟩⟩, fun a o h => ?_, fun a ha => ?_⟩
 ·rw [upd_ne l1,upd_ne b2.symm,upd_ne l1,upd_self]
 ·rw [upd_ne b1,upd_self]
 ·have n1 : a ≠ x := fun e => by rw [e,hx] at h; cases h
  have n2 : a ≠ dx := fun e => by rw [e,hd] at h; cases h
  have n3 : a ≠ la := fun e => by rw [e,hla] at h; cases h
  have n4 : a ≠ be := fun e => by rw [e,hbe] at h; cases h
  simp only [upd_ne n1,upd_ne n2,upd_ne n3,upd_ne n4]
  exact h
 ·rcases ha with rfl | rfl | rfl <;> assumption
theorem row_m (F : Fns X) {s : Nat} (hs : 0 < s) (hn : t.length ≤ 900) {Q : V → AHeap → Prop} (K : ∀ r la be σ', Row σ' r t s la be 0 → Ext σ σ' → (∀ a, rowFt r la be a → σ a = none) → Q (.ref r) σ') : WC X (k + 2) (.ref 92) [.bytes t, .int s] σ Q :=
 (row_new F hs hn).mono fun v σ' h => h.elim fun r h => h.elim fun la h => h.elim fun be h => h.1.symm ▸ K r la be σ' h.2.1 h.2.2.1 h.2.2.2
theorem minit_c (F : Fns X) (hl : 0 < least) (hw : 0 < w) (hc : 0 < ch) (hf : σ f = some (.inst C [])) (hQ : Q .none (upd σ f (.inst C [(0, .bytes t), (4, .int least), (5, .int w), (6, .int ch), (7, .int (0 : Nat))]))) :
  WC X (k + 1) (.ref 110) [.ref f, .bytes t, .int least, .int w, .int ch] σ Q := by
 refine wc_of F F.Matcher_init rfl ?_
 repeat (first | simp only [we_v,we_int,we_cmp,ws_ife,ws_raise,wl_nil,wl_cons,gI,tB,cI,pLt,retQ,initR,qa,qb,qh,qg,qi,Nat.reduceSub,decide_eq_true_eq,f_Matcher_init,f_Matcher_init_b] | ((with_reducible apply tail);case e=>rfl))
 refine neg (by exact mt Int.ofNat_lt.mp (Nat.not_lt.mpr ‹_›)) ?_
 repeat (first | simp only [we_v,we_int,we_cmp,ws_ife,ws_raise,wl_nil,wl_cons,gI,tB,cI,pLt,retQ,qa,qb,decide_eq_true_eq] | ((with_reducible apply tail);case e=>rfl))
 refine neg (by exact mt Int.ofNat_lt.mp (Nat.not_lt.mpr ‹_›)) ?_
 repeat (first | simp only [we_v,we_int,we_cmp,ws_ife,ws_raise,wl_nil,wl_cons,gI,tB,cI,pLt,retQ,qa,qb,decide_eq_true_eq] | ((with_reducible apply tail);case e=>rfl))
 refine neg (by exact mt Int.ofNat_lt.mp (Nat.not_lt.mpr ‹_›)) ?_
 repeat (first | simp only [we_v,we_int,we_bytes,ws_setattr,wl_nil,wl_cons,gI,gY,gR,saR,insL,byB,putF,retQ,qa,qb,Nat.reduceAdd,reduceCtorEq,true_and,if_false,Nat.reduceEqDiff,Nat.reduceLT,qe,qf,bytesP,hf,upd_self,upd_upd] | ((with_reducible apply tail);case e=>rfl))
 exact hQ
theorem fin_new (F : Fns X) (hl : 0 < least) (hw : 0 < w) (hc : 0 < ch) (hn : t.length ≤ 900) :
  WC X (k + 4) (.ref 226) [.bytes t, .int least, .int w, .int ch] σ (fun v σ' => ∃ f r la be, v = .ref f ∧ FinI t least w ch f r la be 0 σ' ∧ Ext σ σ' ∧ ∀ a, finFt f r la be a → σ a = none) := by
 refine cls_entry F.base (C := 226) (fI := 202) (by decide) rfl fun x dx hx hd hne => ?_
 refine wcc_of F F.Finder_init rfl ?_
 repeat (first | simp only [we_v,we_cmeth,wz_nil,wz_cons,ws_expr,wl_cons,gI,gY,gR,retQ,initR,qa,qb,qh,qg,qi,Nat.reduceSub,f_Finder_init,f_Finder_init_b] | ((with_reducible apply tail);case e=>rfl))
 refine ⟨110, rfl, ?_⟩
 refine minit_c F hl hw hc upd_self ?_
 rw [upd_upd]
 repeat (first | simp only [we_v,we_attr,we_callf,wz_nil,wz_cons,ws_setattr,wl_nil,wl_cons,gI,gY,gR,aR,saR,insL,retQ,qa,qb,true_and,lookup_hit,Nat.reduceLT,upd_self] | ((with_reducible apply tail);case e=>rfl))
 refine row_m (k := k) F hl hn fun r la be σ' hR hE hfr => ?_
 have hx' := hE _ _ upd_self
 repeat (first | simp only [insL,putF,Nat.reduceAdd,reduceCtorEq,true_and,if_false,Nat.reduceEqDiff,Nat.reduceLT,qe,qf,hx'] | ((with_reducible apply tail);case e=>rfl))
 have nfr : ∀ a, rowFt r la be a → a ≠ x ∧ σ a = none := fun a ha => by
  obtain ⟨h1, h2⟩ := upd_none (hfr a ha)
  exact ⟨h1, (upd_none h2).2⟩
 refine ⟨x, r, la, be, rfl, ⟨upd_self, hR.keep fun a o ha e => by rw [upd_ne (nfr a ha).1]; exact e⟩, fun a o h => ?_, fun a ha => ?_⟩
 ·have n1 : a ≠ x := fun e => by rw [e,hx] at h; cases h
  have n2 : a ≠ dx := fun e => by rw [e,hd] at h; cases h
  rw [upd_ne n1]
  exact hE _ _ (by rw [upd_ne n1,upd_ne n2]; exact h)
 ·rcases ha with rfl | ha
  ·exact hx
  ·exact (nfr a ha).2
theorem fin_m (F : Fns X) (hl : 0 < least) (hw : 0 < w) (hc : 0 < ch) (hn : t.length ≤ 900) {Q : V → AHeap → Prop} (K : ∀ f r la be σ', FinI t least w ch f r la be 0 σ' → Ext σ σ' → (∀ a, finFt f r la be a → σ a = none) → Q (.ref f) σ') : WC X (k + 4) (.ref 226) [.bytes t, .int least, .int w, .int ch] σ Q :=
 (fin_new F hl hw hc hn).mono fun v σ' h => h.elim fun f h => h.elim fun r h => h.elim fun la h => h.elim fun be h => h.1.symm ▸ K f r la be σ' h.2.1 h.2.2.1 h.2.2.2
theorem tre_new (F : Fns X) (hl : 0 < least) (hw : 0 < w) (hc : 0 < ch) (hn : t.length ≤ 900) :
  WC X (k + 4) (.ref 274) [.bytes t, .int least, .int w, .int ch] σ (fun v σ' => ∃ f r ro sa ga, v = .ref f ∧ TreI t least w ch f r ro sa ga 0 σ' ∧ Ext σ σ' ∧ ∀ a, treFt f r ro sa ga a → σ a = none) := by
 refine cls_entry F.base (C := 274) (fI := 243) (by decide) rfl fun x dx hx hd hne => ?_
 refine wcc_of F F.TreeFinder_init rfl ?_
 repeat (first | simp only [we_v,we_cmeth,wz_nil,wz_cons,ws_expr,wl_cons,gI,gY,gR,retQ,initR,qa,qb,qh,qg,qi,Nat.reduceSub,f_TreeFinder_init,f_TreeFinder_init_b] | ((with_reducible apply tail);case e=>rfl))
 refine ⟨110, rfl, ?_⟩
 refine minit_c F hl hw hc upd_self ?_
 rw [upd_upd]
 repeat (first | simp only [we_v,we_attr,we_callf,wz_nil,wz_cons,ws_setattr,wl_cons,gI,gY,gR,aR,saR,insL,retQ,qa,qb,true_and,lookup_hit,Nat.reduceLT,upd_self] | ((with_reducible apply tail);case e=>rfl))
 refine row_m (k := k) F hl hn fun r la be σ' hR hE hfr => ?_
 have hx' := hE _ _ upd_self
 have hro := hR.obj
 have nr := upd_none (hfr r (.inl rfl))
 have nr2 := (upd_none nr.2).2
 have hE2 : ∀ a o, a ≠ x → a ≠ dx → σ a = some o → σ' a = some o := fun a o n1 n2 h => hE _ _ (by rw [upd_ne n1,upd_ne n2]; exact h)
 have hdx : σ' dx = some (.sub x) := hE _ _ (by rw [upd_ne hne.symm,upd_self])
 have fresh : ∀ a, σ' a = none → a ≠ x ∧ a ≠ dx ∧ a ≠ r ∧ σ a = none := fun a h => by
  have n1 : a ≠ x := fun e => by rw [e,hx'] at h; cases h
  have n2 : a ≠ dx := fun e => by rw [e,hdx] at h; cases h
  refine ⟨n1, n2, (fun e => by rw [e,hro] at h; cases h), ?_⟩
  cases q : σ a with
  | none => rfl
  | some o => rw [hE2 a o n1 n2 q] at h; cases h
 clear hE hfr
 repeat (first | simp only [we_v,we_ndict,ws_setattr,wl_cons,gR,saR,insL,putF,retQ,qa,Nat.reduceAdd,reduceCtorEq,true_and,if_false,Nat.reduceEqDiff,Nat.reduceLT,qe,qf,hx'] | ((with_reducible apply tail);case e=>rfl))
 intro ro hr1
 obtain ⟨c1, hr1⟩ := upd_none hr1
 repeat (first | simp only [we_v,we_nowhere,we_attr,we_len,we_nrep,ws_setattr,wl_cons,gY,gR,aR,nY,saR,insL,inL,putF,retQ,mkList,qa,Nat.reduceAdd,reduceCtorEq,true_and,if_true,if_false,lookup_hit,Nat.reduceEqDiff,Nat.reduceLT,qe,qf,Int.toNat_natCast,List.length_map,upd_ne c1.symm,upd_self] | ((with_reducible apply tail);case e=>rfl))
 refine ⟨by exact Int.natCast_nonneg _, by simp; lia, fun sa hs1 => ?_⟩
 obtain ⟨s1, hs1⟩ := upd_none hs1
 obtain ⟨s2, hs1⟩ := upd_none hs1
 obtain ⟨s3, hs1⟩ := upd_none hs1
 repeat (first | simp only [we_v,we_nowhere,we_attr,we_len,we_nrep,ws_setattr,wl_nil,wl_cons,gY,gR,aR,nY,saR,insL,inL,putF,retQ,mkList,qa,Nat.reduceAdd,reduceCtorEq,true_and,if_true,if_false,lookup_hit,Nat.reduceEqDiff,Nat.reduceLT,qe,qf,Int.toNat_natCast,List.length_map,upd_ne s1.symm,upd_self] | ((with_reducible apply tail);case e=>rfl))
 refine ⟨by exact Int.natCast_nonneg _, by simp; lia, fun ga hg1 => ?_⟩
 obtain ⟨g1, hg1⟩ := upd_none hg1
 obtain ⟨g2, hg1⟩ := upd_none hg1
 obtain ⟨g3, hg1⟩ := upd_none hg1
 obtain ⟨g4, hg1⟩ := upd_none hg1
 obtain ⟨g5, hg1⟩ := upd_none hg1
 repeat (first | simp only [insL,putF,Nat.reduceAdd,reduceCtorEq,true_and,if_false,Nat.reduceEqDiff,Nat.reduceLT,qe,qf,upd_ne g1.symm,upd_self] | ((with_reducible apply tail);case e=>rfl))
 obtain ⟨p1, p2, p3, p4⟩ := fresh ro hr1
 obtain ⟨q1, q2, q3, q4⟩ := fresh sa hs1
 obtain ⟨m1, m2, m3, m4⟩ := fresh ga hg1
 refine ⟨x, r, ro, sa, ga, rfl, ⟨upd_self, ⟨la, be, ?_⟩, g2.symm, ⟨0, fun _ => none, fun _ => List.replicate t.length (.int (-1)), fun _ => -1, fun _ => .nil, ?_, by exact Nat.zero_le _, ?_, ?_, by simp, fun n => rfl, fun n => ⟨rfl, trivial, fun x h => h.elim, fun q h => by exact absurd ‹_› (Nat.not_lt_zero _)⟩⟩⟩, fun a o h => ?_, fun a ha => ?_⟩
 ·simp only [upd_ne nr.1,upd_ne m3.symm,upd_ne q3.symm,upd_ne p3.symm]
  exact hro
 ·simp only [upd_ne c1,upd_ne g4.symm,upd_ne s2.symm,upd_self]
 ·simp only [upd_ne s1,upd_ne g2.symm,upd_self]
 ·simp only [upd_ne g1,upd_self]
 ·have n1 : a ≠ x := fun e => by rw [e,hx] at h; cases h
  have n2 : a ≠ dx := fun e => by rw [e,hd] at h; cases h
  have n3 : a ≠ ro := fun e => by rw [e,p4] at h; cases h
  have n4 : a ≠ sa := fun e => by rw [e,q4] at h; cases h
  have n5 : a ≠ ga := fun e => by rw [e,m4] at h; cases h
  simp only [upd_ne n1,upd_ne n3,upd_ne n4,upd_ne n5]
  exact hE2 a o n1 n2 h
 ·rcases ha with rfl | rfl | rfl | rfl | rfl <;> assumption
theorem tre_m (F : Fns X) (hl : 0 < least) (hw : 0 < w) (hc : 0 < ch) (hn : t.length ≤ 900) {Q : V → AHeap → Prop} (K : ∀ f r ro sa ga σ', TreI t least w ch f r ro sa ga 0 σ' → Ext σ σ' → (∀ a, treFt f r ro sa ga a → σ a = none) → Q (.ref f) σ') : WC X (k + 4) (.ref 274) [.bytes t, .int least, .int w, .int ch] σ Q :=
 (tre_new F hl hw hc hn).mono fun v σ' h => h.elim fun f h => h.elim fun r h => h.elim fun ro h => h.elim fun sa h => h.elim fun ga h => h.1.symm ▸ K f r ro sa ga σ' h.2.1 h.2.2.1 h.2.2.2
theorem lay_new (F : Fns X) (hb : ∀ o ∈ t, o < 256) (hw : 0 < w) (hc : t.length < ch) (hn : t.length ≤ 900) :
  WC X (k + 6) (.ref 307) [.bytes t, .int w, .int ch] σ (fun v σ' => ∃ f foot Inv, v = .ref f ∧ Fi X (k + 6) t 2 w f foot Inv ∧ Inv 0 σ' ∧ Ext σ σ' ∧ ∀ a, foot a → σ a = none) := by
 refine cls_entry F.base (C := 307) (fI := 290) (by decide) rfl fun x dx hx hd hne => ?_
 refine wcc_of F F.LayeredFinder_init rfl ?_
 repeat (first | simp only [we_v,we_int,we_idx,we_layers,we_cmeth,wz_nil,wz_cons,ws_expr,wl_cons,gI,gY,gR,kR,iT,insL,retQ,initR,qa,qb,qh,qg,qj,qi,Nat.reduceSub,true_and,List.lookup_nil,f_LayeredFinder_init,f_LayeredFinder_init_b,upd_self] | ((with_reducible apply tail);case e=>rfl))
 refine ⟨110, rfl, by exact Int.natCast_nonneg _, ?_⟩
 refine ⟨_, rfl, ?_⟩
 refine minit_c (least := 2) F (by exact Nat.succ_pos _) hw (by exact Nat.zero_lt_of_lt ‹_›) upd_self ?_
 rw [upd_upd]
 repeat (first | simp only [we_v,we_bool,we_attr,we_layers,we_callf,we_comp,wz_nil,wz_cons,wi_e,ws_setattr,wl_cons,gI,gY,gR,tB,aR,kR,saR,fT,insL,liL,agV,retQ,mkList,qa,qb,qc,qd,qh,qg,Nat.reduceAdd,true_and,if_true,if_false,Bool.false_eq_true,Nat.reduceBEq,List.lookup_nil,lookup_hit,lookup_miss,Nat.reduceLT,Nat.reduceLeDiff,qe,qf,upd_self,wpG,Option.getD_some,clr,Gs.slots,Tg.slots,List.append_nil,List.foldl_cons,List.foldl_nil,List.foldr_cons,List.foldr_nil] | ((with_reducible apply tail);case e=>rfl))
 have hst : Ext σ (upd (upd σ dx (AObj.sub x)) x (.inst 307 [(0, .bytes t), (4, .int (2 : Nat)), (5, .int w), (6, .int ch), (7, .int (0 : Nat))])) := (Ext.upd hd).trans (Ext.upd (by rw [upd_ne hne]; exact hx))
 have hf0 : (upd (upd σ dx (AObj.sub x)) x (.inst 307 [(0, .bytes t), (4, .int (2 : Nat)), (5, .int w), (6, .int ch), (7, .int (0 : Nat))])) x = some (.inst 307 [(0, .bytes t), (4, .int (2 : Nat)), (5, .int w), (6, .int ch), (7, .int (0 : Nat))]) := upd_self
 generalize upd (upd σ dx (AObj.sub x)) x (.inst 307 [(0, .bytes t), (4, .int (2 : Nat)), (5, .int w), (6, .int ch), (7, .int (0 : Nat))]) = σ0 at *
 refine row_m (k := k + 2) (s := 2) F (by exact Nat.succ_pos _) hn fun r2 la2 be2 σ1 R2 E1 fr1 => ?_
 repeat (first | simp only [gY,insL,lookup_hit,E1 _ _ hf0] | ((with_reducible apply tail);case e=>rfl))
 refine row_m (k := k + 2) (s := 3) F (by exact Nat.succ_pos _) hn fun r3 la3 be3 σ2 R3 E2 fr2 => ?_
 have hf2 := E2 _ _ (E1 _ _ hf0)
 repeat (first | simp only [we_v,we_attr,we_treesize,we_callf,wz_nil,wz_cons,ws_setattr,wl_nil,wl_cons,gI,gY,gR,aR,kR,saR,insL,putF,retQ,qa,qb,Nat.reduceAdd,reduceCtorEq,true_and,if_false,Nat.reduceBEq,List.lookup_nil,lookup_hit,lookup_miss,Nat.reduceEqDiff,Nat.reduceLT,qe,qf,hf2,upd_self] | ((with_reducible apply tail);case e=>rfl))
 refine tre_m (k := k) (least := 4) F (by exact Nat.succ_pos _) hw (by exact Nat.zero_lt_of_lt ‹_›) hn fun tf tr ro sa gg σ3 T3 E3 fr3 => ?_
 have hf3 := E3 _ _ upd_self
 repeat (first | simp only [insL,putF,Nat.reduceAdd,reduceCtorEq,true_and,if_false,Nat.reduceEqDiff,Nat.reduceLT,qe,qf,hf3] | ((with_reducible apply tail);case e=>rfl))
 have nx : ∀ a, σ0 a = none → a ≠ x := fun a h e => by rw [e,hf0] at h; cases h
 have ex : ∀ {σ σ' : AHeap} {a}, Ext σ σ' → σ' a = none → σ a = none := fun {σ σ' a} E h => by
  cases q : σ a with
  | none => rfl
  | some o => rw [E _ _ q] at h; cases h
 have fr2' : ∀ a, rowFt r3 la3 be3 a → σ0 a = none := fun a ha => ex E1 (fr2 a ha)
 have fr3a : ∀ a, treFt tf tr ro sa gg a → a ≠ x ∧ σ2 a = none := fun a ha => upd_none (fr3 a ha)
 have fr3' : ∀ a, treFt tf tr ro sa gg a → σ0 a = none := fun a ha => ex E1 (ex E2 (fr3a a ha).2)
 have live : ∀ {σ : AHeap} {r la be s a}, Row σ r t s la be 0 → rowFt r la be a → σ a ≠ none := fun {σ r la be s a} R ha h => by
  rcases ha with rfl | rfl | rfl
  ·rw [R.obj] at h; cases h
  ·obtain ⟨nd, m, b, _⟩ := R.di; rw [b] at h; cases h
  ·obtain ⟨l, b, _⟩ := R.li; rw [b] at h; cases h
 have U : ∀ a o, σ0 a = none → σ3 a = some o → upd σ3 x (.inst 307 (layF t w ch 0 r2 r3 tf)) a = some o := fun a o h e => by rw [upd_ne (nx a h)]; exact e
 have U2 : ∀ a o, σ0 a = none → σ2 a = some o → σ3 a = some o := fun a o h e => E3 _ _ (by rw [upd_ne (nx a h)]; exact e)
 have I : LayI t w ch x r2 la2 be2 r3 la3 be3 tf (treFt tf tr ro sa gg) (TreI t 4 w ch tf tr ro sa gg) 0 (upd σ3 x (.inst 307 (layF t w ch 0 r2 r3 tf))) := by
  refine ⟨upd_self, R2.keep fun a o ha e => U a o (fr1 a ha) (U2 a o (fr1 a ha) (E2 _ _ e)), R3.keep fun a o ha e => U a o (fr2' a ha) (U2 a o (fr2' a ha) e), T3.keep fun a o ha e => U a o (fr3' a ha) e,
   fun a h1 h2 => live R2 h1 (fr2 a h2), fun a h1 h2 => ?_, fun a h1 h2 => live R3 h1 (fr3a a h2).2, fun h => nx _ (fr1 _ h) rfl, fun h => nx _ (fr2' _ h) rfl, fun h => nx _ (fr3' _ h) rfl⟩
  exact live R2 h1 (ex E2 (fr3a a h2).2)
 refine ⟨x, layFt x r2 la2 be2 r3 la3 be3 (treFt tf tr ro sa gg), _, rfl, lay_ok (k := k) F (tre_ok (k := k) F hb (by exact Nat.succ_pos _) hc hn) hb hn, I, fun a o h => ?_, fun a ha => ?_⟩
 ·have n1 : a ≠ x := fun e => by rw [e,hx] at h; cases h
  rw [upd_ne n1]
  exact E3 _ _ (by rw [upd_ne n1]; exact E2 _ _ (E1 _ _ (hst _ _ h)))
 ·rcases ha with rfl | ha | ha | ha
  ·exact hx
  ·exact ex hst (fr1 a ha)
  ·exact ex hst (fr2' a ha)
  ·exact ex hst (fr3' a ha)
noncomputable def NewFi (X : Cx) (k : Nat) (t : List Nat) (least w : Nat) (σ : AHeap) : V → AHeap → Prop := fun v σ' => ∃ f foot Inv, v = .ref f ∧ Fi X k t least w f foot Inv ∧ Inv 0 σ' ∧ Ext σ σ' ∧ ∀ a, foot a → σ a = none
theorem for_chain (F : Fns X) (hb : ∀ o ∈ t, o < 256) (hl : 0 < least) (hw : 0 < w) (hc : t.length < ch) (hn : t.length ≤ 900) :
  WC X (k + 7) (.ref 317) [.str (PySem.Str.ofString "chain"), .bytes t, .int least, .int w, .int ch] σ (NewFi X (k + 6) t least w σ) := by
 refine wc_of F F.finder_for rfl ?_
 repeat (first | simp only [we_v,we_str,we_cmp,we_callf,wz_nil,wz_cons,ws_ife,ws_ret,wl_nil,wl_cons,gI,gS,gY,tB,cS,retQ,initR,qa,qb,qh,qg,qi,Nat.reduceSub,f_finder_for,f_finder_for_b] | ((with_reducible apply tail);case e=>rfl))
 refine pos (by decide +kernel) ?_
 refine fin_m (k := k + 2) F hl hw (by exact Nat.zero_lt_of_lt ‹_›) hn fun f r la be σ' I E fr => ?_
 exact ⟨f, _, _, rfl, (fin_ok (k := k) F hb hl hc hn).le (by lia), I, E, fr⟩
theorem for_tree (F : Fns X) (hb : ∀ o ∈ t, o < 256) (hl : 0 < least) (hw : 0 < w) (hc : t.length < ch) (hn : t.length ≤ 900) :
  WC X (k + 7) (.ref 317) [.str (PySem.Str.ofString "tree"), .bytes t, .int least, .int w, .int ch] σ (NewFi X (k + 6) t least w σ) := by
 refine wc_of F F.finder_for rfl ?_
 repeat (first | simp only [we_v,we_str,we_cmp,we_callf,wz_nil,wz_cons,ws_ife,ws_ret,wl_nil,wl_cons,gI,gS,gY,tB,cS,retQ,initR,qa,qb,qh,qg,qi,Nat.reduceSub,f_finder_for,f_finder_for_b] | ((with_reducible apply tail);case e=>rfl))
 refine neg (by decide +kernel) ?_
 repeat (first | simp only [we_v,we_str,we_cmp,we_callf,wz_nil,wz_cons,ws_ife,ws_ret,wl_nil,wl_cons,gI,gS,gY,tB,cS,retQ,qa,qb] | ((with_reducible apply tail);case e=>rfl))
 refine pos (by decide +kernel) ?_
 refine tre_m (k := k + 2) F hl hw (by exact Nat.zero_lt_of_lt ‹_›) hn fun f r ro sa ga σ' I E fr => ?_
 exact ⟨f, _, _, rfl, (tre_ok (k := k) F hb hl hc hn).le (by lia), I, E, fr⟩
theorem for_layers (F : Fns X) {l : Int} (hb : ∀ o ∈ t, o < 256) (hw : 0 < w) (hc : t.length < ch) (hn : t.length ≤ 900) :
  WC X (k + 7) (.ref 317) [.str (PySem.Str.ofString "layers"), .bytes t, .int l, .int w, .int ch] σ (NewFi X (k + 6) t 2 w σ) := by
 refine wc_of F F.finder_for rfl ?_
 repeat (first | simp only [we_v,we_str,we_cmp,we_callf,wz_nil,wz_cons,ws_ife,ws_ret,wl_nil,wl_cons,gI,gS,gY,tB,cS,retQ,initR,qa,qb,qh,qg,qi,Nat.reduceSub,f_finder_for,f_finder_for_b] | ((with_reducible apply tail);case e=>rfl))
 refine neg (by decide +kernel) ?_
 repeat (first | simp only [we_v,we_str,we_cmp,we_callf,wz_nil,wz_cons,ws_ife,ws_ret,wl_nil,wl_cons,gI,gS,gY,tB,cS,retQ,qa,qb] | ((with_reducible apply tail);case e=>rfl))
 refine neg (by decide +kernel) ?_
 repeat (first | simp only [we_v,we_str,we_cmp,we_callf,wz_nil,wz_cons,ws_ife,ws_ret,wl_nil,wl_cons,gI,gS,gY,tB,cS,retQ,qa,qb] | ((with_reducible apply tail);case e=>rfl))
 refine pos (by decide +kernel) ?_
 exact lay_new (k := k) F hb hw hc hn
end
end Mine
end

section
open PySem PySem.Calls PyProof.Rows PySem.W
set_option backward.defeqAttrib.useBackward true
set_option maxRecDepth 20000
namespace Mine
theorem forP_inv {t : Tg} {body : List V → AHeap → (Fl → List V → AHeap → Prop) → Prop} {Q : Fl → List V → AHeap → Prop} (I : List V → List V → AHeap → Prop)
  (step : ∀ x r ρ σ (K : Fl → List V → AHeap → Prop), I (x :: r) ρ σ → (∀ ρ' σ', I r ρ' σ' → K .next ρ' σ') → (∀ ρ' σ', Q .next ρ' σ' → K .brk ρ' σ') → (∀ v ρ' σ', Q (.ret v) ρ' σ' → K (.ret v) ρ' σ') → asgP t x ρ fun ρ₁ => body ρ₁ σ K)
  (hend : ∀ ρ σ, I [] ρ σ → Q .next ρ σ) : ∀ (items : List V) (ρ : List V) (σ : AHeap), I items ρ σ → forP t body Q items ρ σ
 | [], ρ, σ, h => hend ρ σ h
 | x :: r, ρ, σ, h => by
  unfold forP
  exact step x r ρ σ _ h (fun ρ' σ' h' => forP_inv I step hend r ρ' σ' h') (fun _ _ h => h) fun _ _ _ h => h
theorem whileP_inv {test : List V → AHeap → (Bool → AHeap → Prop) → Prop} {body : List V → AHeap → (Fl → List V → AHeap → Prop) → Prop} {Q : Fl → List V → AHeap → Prop} (I : Nat → List V → AHeap → Prop)
  (step : ∀ n ρ σ (K : Fl → List V → AHeap → Prop), I n ρ σ → (∀ m ρ' σ', m < n → I m ρ' σ' → K .next ρ' σ') → (∀ ρ' σ', Q .next ρ' σ' → K .brk ρ' σ') → (∀ v ρ' σ', Q (.ret v) ρ' σ' → K (.ret v) ρ' σ') →
   test ρ σ fun b σ₁ => if b = true then body ρ σ₁ K else Q .next ρ σ₁) : ∀ (f n : Nat) (ρ : List V) (σ : AHeap), n < f → I n ρ σ → whileP test body Q f ρ σ
 | 0, n, ρ, σ, h, _ => by exact absurd ‹_› (Nat.not_lt_zero _)
 | f + 1, n, ρ, σ, h, hI => by
  unfold whileP
  exact step n ρ σ _ hI (fun m ρ' σ' hm h' => whileP_inv I step f m ρ' σ' (by lia) h') (fun _ _ h => h) fun _ _ _ h => h
theorem fold_comp {F : V → (List V → AHeap → Prop) → List V → AHeap → Prop} {Q : List V → AHeap → Prop} (I : List V → List V → AHeap → Prop)
  (step : ∀ x r acc σ (K : List V → AHeap → Prop), I (x :: r) acc σ → (∀ acc' σ', I r acc' σ' → K acc' σ') → F x K acc σ)
  (hend : ∀ acc σ, I [] acc σ → Q acc σ) : ∀ (items acc : List V) (σ : AHeap), I items acc σ → items.foldr F Q acc σ
 | [], acc, σ, h => hend acc σ h
 | x :: r, acc, σ, h => step x r acc σ _ h fun acc' σ' h' => fold_comp I step hend r acc' σ' h'
theorem dgp_small {x y : Int} (h : y.natAbs < 2 ^ 200) : Builtin.divisionGoesByPylong x y = false := by
 unfold Builtin.divisionGoesByPylong
 have : (if (y == 0) = true then 0 else y.natAbs.log2 / 30 + 1) ≤ 300 := by
  split
  ·lia
  ·rename_i hy
   have hy : y.natAbs ≠ 0 := by simpa using hy
   have := (Nat.log2_lt hy).mpr h
   lia
 simp only [Bool.and_eq_false_iff,decide_eq_false_iff_not]
 exact .inl (by exact Nat.not_lt.mpr ‹_›)
theorem bits_small {x : Int} (h : x.natAbs < 2 ^ 64) : Builtin.Int.intBits x ≤ 64 := by
 unfold Builtin.Int.intBits
 split
 ·lia
 ·rename_i hy
  have hy : x.natAbs ≠ 0 := by simpa using hy
  have := (Nat.log2_lt hy).mpr h
  lia
section
variable {X : Cx} {k : Nat}
variable {σ : AHeap} {b : Addr} {t : List Nat} {Q : V → AHeap → Prop}
noncomputable def BoxSt (σ : AHeap) (b : Addr) : Prop := ∃ d s : Int, σ b = some (.list [.int d, .int s])
noncomputable def Only (b : Addr) (σ σ' : AHeap) : Prop := Fram (fun a => a = b) σ σ'
theorem Only.upd {o : AObj} : Only b σ (upd σ b o) := fun a o h e => by rw [upd_ne h]; exact e
theorem take_c (F : Fns X) (h : BoxSt σ b) {many : Nat} (hm : 0 < many) (hm2 : many < 2 ^ 30) : WC X (k + 1) (.ref 331) [.ref b, .int many] σ (fun v σ' => (∃ r : Nat, r < many ∧ v = .int r) ∧ BoxSt σ' b ∧ Only b σ σ') := by
 obtain ⟨d, s, hb⟩ := h
 refine wc_of F F.law_take rfl ?_
 have hf : ∀ x : Int, ∃ r : Nat, r < many ∧ V.int (x.fmod many) = .int r := fun x => by
  have h1 := Int.fmod_nonneg_of_pos x (show (0 : Int) < many by lia)
  have h2 := Int.fmod_lt_of_pos x (show (0 : Int) < many by lia)
  exact ⟨(x.fmod many).toNat, by lia, by congr 1; lia⟩
 repeat (first | simp only [we_v,we_int,we_bin,we_cmp,we_idx,ws_asg,ws_ife,wl_nil,wl_cons,gI,gR,tB,lsL,iR,agV,retQ,initR,qa,qb,qc,qd,qh,qg,qj,qi,Nat.reduceSub,f_law_take,f_law_take_b,hb] | ((with_reducible apply tail);case e=>rfl))
 refine ⟨by exact Int.natCast_nonneg _, _, rfl, ?_⟩
 repeat (first | simp only [cI,pGt,decide_eq_true_eq] | ((with_reducible apply tail);case e=>rfl))
 by_cases h0 : 0 < d
 ·refine pos h0 ?_
  refine ⟨by exact Int.natCast_nonneg _, _, rfl, ?_⟩
  repeat (first | simp only [bI,oR,ne_eq] | ((with_reducible apply tail);case e=>rfl))
  refine ⟨by lia, ?_⟩
  repeat (first | simp only [we_v,we_int,we_bin,we_idx,ws_setidx,wl_cons,gI,gR,lsL,iR,siR,qa,qb,hb] | ((with_reducible apply tail);case e=>rfl))
  refine ⟨by lia, _, rfl, by lia, dgp_small (by lia), ?_⟩
  repeat (first | simp only [Nat.reduceAdd,qe,qf,hb] | ((with_reducible apply tail);case e=>rfl))
  refine ⟨by exact Int.natCast_nonneg _, by simp, hf _, ?_, Only.upd⟩
  exact ⟨_, _, upd_self⟩
 ·refine neg h0 ?_
  repeat (first | simp only [we_v,we_int,we_bin,we_idx,ws_setidx,wl_cons,gR,lsL,iR,siR,retQ,qa,hb] | ((with_reducible apply tail);case e=>rfl))
  refine ⟨by exact Int.natCast_nonneg _, _, rfl, IntMulOk.of_right (by decide +kernel), by decide, ?_⟩
  repeat (first | simp only [Nat.reduceAdd,qe,qf,hb] | ((with_reducible apply tail);case e=>rfl))
  refine ⟨by exact Int.natCast_nonneg _, by simp, ?_⟩
  repeat (first | simp only [we_v,we_int,we_bin,we_idx,ws_ret,wl_nil,wl_cons,gI,gR,lsL,iR,retQ,qa,qb,reduceCtorEq,upd_self] | ((with_reducible apply tail);case e=>rfl))
  refine ⟨by lia, _, rfl, by lia, dgp_small (by decide), by lia, ?_⟩
  exact ⟨hf _, ⟨_, _, upd_self⟩, Only.upd⟩
theorem take_m (F : Fns X) (h : BoxSt σ b) {many k' : Nat} (hm : 0 < many) (hm2 : many < 2 ^ 30) (hk : k + 1 ≤ k') {Q : V → AHeap → Prop} (K : ∀ (r : Nat) σ', r < many → BoxSt σ' b → Only b σ σ' → Q (.int r) σ') : WC X k' (.ref 331) [.ref b, .int many] σ Q :=
 ((take_c F h hm hm2).le hk).mono fun v σ' h => h.1.elim fun r e => e.2.symm ▸ K r σ' e.1 h.2.1 h.2.2
theorem box_c (F : Fns X) {ns : List Int} : WC X (k + 1) (.ref 324) [.list (ns.map .int)] σ (fun v σ' => ∃ b, v = .ref b ∧ σ b = none ∧ BoxSt σ' b ∧ Ext σ σ') := by
 refine wc_of F F.law_box rfl ?_
 repeat (first | simp only [we_v,we_int,we_none,we_slice,we_tup,wz_nil,wz_cons,wi_e,ws_asg,ws_forr,wl_cons,gL,b01,sL,fL,liL,agT,setAll,retQ,initR,qa,qc,qd,qh,qg,qj,qi,Nat.reduceSub,Nat.reduceAdd,true_and,Nat.reduceEqDiff,Nat.reduceLeDiff,qe,qf,f_law_box,f_law_box_b] | ((with_reducible apply tail);case e=>rfl))
 refine ⟨by exact Int.natCast_nonneg _, ?_⟩
 refine forP_inv (fun items ρ σ' => σ' = σ ∧ (∃ ms : List Int, items = ms.map .int) ∧ ∃ d s : Int, ∃ z, ρ = [.list (ns.map .int), .int d, .int s, z]) ?_ ?_ _ _ _ ⟨rfl, ?_, ⟨0, 1, _, rfl⟩⟩
 ·rintro x r ρ σ' K ⟨rfl, ⟨ms, hms⟩, d, s, z, rfl⟩ hK _ _
  obtain ⟨m, ms, rfl⟩ : ∃ m ms', ms = m :: ms' := by cases ms with
   | nil => simp at hms
   | cons m ms => exact ⟨m, ms, rfl⟩
  simp only [List.map_cons,List.cons.injEq] at hms
  obtain ⟨rfl, rfl⟩ := hms
  repeat (first | simp only [we_v,we_int,we_bin,we_cmp,ws_asg,ws_ife,wl_nil,wl_cons,gI,tB,cI,pGe,bI,oA,oS,oM,oR,oP,agV,qa,qb,qc,qd,ne_eq,decide_eq_true_eq,f_law_box_b1] | ((with_reducible apply tail);case e=>rfl))
  refine ⟨by exact Int.natCast_nonneg _, by decide +kernel, ?_⟩
  split
  ·refine ⟨by exact Int.natCast_nonneg _, by decide +kernel, ?_⟩
   exact hK _ _ ⟨rfl, ⟨ms, rfl⟩, _, _, _, rfl⟩
  ·refine ⟨IntMulOk.of_right (by decide +kernel), by decide, ?_⟩
   exact hK _ _ ⟨rfl, ⟨ms, rfl⟩, _, _, _, rfl⟩
 ·rintro ρ σ' ⟨rfl, _, d, s, z, rfl⟩
  repeat (first | simp only [we_v,we_nlst,wz_nil,wz_cons,ws_ret,wl_nil,wl_cons,gI,retQ,mkList,qa,qb,reduceCtorEq,true_and,if_true,Nat.reduceLeDiff,qe,qf] | ((with_reducible apply tail);case e=>rfl))
  intro b hb
  exact ⟨b, rfl, hb, ⟨d, s, upd_self⟩, .upd hb⟩
 ·exact ⟨ns.take 30, by unfold cut; simp [List.map_take]⟩
noncomputable def letV (l : List V) : Prop := ∃ ns : List Nat, l = ns.map (fun (n : Nat) => V.int (n : Int)) ∧ ∀ n ∈ ns, n < 256
theorem letV.app {l l' : List V} (h : letV l) (h' : letV l') : letV (l ++ l') := by
 obtain ⟨ns, rfl, b⟩ := h
 obtain ⟨ms, rfl, b'⟩ := h'
 exact ⟨ns ++ ms, by simp, fun n hn => (List.mem_append.mp hn).elim (b n) (b' n)⟩
theorem letV.sub {l l' : List V} (h : letV l) (s : l'.Sublist l) : letV l' := by
 obtain ⟨ns, rfl, b⟩ := h
 obtain ⟨ms, s', rfl⟩ := List.sublist_map_iff.mp s
 exact ⟨ms, rfl, fun n hn => b n (s'.subset hn)⟩
theorem let3 {r : Nat} (h : r < 3) : ∃ x, [V.int 97, V.int 0, V.int 255][r]? = some x ∧ letV [x] := by
 refine lt3 (P := fun r => ∃ x, [V.int 97, V.int 0, V.int 255][r]? = some x ∧ letV [x]) h ?_ ?_ ?_
 ·exact ⟨_, rfl, [97], rfl, by simp⟩
 ·exact ⟨_, rfl, [0], rfl, by simp⟩
 ·exact ⟨_, rfl, [255], rfl, by simp⟩
theorem let5 {r : Nat} (h : r < 5) : ∃ x : Nat, [V.int 3, V.int 2, V.int 3, V.int 2, V.int 1][r]? = some (.int x) ∧ 0 < x ∧ x ≤ 3 :=
 lt5 (P := fun r => ∃ x : Nat, [V.int 3, V.int 2, V.int 3, V.int 2, V.int 1][r]? = some (.int x) ∧ 0 < x ∧ x ≤ 3) h ⟨3, rfl, by decide, by decide⟩ ⟨2, rfl, by decide, by decide⟩ ⟨3, rfl, by decide, by decide⟩ ⟨2, rfl, by decide, by decide⟩ ⟨1, rfl, by decide, by decide⟩
theorem Only.trans {σ' σ'' : AHeap} (x : Only b σ σ') (y : Only b σ' σ'') : Only b σ σ'' := Fram.trans x y
theorem Ext.only {σ' : AHeap} (x : Ext σ σ') : Only b σ σ' := x.fram
theorem text_c (F : Fns X) (h : BoxSt σ b) {room : Nat} (hr : room ≤ 100) : WC X (k + 2) (.ref 336) [.ref b, .int room] σ (fun v σ' => (∃ t : List Nat, v = .bytes t ∧ t.length = room ∧ ∀ o ∈ t, o < 256) ∧ BoxSt σ' b ∧ Only b σ σ') := by
 refine wc_of F F.law_text rfl ?_
 repeat (first | simp only [we_v,we_int,we_idx,we_lst,we_callf,wz_nil,wz_cons,ws_asg,wl_cons,gR,agV,retQ,initR,mkList,qa,qc,qd,qh,qg,qj,qi,Nat.reduceSub,true_and,if_false,Bool.false_eq_true,Nat.reduceLeDiff,qe,qf,f_law_text,f_law_text_b] | ((with_reducible apply tail);case e=>rfl))
 refine take_m (many := 5) (k := k) F h (by exact Nat.succ_pos _) (by decide) (Nat.le_refl _) fun r σ1 hr5 B1 O1 => ?_
 repeat (first | simp only [iL,Int.toNat_natCast] | ((with_reducible apply tail);case e=>rfl))
 obtain ⟨x, hx, hx0, hx3⟩ := let5 hr5
 refine ⟨by exact Int.natCast_nonneg _, _, hx, ?_⟩
 repeat (first | simp only [we_v,we_int,we_bool,we_bin,we_idx,we_lst,we_callf,we_comp,wz_nil,wz_cons,wi_r1,ws_asg,wl_cons,gI,gR,tB,agV,retQ,mkList,qa,qb,qc,qd,true_and,if_true,if_false,Bool.false_eq_true,Nat.reduceLeDiff,qe,qf,wpG,clr,Gs.slots,Tg.slots,Option.getD_some,List.append_nil,List.foldl_cons,List.foldl_nil] | ((with_reducible apply tail);case e=>rfl))
 refine take_m (many := 2) (k := k) F B1 (by exact Nat.succ_pos _) (by decide) (Nat.le_refl _) fun m σ2 hm B2 O2 => ?_
 repeat (first | simp only [bI,oA,rg1,small] | ((with_reducible apply tail);case e=>rfl))
 refine ⟨by lia, ?_⟩
 have O12 := O1.trans O2
 generalize hits : (List.range _).map _ = items
 have hil : items.length = 2 + m := by rw [← hits]; simp; lia
 refine fold_comp (fun items acc σ' => acc.length + items.length = 2 + m ∧ letV acc ∧ BoxSt σ' b ∧ Only b σ σ') ?_ ?_ _ _ _ ⟨by simpa using hil, ⟨[], rfl, by simp⟩, B2, O12⟩
 ·rintro y r acc σ3 K ⟨l1, l2, B3, O3⟩ hK
  repeat (first | simp only [we_v,we_int,we_bool,we_str,we_none,we_neg,we_nowhere,we_bin,we_cmp,we_cmp2,we_isnone,we_and,we_or,we_not,we_ite,we_idx,we_last,we_slice,we_rev,we_attr,we_layers,we_treesize,we_tup,we_lst,we_nlst,we_ndict,we_frz,we_callf,we_meth,we_cmeth,we_len,we_min2,we_max2,we_max1,we_bytes,we_tuple,we_sorted,we_listr,we_lappend,we_dget,we_lindex,we_nrep,we_ncat,we_comp,wz_nil,wz_cons,wi_e,wi_r1,wi_r2,wi_r3,ws_asg,ws_setattr,ws_setidx,ws_aug,ws_ife,ws_forr,ws_wh,ws_ret,ws_retn,ws_brk,ws_pass,ws_raise,ws_expr,wl_nil,wl_cons,wl_fz,gN,gB,gI,gS,gY,gT,gL,gR,tB,cI,cS,cEL,cER,cNL,cNT,thL,thT,thR,pLt,pLe,pGt,pGe,pEq,pNe,bI,bL,oA,oS,oM,oD,oR,oP,aR,kR,mR,lsL,nY,nT,nL,nR,iY,iT,iL,iR,laL,laR,b00,b10,b01,b11,sY,sL,sR,rY,rR,dR,iD,apR,fzR,saR,siR,fT,fL,fY,lL,lR,rg1,rg2,rg3,insL,diL,inL,reL,tuL,liL,byB,byL,byR,isn,isi,agV,agT,agL,setAll,putF,retQ,initR,mkList,qa,qb,qc,qd,List.set_nil,qh,qg,qj,qi,Nat.reduceSub,Nat.reduceAdd,Option.some.injEq,exists_eq_left',ne_eq,reduceCtorEq,not_false_eq_true,true_and,and_true,if_true,if_false,Bool.true_eq_false,Bool.false_eq_true,Option.isSome_some,Nat.reduceBEq,List.lookup_nil,lookup_hit,lookup_miss,bne_self_eq_false,Bool.not_true,Bool.not_false,decide_true,decide_false,ite_true,ite_false,reduceIte,Nat.reduceEqDiff,Nat.reduceLT,Nat.reduceLeDiff,qe,qf,decide_eq_true_eq,Bool.not_eq_true',decide_eq_false_iff_not,Int.toNat_natCast,List.length_map,Bool.and_eq_true,Bool.or_eq_true,Bool.not_eq_eq_eq_not,Bool.not_eq_true,Bool.not_eq_false,clr,Gs.slots,Tg.slots,List.append_nil,List.foldl_cons,List.foldl_nil] | ((with_reducible apply tail);case e=>rfl))
  simp only [qe] at l1
  refine ⟨by lia, ?_⟩
  refine take_m (k := k) F B3 hx0 (by lia) (Nat.le_refl _) fun q σ4 hq B4 O4 => ?_
  repeat (first | simp only [iL,Int.toNat_natCast] | ((with_reducible apply tail);case e=>rfl))
  obtain ⟨z, hz, hz2⟩ := let3 (show q < 3 by lia)
  refine ⟨by lia, z, hz, ?_⟩
  exact hK _ _ ⟨by simp; lia, l2.app hz2, B4, O3.trans O4⟩
 ·rintro acc σ3 ⟨l1, l2, B3, O3⟩
  simp only [qf] at l1
  refine ⟨by lia, fun a ha => ?_⟩
  have nab : a ≠ b := fun e => by obtain ⟨d, s, e'⟩ := B3; rw [e,e'] at ha; cases ha
  have ha0 : ∀ c, c ≠ b → σ3 c = none → σ c = none := fun c hc h => by
   cases q : σ c with
   | none => rfl
   | some o => rw [O3 c o hc q] at h; cases h
  have BU : ∀ {σ' : AHeap} {a : Addr} {o : AObj}, a ≠ b → BoxSt σ' b → BoxSt (upd σ' a o) b := fun h ⟨d, s, e⟩ => ⟨d, s, by rw [upd_ne (Ne.symm h)]; exact e⟩
  have OU : ∀ {σ' : AHeap} {a : Addr} {o : AObj}, σ a = none → Only b σ σ' → Only b σ (upd σ' a o) := fun {σ' a o} h O c o' hc e => by
   have : c ≠ a := fun q => by rw [q,h] at e; cases e
   rw [upd_ne this]; exact O c o' hc e
  refine ⟨room + 1, whileP_inv (fun n ρ σ' => ∃ acc a z, ρ = [.ref b, .int room, .int x, .ref a, z, .undef] ∧ σ' a = some (.list acc) ∧ a ≠ b ∧ σ a = none ∧ letV acc ∧ 0 < acc.length ∧ acc.length ≤ 200 ∧ BoxSt σ' b ∧ Only b σ σ' ∧ n = room - acc.length) ?_ (room + 1) (room - acc.length) _ _ (by lia)
   ⟨acc, a, _, rfl, upd_self, nab, ha0 a nab ha, l2, by lia, by lia, BU nab B3, OU (ha0 a nab ha) O3, rfl⟩⟩
  rintro n ρ σ4 K ⟨acc, a, z, rfl, g1, g2, g3, g4, g5, g6, B4, O4, rfl⟩ hK _ _
  repeat (first | simp only [we_v,we_cmp,we_len,gI,gR,tB,cI,pLt,lsL,nR,qa,qb,decide_eq_true_eq,f_law_text_c1,g1] | ((with_reducible apply tail);case e=>rfl))
  by_cases hlt : acc.length < room
  ·refine pos (by exact Int.ofNat_lt.mpr ‹_›) ?_
   repeat (first | simp only [we_v,we_int,we_cmp,we_idx,we_lst,we_callf,we_len,we_lappend,wz_nil,wz_cons,ws_asg,ws_ife,ws_expr,wl_nil,wl_cons,gI,gR,tB,nR,apR,lR,agV,mkList,qa,qb,qc,qd,true_and,if_false,Bool.false_eq_true,Nat.reduceLeDiff,qe,qf,f_law_text_b2] | ((with_reducible apply tail);case e=>rfl))
   refine take_m (many := 3) (k := k) F B4 (by exact Nat.succ_pos _) (by decide) (Nat.le_refl _) fun q σ5 hq B5 O5 => ?_
   have h5 := O5 _ _ g2 g1
   repeat (first | simp only [cI,pGt,decide_eq_true_eq] | ((with_reducible apply tail);case e=>rfl))
   by_cases hq0 : 0 < q
   ·refine pos (by exact Int.ofNat_lt.mpr ‹_›) ?_
    repeat (first | simp only [lsL,h5] | ((with_reducible apply tail);case e=>rfl))
    refine take_m (k := k) F B5 g5 (by lia) (Nat.le_refl _) fun bg σ6 hbg B6 O6 => ?_
    have h6 := O6 _ _ g2 h5
    repeat (first | simp only [we_v,we_int,we_bin,we_slice,we_callf,we_ncat,wz_nil,wz_cons,ws_asg,wl_nil,wl_cons,gI,gR,bI,oA,sR,agV,qa,qb,qc,qd] | ((with_reducible apply tail);case e=>rfl))
    refine take_m (many := 4) (k := k) F B6 (by exact Nat.succ_pos _) (by decide) (Nat.le_refl _) fun r4 σ7 hr4 B7 O7 => ?_
    have h7 := O7 _ _ g2 h6
    repeat (first | simp only [bI,oA,lsL,b11,lL,lR,liL,mkList,if_true,Int.toNat_natCast,h7,ncatP] | ((with_reducible apply tail);case e=>rfl))
    have O47 := ((O4.trans O5).trans O6).trans O7
    have e1 : ((bg : Int) + 2 + (r4 : Int)).toNat = bg + 2 + r4 := by rfl
    rw [e1]
    have cl : (cut acc bg (some (bg + 2 + r4))).length ≤ 5 ∧ 0 < (cut acc bg (some (bg + 2 + r4))).length := by
     unfold cut
     rw [List.length_drop,List.length_take]
     exact ⟨Nat.sub_le_of_le_add (Nat.le_trans (Nat.min_le_left _ _) (Nat.le_trans (Nat.le_of_eq (Nat.add_assoc bg 2 r4)) (Nat.le_trans (Nat.add_le_add_left (Nat.add_le_add_left (Nat.le_of_lt_succ hr4) 2) bg) (Nat.le_of_eq (Nat.add_comm bg 5))))), Nat.sub_pos_of_lt (Nat.lt_min.mpr ⟨Nat.lt_of_lt_of_le (Nat.lt_add_of_pos_right (Nat.succ_pos 1)) (Nat.le_add_right _ _), hbg⟩)⟩
    refine ⟨by exact Int.natCast_nonneg _, by exact Int.natCast_nonneg _, by simp; lia, fun a2 ha2 => ?_⟩
    have n2 : a2 ≠ b := fun e => by obtain ⟨d, s, e'⟩ := B7; rw [e,e'] at ha2; cases ha2
    have h02 : σ a2 = none := by
     cases q : σ a2 with
     | none => rfl
     | some o => rw [O47 a2 o n2 q] at ha2; cases ha2
    refine hK _ _ _ ?_ ⟨_, a2, _, rfl, upd_self, n2, h02, g4.app (g4.sub ?_), by simp; lia, by simp; lia, BU n2 B7, OU h02 O47, rfl⟩
    ·rw [List.length_append]; exact Nat.sub_lt_sub_left hlt (Nat.lt_add_of_pos_right cl.2)
    ·unfold cut
     exact (List.drop_sublist _ _).trans (List.take_sublist _ _)
   ·refine neg (by exact mt Int.ofNat_lt.mp ‹_›) ?_
    repeat (first | simp only [true_and,Option.isSome_some,h5] | ((with_reducible apply tail);case e=>rfl))
    refine take_m (k := k) F B5 hx0 (by lia) (Nat.le_refl _) fun bg σ6 hbg B6 O6 => ?_
    have h6 := O6 _ _ g2 h5
    obtain ⟨y, hy, hy2⟩ := let3 (show bg < 3 by lia)
    repeat (first | simp only [lsL,iL,Int.toNat_natCast,h6] | ((with_reducible apply tail);case e=>rfl))
    refine ⟨by exact Int.natCast_nonneg _, y, hy, by lia, ?_⟩
    exact hK _ _ _ (by rw [List.length_append]; exact Nat.sub_lt_sub_left hlt (Nat.lt_succ_self _)) ⟨_, a, _, rfl, upd_self, g2, g3, g4.app hy2, by simp, by simp; lia, BU g2 B6, OU g3 ((O4.trans O5).trans O6), rfl⟩
  ·refine neg (by exact mt Int.ofNat_lt.mp ‹_›) ?_
   repeat (first | simp only [we_v,we_none,we_slice,we_bytes,ws_ret,wl_nil,wl_cons,gI,gR,lsL,b01,sR,lL,liL,byL,retQ,qa,qb,reduceCtorEq,Int.toNat_natCast,g1,bytesP] | ((with_reducible apply tail);case e=>rfl))
   refine ⟨by exact Int.natCast_nonneg _, ?_⟩
   obtain ⟨ns, e, hb⟩ := g4
   subst e
   refine ⟨ns.take room, by unfold cut; simp, fun n hn => hb n (List.take_subset _ _ hn), by simp; lia, ⟨_, rfl, by simp at hlt ⊢; lia, fun n hn => hb n (List.take_subset _ _ hn)⟩, B4, O4⟩
end
end Mine
end

section
namespace Mine
section
variable {t : List Nat} {p q : Nat}
noncomputable def top (t : List Nat) (p : Nat) : Nat → Nat
 | 0 => 0
 | k + 1 => top t p k * 257 + dg t (p + k)
theorem dg_le (hb : ∀ o ∈ t, o < 256) (j : Nat) : dg t j < 257 := by
 unfold dg
 split
 ·rename_i o h
  have := hb o (List.mem_of_getElem? h)
  lia
 ·lia
theorem top_div (hb : ∀ o ∈ t, o < 256) (k : Nat) : top t p (k + 1) / 257 = top t p k := by
 have := dg_le hb (p + k)
 show (top t p k * 257 + dg t (p + k)) / 257 = top t p k
 lia
theorem top_divs (hb : ∀ o ∈ t, o < 256) (k : Nat) : ∀ m, top t p (k + m) / 257 ^ m = top t p k
 | 0 => by simp
 | m + 1 => by
  rw [Nat.pow_succ,Nat.mul_comm,← Nat.div_div_eq_div_mul,← Nat.add_assoc,top_div hb,top_divs hb k m]
theorem top_eq (hb : ∀ o ∈ t, o < 256) : ∀ k, top t p k = top t q k ↔ ∀ i, i < k → dg t (p + i) = dg t (q + i)
 | 0 => by simp [top]
 | k + 1 => by
  have h1 := dg_le hb (p + k)
  have h2 := dg_le hb (q + k)
  have ih := top_eq hb k
  constructor
  ·intro h
   have h : top t p k * 257 + dg t (p + k) = top t q k * 257 + dg t (q + k) := h
   have e1 : top t p k = top t q k := by lia
   have e2 := ih.mp e1
   intro i hi
   by_cases e : i = k
   ·subst e; lia
   ·exact e2 i (by lia)
  ·intro h
   show top t p k * 257 + dg t (p + k) = top t q k * 257 + dg t (q + k)
   rw [ih.mpr fun i hi => h i (by exact Nat.lt_succ_of_lt ‹_›),h k (by exact Nat.lt_succ_self _)]
theorem top_lt (hb : ∀ o ∈ t, o < 256) {k : Nat} (h1 : ∀ i, i < k → dg t (p + i) = dg t (q + i)) (h2 : dg t (p + k) < dg t (q + k)) : ∀ m, top t p (k + 1 + m) < top t q (k + 1 + m)
 | 0 => by
  show top t p k * 257 + dg t (p + k) < top t q k * 257 + dg t (q + k)
  rw [(top_eq hb k).mpr h1]; lia
 | m + 1 => by
  have ih := top_lt hb h1 h2 m
  have h3 := dg_le hb (p + (k + 1 + m))
  show top t p (k + 1 + m) * 257 + dg t (p + (k + 1 + m)) < top t q (k + 1 + m) * 257 + dg t (q + (k + 1 + m))
  lia
theorem top_lt_iff (hb : ∀ o ∈ t, o < 256) (n : p ≠ q) (hp : p < t.length) (hq : q < t.length) : top t p t.length < top t q t.length → Lt t p q := by
 intro h
 rcases Lt_or n hp hq with h1 | h1
 ·exact h1
 ·exfalso
  have h2 := (Lt_iff n.symm hq hp).mp h1
  have hl := (L_le (t := t) (p := q) (q := p))
  have := top_lt hb (fun i hi => L_eq hi) h2 (t.length - (L t q p + 1))
  rw [show L t q p + 1 + (t.length - (L t q p + 1)) = t.length by lia] at this
  lia
theorem top_ne (hb : ∀ o ∈ t, o < 256) (n : p ≠ q) (hp : p < t.length) (hq : q < t.length) : top t p t.length ≠ top t q t.length := by
 intro h
 have hl := (L_le (t := t) (p := p) (q := q))
 exact L_ne n hp hq ((top_eq hb _).mp h _ (by lia))
theorem top_rec : ∀ n, top t p (n + 1) = dg t p * 257 ^ n + top t (p + 1) n
 | 0 => by simp [top]
 | n + 1 => by
  show top t p (n + 1) * 257 + dg t (p + (n + 1)) = _
  rw [top_rec n]
  show _ = dg t p * 257 ^ (n + 1) + (top t (p + 1) n * 257 + dg t (p + 1 + n))
  rw [Nat.pow_succ,Nat.add_mul,show p + (n + 1) = p + 1 + n by lia,Nat.mul_assoc]
  lia
theorem top_end : ∀ n, top t t.length n = 0
 | 0 => rfl
 | n + 1 => by
  show top t t.length n * 257 + dg t (t.length + n) = 0
  rw [top_end n,dg_out (by exact Nat.le_add_right _ _)]
theorem top_small (hb : ∀ o ∈ t, o < 256) : ∀ n, top t p n < 257 ^ n
 | 0 => by simp [top]
 | n + 1 => by
  have h := top_small hb n
  have h3 := dg_le hb (p + n)
  show top t p n * 257 + dg t (p + n) < 257 ^ n * 257
  lia
structure Ordd (t : List Nat) (os : List Nat) : Prop where
 perm : os.Perm (List.range t.length)
 lt : os.Pairwise (Lt t)
theorem Ordd.mem {os : List Nat} (O : Ordd t os) {p : Nat} : p ∈ os ↔ p < t.length := by rw [O.perm.mem_iff,List.mem_range]
theorem Ordd.len {os : List Nat} (O : Ordd t os) : os.length = t.length := by rw [O.perm.length_eq,List.length_range]
theorem Ordd.nodup {os : List Nat} (O : Ordd t os) : os.Nodup := O.perm.nodup_iff.mpr List.nodup_range
noncomputable def nearF (t : List Nat) (os : List Nat) : List Nat := (List.range (os.length - 1)).map fun r => L t (os.getD r 0) (os.getD (r + 1) 0)
theorem ordd_of {ys : List (Nat × Nat)} (hb : ∀ o ∈ t, o < 256) (hp : ys.Perm ((List.range t.length).map fun p => (top t p t.length, p))) (hs : ys.Pairwise fun a b => a.1 < b.1 ∨ (a.1 = b.1 ∧ a.2 ≤ b.2)) :
  Ordd t (ys.map (·.2)) ∧ ys = (ys.map (·.2)).map fun p => (top t p t.length, p) := by
 have hm : ∀ y ∈ ys, y.2 < t.length ∧ y = (top t y.2 t.length, y.2) := fun y hy => by
  have := hp.mem_iff.mp hy
  rw [List.mem_map] at this
  obtain ⟨p, h1, rfl⟩ := this
  exact ⟨List.mem_range.mp h1, rfl⟩
 have hperm : (ys.map (·.2)).Perm (List.range t.length) := by
  have := hp.map (·.2)
  simpa [List.map_map, Function.comp_def] using this
 refine ⟨⟨hperm, ?_⟩, ?_⟩
 ·have nd : (ys.map (·.2)).Nodup := hperm.nodup_iff.mpr List.nodup_range
  rw [List.pairwise_map]
  rw [List.Nodup,List.pairwise_map] at nd
  refine (hs.and nd).imp_of_mem ?_
  rintro a b ha hb' ⟨h1, h2⟩
  obtain ⟨a1, a2⟩ := hm a ha
  obtain ⟨b1, b2⟩ := hm b hb'
  have e1 : a.1 = top t a.2 t.length := by rw [a2]
  have e2 : b.1 = top t b.2 t.length := by rw [b2]
  have := top_ne hb h2 a1 b1
  exact top_lt_iff hb h2 a1 b1 (by lia)
 ·rw [List.map_map]
  have : ∀ y ∈ ys, ((fun p => (top t p t.length, p)) ∘ (·.2)) y = y := fun y hy => (hm y hy).2.symm
  rw [List.map_congr_left this,List.map_id']
end
end Mine
end

section
open PySem PySem.Calls PyProof.Rows PySem.W
set_option backward.defeqAttrib.useBackward true
set_option maxRecDepth 20000
namespace Mine
theorem fold_map {α : Type} {F : V → (List V → AHeap → Prop) → List V → AHeap → Prop} {Q : List V → AHeap → Prop} {σ : AHeap} (P : α → Prop) (g : α → V) (h : α → List V) (N : Nat)
  (step : ∀ x (acc : List V) K, P x → acc.length + (h x).length ≤ N → K (acc ++ h x) σ → F (g x) K acc σ) :
  ∀ (xs : List α) (acc : List V), (∀ x ∈ xs, P x) → acc.length + (xs.flatMap h).length ≤ N → Q (acc ++ xs.flatMap h) σ → (xs.map g).foldr F Q acc σ
 | [], acc, _, _, hQ => by simpa using hQ
 | x :: xs, acc, hP, hN, hQ => by
  rw [List.flatMap_cons,List.length_append] at hN
  refine step x acc _ (hP x List.mem_cons_self) (by lia) ?_
  refine fold_map P g h N step xs (acc ++ h x) (fun y hy => hP y (List.mem_cons_of_mem _ hy)) (by rw [List.length_append]; lia) ?_
  rw [List.append_assoc]
  exact hQ
theorem flat1 {α β : Type} (f : α → β) (xs : List α) : xs.flatMap (fun x => [f x]) = xs.map f := by
 induction xs with
 | nil => rfl
 | cons a r ih => simp [List.flatMap_cons,ih]
section
variable {X : Cx} {k : Nat}
variable {σ : AHeap} {b : Addr} {t : List Nat} {Q : V → AHeap → Prop}
noncomputable def intV (n : Nat) : V := .int n
theorem ipow_nat (a b : Nat) : ipow (a : Int) ((b : Nat) : Int) = ((a ^ b : Nat) : Int) := by
 unfold ipow; simp
theorem numbers_c (F : Fns X) (hb : ∀ o ∈ t, o < 256) (h0 : 0 < t.length) (hn : t.length ≤ 20) : WC X (k + 1) (.ref 343) [.bytes t] σ (fun v σ' => v = .list ((List.range t.length).map fun p => intV (top t p t.length)) ∧ Ext σ σ') := by
 refine wc_of F F.law_numbers rfl ?_
 repeat (first | simp only [we_v,we_int,we_bin,we_tup,we_nlst,we_len,wz_nil,wz_cons,ws_asg,wl_cons,gY,bI,oS,oP,nY,agT,setAll,retQ,initR,mkList,qa,qc,qd,qh,qg,qj,qi,Nat.reduceSub,Nat.reduceAdd,true_and,if_true,Nat.reduceEqDiff,Nat.reduceLeDiff,qe,qf,List.length_map,f_law_numbers,f_law_numbers_b] | ((with_reducible apply tail);case e=>rfl))
 intro a ha
 repeat (first | simp only [we_v,we_int,we_bool,we_str,we_none,we_neg,we_nowhere,we_bin,we_cmp,we_cmp2,we_isnone,we_and,we_or,we_not,we_ite,we_idx,we_last,we_slice,we_rev,we_attr,we_layers,we_treesize,we_tup,we_lst,we_nlst,we_ndict,we_frz,we_callf,we_meth,we_cmeth,we_len,we_min2,we_max2,we_max1,we_bytes,we_tuple,we_sorted,we_listr,we_lappend,we_dget,we_lindex,we_nrep,we_ncat,we_comp,wz_nil,wz_cons,wi_e,wi_r1,wi_r2,wi_r3,ws_asg,ws_setattr,ws_setidx,ws_aug,ws_ife,ws_forr,ws_wh,ws_ret,ws_retn,ws_brk,ws_pass,ws_raise,ws_expr,wl_nil,wl_cons,wl_fz,gN,gB,gI,gS,gY,gT,gL,gR,tB,cI,cS,cEL,cER,cNL,cNT,thL,thT,thR,pLt,pLe,pGt,pGe,pEq,pNe,bI,bL,oA,oS,oM,oD,oR,oP,aR,kR,mR,lsL,nY,nT,nL,nR,iY,iT,iL,iR,laL,laR,b00,b10,b01,b11,sY,sL,sR,rY,rR,dR,iD,apR,fzR,saR,siR,fT,fL,fY,lL,lR,rg1,rg2,rg3,insL,diL,inL,reL,tuL,liL,byB,byL,byR,isn,isi,agV,agT,agL,setAll,putF,retQ,initR,mkList,qa,qb,qc,qd,List.set_nil,qh,qg,qj,qi,Nat.reduceSub,Nat.reduceAdd,Option.some.injEq,exists_eq_left',ne_eq,reduceCtorEq,not_false_eq_true,true_and,and_true,if_true,if_false,Bool.true_eq_false,Bool.false_eq_true,Option.isSome_some,Nat.reduceBEq,List.lookup_nil,lookup_hit,lookup_miss,bne_self_eq_false,Bool.not_true,Bool.not_false,decide_true,decide_false,ite_true,ite_false,reduceIte,Nat.reduceEqDiff,Nat.reduceLT,Nat.reduceLeDiff,qe,qf,decide_eq_true_eq,Bool.not_eq_true',decide_eq_false_iff_not,Int.toNat_natCast,List.length_map,Bool.and_eq_true,Bool.or_eq_true,Bool.not_eq_eq_eq_not,Bool.not_eq_true,Bool.not_eq_false] | ((with_reducible apply tail);case e=>rfl))
 have e1 : (t.length : Int) - 1 = ((t.length - 1 : Nat) : Int) := by exact (Int.natCast_sub ‹_›).symm
 rw [e1]
 have ep : ipow 257 ((t.length - 1 : Nat) : Int) = ((257 ^ (t.length - 1) : Nat) : Int) := ipow_nat 257 _
 rw [ep]
 have eb : Builtin.Int.intBits 257 = 9 := by decide +kernel
 rw [eb]
 refine ⟨by exact Int.natCast_nonneg _, by lia, ?_⟩
 refine forP_inv (fun items ρ σ' => ∃ j z, j ≤ t.length ∧ items = ((t.take j).reverse).map (fun (n : Nat) => V.int (n : Int)) ∧
   ρ = [.bytes t, .ref a, .int (top t j t.length : Nat), .int (257 ^ (t.length - 1) : Nat), z] ∧ σ' = upd σ a (.list ((List.range (t.length - j)).map fun i => intV (top t (t.length - 1 - i) t.length)))) ?_ ?_ _ _ _ ⟨t.length, .undef, Nat.le_refl _, ?_, ?_, ?_⟩
 ·rintro x r ρ σ' K ⟨j, z, hj, hi, rfl, rfl⟩ hK _ _
  cases j with
  | zero => simp at hi
  | succ j =>
   have hj' : j < t.length := by assumption
   have ht : t[j]? = some t[j] := List.getElem?_eq_getElem hj'
   rw [List.take_add_one,ht] at hi
   simp only [Option.toList_some,List.reverse_append,List.reverse_cons,List.reverse_nil,qg,qh,List.map_cons,List.cons.injEq] at hi
   obtain ⟨rfl, rfl⟩ := hi
   have hx := hb t[j] (List.getElem_mem hj')
   repeat (first | simp only [we_v,we_int,we_bin,ws_asg,wl_cons,gI,bI,oA,oM,oD,agV,qa,qb,qc,qd,ne_eq,f_law_numbers_b1] | ((with_reducible apply tail);case e=>rfl))
   refine ⟨IntMulOk.of_left (bits_small (by lia)), by decide, dgp_small (by decide), ?_⟩
   repeat (first | simp only [we_v,we_lappend,ws_expr,wl_nil,wl_cons,gI,gR,lsL,apR,lR,qa,qb,true_and,Option.isSome_some,List.length_map,upd_self,upd_upd] | ((with_reducible apply tail);case e=>rfl))
   refine ⟨by simp; lia, ?_⟩
   refine hK _ _ ⟨j, .int (t[j] : Nat), by exact Nat.le_of_lt ‹_›, rfl, ?_, ?_⟩
   ·have hd : dg t j = t[j] + 1 := dg_some ht
    have e2 : ((t[j] : Nat) + 1 : Int) * ((257 ^ (t.length - 1) : Nat) : Int) + ((top t (j + 1) t.length : Nat) : Int).fdiv 257 = ((top t j t.length : Nat) : Int) := by
     have e3 : ((top t (j + 1) t.length : Nat) : Int).fdiv 257 = ((top t (j + 1) t.length / 257 : Nat) : Int) := by
      rw [Int.fdiv_eq_ediv_of_nonneg _ (by exact Int.natCast_nonneg _)]; rfl
     obtain ⟨m, hm⟩ : ∃ m, t.length = m + 1 := ⟨t.length - 1, by exact (Nat.sub_add_cancel ‹_›).symm⟩
     rw [e3]
     rw [hm]
     rw [top_div hb,top_rec,hd]
     simp only [Nat.add_sub_cancel]
     push_cast
     rfl
    rw [e2]
   ·congr 2
    rw [show t.length - j = (t.length - (j + 1)) + 1 by lia,List.range_succ,List.map_append]
    congr 1
    simp only [List.map_cons,List.map_nil,List.cons.injEq,and_true]
    rw [show t.length - 1 - (t.length - (j + 1)) = j by lia]
    have hd : dg t j = t[j] + 1 := dg_some ht
    unfold intV
    have e3 : ((top t (j + 1) t.length : Nat) : Int).fdiv 257 = ((top t (j + 1) t.length / 257 : Nat) : Int) := by
     rw [Int.fdiv_eq_ediv_of_nonneg _ (by lia)]; rfl
    congr 1
    obtain ⟨m, hm⟩ : ∃ m, t.length = m + 1 := ⟨t.length - 1, by lia⟩
    rw [e3]
    rw [hm]
    rw [top_div hb,top_rec,hd]
    simp only [Nat.add_sub_cancel]
    push_cast
    rfl
 ·rintro ρ σ' ⟨j, z, hj, hi, rfl, rfl⟩
  have hj0 : j = 0 := by
   have := congrArg List.length hi
   simp at this
   lia
  subst hj0
  repeat (first | simp only [we_v,we_rev,ws_ret,wl_nil,wl_cons,gR,lsL,rR,retQ,qa,qb,reduceCtorEq,upd_self] | ((with_reducible apply tail);case e=>rfl))
  refine ⟨?_, .upd ha⟩
  congr 1
  apply List.ext_getElem
  ·simp
  ·intro i h1 h2
   simp at h1 h2 ⊢
   congr 2
   lia
 ·rw [List.take_length]
 ·rw [top_end]; rfl
 ·simp
theorem common_c (F : Fns X) (hb : ∀ o ∈ t, o < 256) {p q : Nat} (hp : p < t.length) (hq : q < t.length) (n : p ≠ q) (hn : t.length ≤ 20) (hQ : Q (.int (L t p q)) σ) :
  WC X (k + 1) (.ref 350) [.int (top t p t.length), .int (top t q t.length), .int t.length] σ Q := by
 refine wc_of F F.law_common rfl ?_
 repeat (first | simp only [we_int,ws_asg,ws_wh,wl_cons,agV,retQ,initR,qc,qd,qh,qg,qj,qi,Nat.reduceSub,f_law_common,f_law_common_b] | ((with_reducible apply tail);case e=>rfl))
 have hL := (L_le (t := t) (p := p) (q := q)).1
 have hL2 := (L_le (t := t) (p := p) (q := q)).2
 refine ⟨L t p q + 1, whileP_inv (fun m ρ σ' => ∃ c : Nat, c ≤ L t p q ∧ ρ = [.int (top t p t.length), .int (top t q t.length), .int t.length, .int c] ∧ m = L t p q - c ∧ σ' = σ) ?_ _ (L t p q) _ _ (by exact Nat.lt_succ_self _) ⟨0, by exact Nat.zero_le _, rfl, by rfl, rfl⟩⟩
 rintro m ρ σ' K ⟨c, hc, rfl, rfl, rfl⟩ hK _ _
 repeat (first | simp only [we_v,we_int,we_bin,we_cmp,gI,tB,cI,pEq,bI,oS,oD,oP,qa,qb,ne_eq,decide_eq_true_eq,f_law_common_c1] | ((with_reducible apply tail);case e=>rfl))
 have hcn : c < t.length := by lia
 have e1 := isub1 hcn
 rw [e1]
 have ep : ipow 257 ((t.length - (c + 1) : Nat) : Int) = ((257 ^ (t.length - (c + 1)) : Nat) : Int) := ipow_nat 257 _
 rw [ep]
 have eb : Builtin.Int.intBits 257 = 9 := by decide +kernel
 rw [eb]
 have hpos : 0 < 257 ^ (t.length - (c + 1)) := Nat.pow_pos (by exact Nat.succ_pos _)
 have hsm : ((257 ^ (t.length - (c + 1)) : Nat) : Int).natAbs < 2 ^ 200 := by
  rw [Int.natAbs_natCast]
  exact Nat.lt_of_le_of_lt (Nat.pow_le_pow_right (by lia) (Nat.le_trans (Nat.sub_le _ _) hn)) (by decide +kernel)
 refine ⟨by lia, by lia, by lia, dgp_small hsm, by lia, by lia, by lia, dgp_small hsm, ?_⟩
 have ed : ∀ r, ((top t r t.length : Nat) : Int).fdiv ((257 ^ (t.length - (c + 1)) : Nat) : Int) = ((top t r (c + 1) : Nat) : Int) := fun r => by
  rw [Int.fdiv_eq_ediv_of_nonneg _ (by exact Int.natCast_nonneg _)]
  have := top_divs (p := r) hb (c + 1) (t.length - (c + 1))
  rw [Nat.add_sub_cancel' hcn] at this
  rw [← this]; rfl
 rw [ed,ed]
 by_cases h : c < L t p q
 ·refine pos ?_ ?_
  ·congr 1
   exact (top_eq hb _).mpr fun i hi => L_eq (by exact Nat.le_trans ‹_› ‹_›)
  ·repeat (first | simp only [we_v,we_int,we_bin,ws_asg,wl_nil,wl_cons,gI,bI,oA,agV,qa,qb,qc,qd,f_law_common_b2] | ((with_reducible apply tail);case e=>rfl))
   exact hK (L t p q - (c + 1)) _ _ (Nat.sub_lt_sub_left h (Nat.lt_succ_self _)) ⟨c + 1, by lia, rfl, rfl, rfl⟩
 ·refine neg ?_ ?_
  ·intro e
   have e' : top t p (c + 1) = top t q (c + 1) := by lia
   have := (top_eq hb _).mp e' c (by exact Nat.lt_succ_self _)
   rw [show c = L t p q by lia] at this
   exact L_ne n hp hq this
  ·repeat (first | simp only [we_v,ws_ret,wl_nil,wl_cons,gI,retQ,qa,qb] | ((with_reducible apply tail);case e=>rfl))
   rw [show c = L t p q by lia]
   exact hQ
noncomputable def ordV (os : List Nat) : V := .list (os.map intV)
theorem intsOf_int : ∀ xs : List Int, intsOf (xs.map .int) = some xs
 | [] => rfl
 | a :: r => by rw [List.map_cons,intsOf,intsOf_int r]; rfl
theorem pairsOf_pair : ∀ xs : List (Int × Int), pairsOf (xs.map pairV) = some xs
 | [] => rfl
 | a :: r => by
  show pairsOf (.tup [.int a.1, .int a.2] :: r.map pairV) = _
  rw [pairsOf,pairsOf_pair r]; rfl
theorem intsOf_pair {xs : List (Int × Int)} (h : xs ≠ []) : intsOf (xs.map pairV) = none := by
 cases xs with
 | nil => exact absurd rfl h
 | cons a r => rfl
theorem order_c (F : Fns X) (hb : ∀ o ∈ t, o < 256) (h0 : 2 ≤ t.length) (hn : t.length ≤ 20) :
  WC X (k + 2) (.ref 355) [.bytes t] σ (fun v σ' => (∃ os, Ordd t os ∧ v = .tup [ordV os, .list ((nearF t os).map intV)]) ∧ Ext σ σ') := by
 refine wc_of F F.law_order rfl ?_
 repeat (first | simp only [we_v,we_tup,we_callf,we_len,wz_nil,wz_cons,ws_asg,wl_cons,gY,nY,agT,setAll,retQ,initR,qa,qc,qd,qh,qg,qj,qi,Nat.reduceSub,Nat.reduceAdd,true_and,Nat.reduceEqDiff,Nat.reduceLeDiff,qe,qf,List.length_map,f_law_order,f_law_order_b] | ((with_reducible apply tail);case e=>rfl))
 refine (numbers_c (k := k) F hb (by exact Nat.le_of_lt ‹_›) hn).mono fun v σ1 ⟨ev, E1⟩ => ?_
 subst ev
 repeat (first | simp only [we_v,we_bool,we_idx,we_tup,we_sorted,we_comp,wz_nil,wz_cons,wi_e,wi_r1,ws_asg,wl_cons,gI,gL,tB,rg1,agV,retQ,mkList,qa,qb,qc,qd,true_and,if_true,if_false,Bool.false_eq_true,Nat.reduceLeDiff,qe,qf,Int.toNat_natCast,wpG,clr,Gs.slots,Tg.slots,Option.getD_some,List.append_nil,List.foldl_cons,List.foldl_nil,small] | ((with_reducible apply tail);case e=>rfl))
 refine ⟨by lia, ?_⟩
 refine fold_map (fun i => i < t.length) (fun (i : Nat) => V.int (i : Int)) (fun i => [pairV ((top t i t.length : Nat), (i : Nat))]) 900 ?_ _ _ (fun i hi => List.mem_range.mp hi |> fun h => by assumption) ?_ ?_
 ·intro i acc K hi hN hK
  simp only [List.length_singleton] at hN
  repeat (first | simp only [gI,iL,Int.toNat_natCast] | ((with_reducible apply tail);case e=>rfl))
  refine ⟨by lia, by exact Int.natCast_nonneg _, intV (top t i t.length), by simp [hi], ?_⟩
  exact hK
 ·rw [flat1]; simp; lia
 rw [flat1,qg]
 have hx : (List.range t.length).map (fun i => pairV ((top t i t.length : Nat), (i : Nat))) = ((List.range t.length).map fun i => (((top t i t.length : Nat) : Int), ((i : Nat) : Int))).map pairV := by simp
 rw [hx]
 repeat (first | simp only [fL,lL,liL,List.length_map,sortP,pairsOf_pair] | ((with_reducible apply tail);case e=>rfl))
 have hne : ((List.range t.length).map fun i => (((top t i t.length : Nat) : Int), ((i : Nat) : Int))) ≠ [] := by
  intro e
  have := congrArg List.length e
  rw [List.length_map,List.length_range] at this
  simp only [qf] at this
  lia
 rw [intsOf_pair hne]
 refine ⟨by simp; lia, by simp; lia, ?_⟩
 repeat (first | simp only [] | ((with_reducible apply tail);case e=>rfl))
 refine ⟨by simp; lia, ?_, ?_⟩
 ·rw [List.Nodup,List.pairwise_map]
  refine List.Pairwise.imp ?_ (List.nodup_range (n := t.length))
  intro a b hab e
  have := (Prod.mk.inj e).2
  exact hab (by lia)
 intro y hy1 hy2
 have hnn : ∀ e ∈ y, e = (((e.1.toNat : Nat) : Int), ((e.2.toNat : Nat) : Int)) := fun e he => by
  have := hy1.mem_iff.mp he
  rw [List.mem_map] at this
  obtain ⟨i, _, rfl⟩ := this
  simp
 generalize hys : y.map (fun e => (e.1.toNat, e.2.toNat)) = ys
 have hyy : y = ys.map fun a => (((a.1 : Nat) : Int), ((a.2 : Nat) : Int)) := by
  rw [← hys,List.map_map]
  conv => lhs; rw [← List.map_id' y]
  exact List.map_congr_left fun e he => hnn e he
 have hp : ys.Perm ((List.range t.length).map fun p => (top t p t.length, p)) := by
  rw [← hys]
  have := hy1.map (fun e : Int × Int => (e.1.toNat, e.2.toNat))
  simpa [List.map_map, Function.comp_def] using this
 have hs : ys.Pairwise fun a b => a.1 < b.1 ∨ (a.1 = b.1 ∧ a.2 ≤ b.2) := by
  rw [hyy,List.pairwise_map] at hy2
  refine hy2.imp fun {a b} h => ?_
  unfold pairLe at h
  simp only at h
  lia
 obtain ⟨O, hO⟩ := ordd_of hb hp hs
 generalize ho : ys.map (·.2) = os at O hO
 subst hyy
 have hml := O.len
 repeat (first | simp only [we_v,we_int,we_bool,we_str,we_none,we_neg,we_nowhere,we_bin,we_cmp,we_cmp2,we_isnone,we_and,we_or,we_not,we_ite,we_idx,we_last,we_slice,we_rev,we_attr,we_layers,we_treesize,we_tup,we_lst,we_nlst,we_ndict,we_frz,we_callf,we_meth,we_cmeth,we_len,we_min2,we_max2,we_max1,we_bytes,we_tuple,we_sorted,we_listr,we_lappend,we_dget,we_lindex,we_nrep,we_ncat,we_comp,wz_nil,wz_cons,wi_e,wi_r1,wi_r2,wi_r3,ws_asg,ws_setattr,ws_setidx,ws_aug,ws_ife,ws_forr,ws_wh,ws_ret,ws_retn,ws_brk,ws_pass,ws_raise,ws_expr,wl_nil,wl_cons,wl_fz,gN,gB,gI,gS,gY,gT,gL,gR,tB,cI,cS,cEL,cER,cNL,cNT,thL,thT,thR,pLt,pLe,pGt,pGe,pEq,pNe,bI,bL,oA,oS,oM,oD,oR,oP,aR,kR,mR,lsL,nY,nT,nL,nR,iY,iT,iL,iR,laL,laR,b00,b10,b01,b11,sY,sL,sR,rY,rR,dR,iD,apR,fzR,saR,siR,fT,fL,fY,lL,lR,rg1,rg2,rg3,insL,diL,inL,reL,tuL,liL,byB,byL,byR,isn,isi,agV,agT,agL,setAll,putF,retQ,initR,mkList,qa,qb,qc,qd,List.set_nil,qh,qg,qj,qi,Nat.reduceSub,Nat.reduceAdd,Option.some.injEq,exists_eq_left',ne_eq,reduceCtorEq,not_false_eq_true,true_and,and_true,if_true,if_false,Bool.true_eq_false,Bool.false_eq_true,Option.isSome_some,Nat.reduceBEq,List.lookup_nil,lookup_hit,lookup_miss,bne_self_eq_false,Bool.not_true,Bool.not_false,decide_true,decide_false,ite_true,ite_false,reduceIte,Nat.reduceEqDiff,Nat.reduceLT,Nat.reduceLeDiff,qe,qf,decide_eq_true_eq,Bool.not_eq_true',decide_eq_false_iff_not,Int.toNat_natCast,List.length_map,Bool.and_eq_true,Bool.or_eq_true,Bool.not_eq_eq_eq_not,Bool.not_eq_true,Bool.not_eq_false] | ((with_reducible apply tail);case e=>rfl))
 rw [hO,List.map_map,List.map_map]
 change List.foldr (β := List V → AHeap → Prop) _ _ (os.map fun i => V.tup [.int (top t i t.length : Nat), .int (i : Nat)]) [] σ1
 refine fold_map (fun i => i < t.length) (fun i => V.tup [.int (top t i t.length : Nat), .int (i : Nat)]) (fun i => [intV i]) 900 ?_ _ _ (fun i hi => O.mem.mp hi) ?_ ?_
 ·intro i acc K hi hN hK
  simp only [List.length_singleton] at hN
  repeat (first | simp only [gI,agT,setAll,qa,qb,qc,qd,Nat.reduceAdd,true_and,qe,qf] | ((with_reducible apply tail);case e=>rfl))
  exact ⟨by lia, hK⟩
 ·rw [flat1]; simp; lia
 rw [flat1,qg]
 refine ⟨by simp; lia, ?_⟩
 repeat (first | simp only [we_v,we_int,we_bool,we_bin,we_idx,we_tup,we_callf,we_comp,wz_nil,wz_cons,wi_r1,ws_ret,wl_nil,wl_cons,gI,gL,tB,bI,oS,rg1,agV,retQ,mkList,qa,qb,qc,qd,reduceCtorEq,true_and,if_true,if_false,Bool.false_eq_true,Nat.reduceLeDiff,qe,qf,wpG,clr,Gs.slots,Tg.slots,Option.getD_some,List.append_nil,List.foldl_cons,List.foldl_nil,small] | ((with_reducible apply tail);case e=>rfl))
 refine ⟨by lia, ?_⟩
 have e2 : ((t.length : Int) - 1).toNat = t.length - 1 := by lia
 rw [e2]
 refine fold_map (fun i => i + 1 < t.length) (fun (i : Nat) => V.int (i : Int)) (fun i => [intV (L t (os.getD i 0) (os.getD (i + 1) 0))]) 900 ?_ _ _ (fun i hi => by rw [List.mem_range] at hi; lia) ?_ ?_
 ·intro i acc K hi hN hK
  simp only [List.length_singleton] at hN
  have g : ∀ j, j < t.length → (os.map fun i => intV i)[j]? = some (intV (os.getD j 0)) ∧ os.getD j 0 < t.length := fun j hj => by
   have hj' : j < os.length := by lia
   have e : os[j]? = some os[j] := List.getElem?_eq_getElem hj'
   rw [List.getElem?_map,e,List.getD_eq_getElem?_getD,e]
   exact ⟨rfl, O.mem.mp (List.getElem_mem hj')⟩
  have g2 : ∀ j, j < t.length → ((List.range t.length).map fun p => intV (top t p t.length))[j]? = some (intV (top t j t.length)) := fun j hj => by simp [hj]
  have nd : os.getD i 0 ≠ os.getD (i + 1) 0 := by
   have hn := O.nodup
   rw [List.getD_eq_getElem?_getD,List.getD_eq_getElem?_getD,List.getElem?_eq_getElem (by lia),List.getElem?_eq_getElem (by lia)]
   exact List.pairwise_iff_getElem.mp hn i (i + 1) (by lia) (by lia) (by exact Nat.lt_succ_self _)
  repeat (first | simp only [gI,bI,oA,iL,Int.toNat_natCast] | ((with_reducible apply tail);case e=>rfl))
  refine ⟨by lia, by exact Int.natCast_nonneg _, _, (g i (by exact Nat.le_of_lt ‹_›)).1, ?_⟩
  repeat (first | simp only [iL,Int.toNat_natCast,intV] | ((with_reducible apply tail);case e=>rfl))
  refine ⟨by exact Int.natCast_nonneg _, _, g2 _ (g i (by exact Nat.le_of_lt ‹_›)).2, ?_⟩
  repeat (first | simp only [intV] | ((with_reducible apply tail);case e=>rfl))
  refine ⟨by exact Int.natCast_nonneg _, _, by rw [show ((i : Int) + 1).toNat = i + 1 by lia]; exact (g (i + 1) hi).1, ?_⟩
  repeat (first | simp only [iL,Int.toNat_natCast,intV] | ((with_reducible apply tail);case e=>rfl))
  refine ⟨by exact Int.natCast_nonneg _, _, g2 _ (g (i + 1) hi).2, ?_⟩
  exact common_c F hb (g i (by exact Nat.le_of_lt ‹_›)).2 (g (i + 1) hi).2 nd hn hK
 ·rw [flat1]; simp; lia
 rw [flat1,qg]
 try simp only [List.length_map]
 refine ⟨by simp; lia, ⟨os, O, ?_⟩, E1⟩
 unfold ordV nearF
 rw [hml,List.map_map]
 rfl
end
end Mine
end

section
open PySem PySem.Calls PyProof.Rows PySem.W
set_option backward.defeqAttrib.useBackward true
set_option maxRecDepth 20000
namespace Mine
section
variable {t : List Nat} {p w : Nat}
noncomputable def nearP (p w o : Nat) : Bool := decide (o < p ∧ p - o ≤ w)
noncomputable def sideV (t : List Nat) (p w : Nat) (l : List Nat) : V := .list ((l.filter (nearP p w)).map fun o => pairN (L t p o, o))
noncomputable def Walk (t : List Nat) (p : Nat) (N os : List Nat) (row : Nat) : Nat → List (Nat × Nat) → Prop
 | _, [] => True
 | c, (g, o) :: r => (∃ e, N[g]? = some e ∧ L t p o = min c e) ∧ (if g < row then os[g]? = some o else os[g + 1]? = some o) ∧ o ≠ p ∧ Walk t p N os row (L t p o) r
theorem nearF_get {os : List Nat} {j : Nat} (h : j + 1 < os.length) : (nearF t os)[j]? = some (L t (os.getD j 0) (os.getD (j + 1) 0)) := by
 unfold nearF
 rw [List.getElem?_map,List.getElem?_range (by lia)]
 rfl
theorem getD_get {os : List Nat} {j : Nat} (h : j < os.length) : os[j]? = some (os.getD j 0) := by
 rw [List.getD_eq_getElem?_getD,List.getElem?_eq_getElem h]; rfl
theorem Ordd.lt_get {os : List Nat} (O : Ordd t os) {i j : Nat} (h : i < j) (hj : j < os.length) : Lt t (os.getD i 0) (os.getD j 0) := by
 have := List.pairwise_iff_getElem.mp O.lt i j (by exact Nat.lt_trans ‹_› ‹_›) hj h
 rw [List.getD_eq_getElem?_getD,List.getD_eq_getElem?_getD,List.getElem?_eq_getElem hj,List.getElem?_eq_getElem (show i < os.length by lia)]
 exact this
theorem Ordd.get_lt {os : List Nat} (O : Ordd t os) {j : Nat} (hj : j < os.length) : os.getD j 0 < t.length := by
 rw [List.getD_eq_getElem?_getD,List.getElem?_eq_getElem hj]
 exact O.mem.mp (List.getElem_mem hj)
noncomputable def leftL (os : List Nat) (row : Nat) : List (Nat × Nat) := (List.range row).map fun i => (row - 1 - i, os.getD (row - 1 - i) 0)
noncomputable def rightL (os : List Nat) (row n : Nat) : List (Nat × Nat) := (List.range n).map fun i => (row + i, os.getD (row + i + 1) 0)
theorem left_walk {os : List Nat} (O : Ordd t os) {row : Nat} (hr : row < os.length) (hp : os.getD row 0 = p) : ∀ m c, m ≤ row → (m = row → c = t.length) → (m < row → c = L t p (os.getD m 0)) →
  Walk t p (nearF t os) os row c ((List.range m).map fun i => (m - 1 - i, os.getD (m - 1 - i) 0))
 | 0, c, _, _, _ => by simp [Walk]
 | m + 1, c, hm, h1, h2 => by
  rw [List.range_succ_eq_map,List.map_cons,List.map_map]
  have hlen := O.len
  have hlt := O.lt_get (i := m) (j := row) (by assumption) hr
  rw [hp] at hlt
  have hmp := O.get_lt (j := m) (by exact Nat.lt_trans ‹_› ‹_›)
  have hpp : p < t.length := by rw [← hp]; exact O.get_lt hr
  refine ⟨⟨_, by rw [show m + 1 - 1 - 0 = m by lia]; exact nearF_get (by lia), ?_⟩, ?_, ?_, ?_⟩
  ·rw [show m + 1 - 1 - 0 = m by lia]
   rw [L_comm (Lt_ne hlt).symm hpp hmp]
   by_cases e : m + 1 = row
   ·rw [h1 e,e,hp]
    have := (L_le (t := t) (p := os.getD m 0) (q := p)).1
    lia
   ·rw [h2 (by exact Nat.lt_of_le_of_ne ‹_› ‹_›),L_comm ?_ hpp (O.get_lt (by exact Nat.lt_of_le_of_lt ‹_› ‹_›)),Nat.min_comm]
    ·have h3 := O.lt_get (i := m) (j := m + 1) (by exact Nat.lt_succ_self _) (by exact Nat.lt_of_le_of_lt ‹_› ‹_›)
     have h4 := O.lt_get (i := m + 1) (j := row) (by exact Nat.lt_of_le_of_ne ‹_› ‹_›) hr
     rw [hp] at h4
     exact L_between hmp (O.get_lt (by exact Nat.lt_of_le_of_lt ‹_› ‹_›)) hpp h3 h4
    ·have h4 := O.lt_get (i := m + 1) (j := row) (by exact Nat.lt_of_le_of_ne ‹_› ‹_›) hr
     rw [hp] at h4
     exact (Lt_ne h4).symm
  ·rw [if_pos (by assumption)]
   exact getD_get (by lia)
  ·rw [show m + 1 - 1 - 0 = m by lia]; exact Lt_ne hlt
  ·have ih := left_walk O hr hp m (L t p (os.getD (m + 1 - 1 - 0) 0)) (by lia) (by lia) (fun _ => by rw [show m + 1 - 1 - 0 = m by lia])
   have e : (List.range m).map ((fun i => (m + 1 - 1 - i, os.getD (m + 1 - 1 - i) 0)) ∘ Nat.succ) = (List.range m).map fun i => (m - 1 - i, os.getD (m - 1 - i) 0) := by
    apply List.map_congr_left
    intro i _
    simp only [Function.comp,Nat.succ_eq_add_one]
    rw [show m + 1 - 1 - (i + 1) = m - 1 - i by lia]
   rw [e]
   exact ih
theorem right_walk {os : List Nat} (O : Ordd t os) {row : Nat} (hr : row < os.length) (hp : os.getD row 0 = p) : ∀ m j c, row + j + m + 1 = os.length → (j = 0 → c = t.length) → (0 < j → c = L t p (os.getD (row + j) 0)) →
  Walk t p (nearF t os) os row c ((List.range m).map fun i => (row + j + i, os.getD (row + j + i + 1) 0))
 | 0, j, c, _, _, _ => by simp [Walk]
 | m + 1, j, c, hm, h1, h2 => by
  rw [List.range_succ_eq_map,List.map_cons,List.map_map]
  have hlen := O.len
  have hlt := O.lt_get (i := row) (j := row + j + 1) (by lia) (by lia)
  rw [hp] at hlt
  have hmp := O.get_lt (j := row + j + 1) (by lia)
  have hpp : p < t.length := by rw [← hp]; exact O.get_lt hr
  refine ⟨⟨_, by rw [Nat.add_zero]; exact nearF_get (by lia), ?_⟩, ?_, ?_, ?_⟩
  ·rw [Nat.add_zero]
   by_cases e : j = 0
   ·subst e
    simp only [h1 rfl,Nat.add_zero,hp]
    have := (L_le (t := t) (p := p) (q := os.getD (row + 1) 0)).1
    lia
   ·rw [h2 (by exact Nat.pos_of_ne_zero ‹_›)]
    have h3 := O.lt_get (i := row) (j := row + j) (by lia) (by lia)
    have h4 := O.lt_get (i := row + j) (j := row + j + 1) (by exact Nat.lt_succ_self _) (by lia)
    rw [hp] at h3
    exact L_between hpp (O.get_lt (by lia)) hmp h3 h4
  ·rw [if_neg (by lia),Nat.add_zero]
   exact getD_get (by lia)
  ·rw [Nat.add_zero]; exact (Lt_ne hlt).symm
  ·have ih := right_walk O hr hp m (j + 1) (L t p (os.getD (row + j + 0 + 1) 0)) (by lia) (by lia) (fun _ => by rw [show row + (j + 1) = row + j + 0 + 1 by lia])
   have e : (List.range m).map ((fun i => (row + j + i, os.getD (row + j + i + 1) 0)) ∘ Nat.succ) = (List.range m).map fun i => (row + (j + 1) + i, os.getD (row + (j + 1) + i + 1) 0) := by
    apply List.map_congr_left
    intro i _
    simp only [Function.comp,Nat.succ_eq_add_one]
    rw [show row + j + (i + 1) = row + (j + 1) + i by lia]
   rw [e]
   exact ih
end
section
variable {X : Cx} {k : Nat}
variable {σ : AHeap} {b : Addr} {t : List Nat} {Q : V → AHeap → Prop}
theorem sides_in {p w row : Nat} {os N : List Nat} {s : Addr} {gv a : V} {R : Fl → List V → AHeap → Prop} : ∀ (gs : List (Nat × Nat)) (c : Nat) (acc : List V) (z1 z2 : V), Walk t p N os row c gs → acc.length + gs.length ≤ 900 →
  (∀ c z1 z2, R .next [ordV os, .list (N.map intV), .int p, .int w, .int row, a, gv, c, .ref s, z1, z2] (upd σ s (.list (acc ++ (((gs.map (·.2)).filter (nearP p w)).map fun o => pairN (L t p o, o)))))) →
  forP (Tg.v 9) (fun ρ σ Q => wpSs X k f_law_sides_b1 ρ σ Q) R (gs.map fun x => V.int (x.1 : Nat)) [ordV os, .list (N.map intV), .int p, .int w, .int row, a, gv, .int c, .ref s, z1, z2] (upd σ s (.list acc))
 | [], c, acc, z1, z2, _, _, hR => by simpa [forP] using hR _ _ _
 | (g, o) :: gs, c, acc, z1, z2, ⟨⟨e, h1, h2⟩, h3, h4, hw⟩, hlen, hR => by
  simp only [List.map_cons,forP]
  have IH := fun (acc : List V) z1 z2 => sides_in (R := R) (gv := gv) (a := a) (s := s) (w := w) gs (L t p o) acc z1 z2 hw
  generalize hK : forP _ _ R (gs.map _) = K at IH
  simp only [qe] at hlen
  unfold ordV at IH hR ⊢
  repeat (first | simp only [we_v,we_idx,we_min2,ws_asg,wl_cons,gI,gL,iL,inL,agV,qa,qb,qc,qd,Int.toNat_natCast,f_law_sides_b1] | ((with_reducible apply tail);case e=>rfl))
  refine ⟨by exact Int.natCast_nonneg _, _, by rw [List.getElem?_map,h1]; rfl, ?_⟩
  repeat (first | simp only [we_v,we_int,we_bin,we_cmp,we_ite,we_idx,ws_asg,wl_cons,gI,gL,tB,cI,pLt,bI,oA,iL,inL,agV,qa,qb,qc,qd,decide_eq_true_eq,Int.toNat_natCast,intV] | ((with_reducible apply tail);case e=>rfl))
  have em : min (c : Int) (e : Int) = ((L t p o : Nat) : Int) := imin.trans (congrArg Nat.cast ‹L t p o = min c e›.symm)
  rw [em]
  have fin : (if 0 < (p : Int) - (o : Int) then if (p : Int) - (o : Int) ≤ (w : Int) then
     (match upd σ s (AObj.list acc) s with | some (.list l) => some l | x => none).isSome = true ∧ (match upd σ s (AObj.list acc) s with | some (.list l) => l.length < 1000 ∧ K [.list (os.map intV), .list (N.map intV), .int p, .int w, .int row, a, gv, .int (L t p o), .ref s, .int (g : Nat), .int o] (upd (upd σ s (AObj.list acc)) s (.list (l ++ [.tup [.int (L t p o), .int o]]))) | x => False)
     else K [.list (os.map intV), .list (N.map intV), .int p, .int w, .int row, a, gv, .int (L t p o), .ref s, .int (g : Nat), .int o] (upd σ s (AObj.list acc))
    else K [.list (os.map intV), .list (N.map intV), .int p, .int w, .int row, a, gv, .int (L t p o), .ref s, .int (g : Nat), .int o] (upd σ s (AObj.list acc))) := by
   by_cases hn : o < p ∧ p - o ≤ w
   ·refine pos (by lia) (pos (by lia) ?_)
    repeat (first | simp only [true_and,Option.isSome_some,upd_self] | ((with_reducible apply tail);case e=>rfl))
    refine ⟨by lia, ?_⟩
    rw [upd_upd]
    refine IH _ _ _ (by simp; lia) fun c z1 z2 => ?_
    have := hR c z1 z2
    rw [List.map_cons, List.filter_cons_of_pos (by simpa [nearP] using hn)] at this
    simpa [pairN] using this
   ·have : K [.list (os.map intV), .list (N.map intV), .int p, .int w, .int row, a, gv, .int (L t p o), .ref s, .int (g : Nat), .int o] (upd σ s (AObj.list acc)) := by
     refine IH _ _ _ (by exact Nat.le_of_lt ‹_›) fun c z1 z2 => ?_
     have := hR c z1 z2
     rw [List.map_cons, List.filter_cons_of_neg (by simpa [nearP] using hn)] at this
     simpa using this
    split
    ·split
     ·exfalso; lia
     ·exact this
    ·exact this
  simp only [true_and,Option.isSome_some,upd_self] at fin
  by_cases hg : g < row
  ·rw [if_pos hg] at h3
   refine pos (by exact Int.ofNat_lt.mpr ‹_›) ⟨by exact Int.natCast_nonneg _, _, by rw [List.getElem?_map,h3]; rfl, ?_⟩
   repeat (first | simp only [we_v,we_int,we_bin,we_cmp2,we_tup,we_lappend,wz_nil,wz_cons,ws_ife,ws_expr,wl_nil,wl_cons,gI,gR,tB,cI,pLt,pLe,bI,oS,lsL,apR,lR,qa,qb,true_and,if_false,Bool.false_eq_true,Option.isSome_some,Nat.reduceLeDiff,qe,qf,decide_eq_true_eq,intV,upd_self] | ((with_reducible apply tail);case e=>rfl))
   exact fin
  ·rw [if_neg hg] at h3
   refine neg (by exact mt Int.ofNat_lt.mp ‹_›) ⟨by exact Int.natCast_nonneg _, _, by rw [List.getElem?_map,show ((g : Int) + 1).toNat = g + 1 by lia,h3]; rfl, ?_⟩
   repeat (first | simp only [we_v,we_int,we_bin,we_cmp2,we_tup,we_lappend,wz_nil,wz_cons,ws_ife,ws_expr,wl_nil,wl_cons,gI,gR,tB,cI,pLt,pLe,bI,oS,lsL,apR,lR,qa,qb,true_and,if_false,Bool.false_eq_true,Option.isSome_some,Nat.reduceLeDiff,qe,qf,decide_eq_true_eq,intV,upd_self] | ((with_reducible apply tail);case e=>rfl))
   exact fin
theorem idxOf_intV {os : List Nat} {p : Nat} {Q : Int → Prop} (h : p ∈ os) (hQ : ∀ row : Nat, row < os.length → os.getD row 0 = p → Q row) : indexP (.list (os.map intV)) (.int p) σ Q := by
 repeat (first | simp only [lL,inL,liL,indexP] | ((with_reducible apply tail);case e=>rfl))
 have e : os.map intV = (os.map fun (n : Nat) => (n : Int)).map .int := by rw [List.map_map]; rfl
 rw [e,intsOf_int]
 have hm : (p : Int) ∈ os.map fun (n : Nat) => (n : Int) := List.mem_map.mpr ⟨p, h, rfl⟩
 refine ⟨hm, hQ _ (by have := List.idxOf_lt_length_of_mem hm; simpa using this) ?_⟩
 have h1 := List.idxOf_lt_length_of_mem hm
 have h2 := List.getElem_idxOf h1
 rw [List.length_map] at h1
 rw [List.getElem_map] at h2
 rw [List.getD_eq_getElem?_getD,List.getElem?_eq_getElem h1]
 show os[_] = p
 lia
theorem sides_c (F : Fns X) {os : List Nat} (O : Ordd t os) {p w : Nat} (hp : p < t.length) (hn : t.length ≤ 20) :
  WC X (k + 1) (.ref 362) [ordV os, .list ((nearF t os).map intV), .int p, .int w] σ (fun v σ' => (∃ row, row < os.length ∧ os.getD row 0 = p ∧
   v = .list [sideV t p w ((leftL os row).map (·.2)), sideV t p w ((rightL os row (os.length - 1 - row)).map (·.2))]) ∧ Ext σ σ') := by
 refine wc_of F F.law_sides rfl ?_
 have hlen := O.len
 unfold ordV
 repeat (first | simp only [we_v,we_tup,we_nlst,we_lindex,wz_nil,wz_cons,ws_asg,wl_cons,gI,gL,lL,agT,setAll,retQ,initR,mkList,qa,qb,qc,qd,qh,qg,qj,qi,Nat.reduceSub,Nat.reduceAdd,true_and,if_true,Option.isSome_some,Nat.reduceEqDiff,Nat.reduceLeDiff,qe,qf,f_law_sides,f_law_sides_b] | ((with_reducible apply tail);case e=>rfl))
 refine idxOf_intV (O.mem.mpr hp) fun row hr he => ?_
 intro a ha
 have hnl : (nearF t os).length = os.length - 1 := by unfold nearF; simp
 repeat (first | simp only [we_v,we_int,we_neg,we_bin,we_tup,we_lst,we_nlst,we_len,we_listr,wz_nil,wz_cons,wi_e,wi_r2,wi_r3,ws_asg,ws_forr,wl_cons,gI,gL,bI,oS,nL,fL,rg2,rg3,liL,agV,agT,setAll,retQ,mkList,qa,qb,qc,qd,Nat.reduceAdd,true_and,if_true,if_false,Bool.false_eq_true,Nat.reduceEqDiff,Nat.reduceLeDiff,qe,qf,List.length_map,small,forP,f_law_sides_b2] | ((with_reducible apply tail);case e=>rfl))
 have nl : (List.range ((row : Int) - 1 - -1).toNat).length = row := by simp
 have nr : (List.range (((nearF t os).length : Int) - (row : Int)).toNat).length = os.length - 1 - row := by rw [List.length_range,Int.toNat_sub,hnl]
 have hle : os.length ≤ 1000 := by lia
 refine ⟨by lia, by decide, by lia, by lia, by rw [hnl]; exact smallN (Nat.le_trans (Nat.sub_le _ _) hle), by rw [nr]; exact Nat.le_trans (Nat.sub_le _ _) (Nat.le_trans (Nat.sub_le _ _) hle), fun c1 hc1 => ?_⟩
 have eL : (List.range ((row : Int) - 1 - -1).toNat).map (fun (i : Nat) => V.int ((row : Int) - 1 - (i : Int))) = (leftL os row).map fun x => V.int (x.1 : Nat) := by
  unfold leftL
  rw [List.map_map,show ((row : Int) - 1 - -1).toNat = row by lia]
  apply List.map_congr_left
  intro i hi
  rw [List.mem_range] at hi
  simp only [Function.comp]
  congr 1
  rw [Int.natCast_sub (Nat.le_sub_one_of_lt hi),Int.natCast_sub (Nat.zero_lt_of_lt hi)]; rfl
 have eR : (List.range (((nearF t os).length : Int) - (row : Int)).toNat).map (fun (i : Nat) => V.int ((row : Int) + (i : Int))) = (rightL os row (os.length - 1 - row)).map fun x => V.int (x.1 : Nat) := by
  unfold rightL
  rw [List.map_map, show (((nearF t os).length : Int) - (row : Int)).toNat = os.length - 1 - row by rw [Int.toNat_sub,hnl]]
  apply List.map_congr_left
  intro i hi
  simp only [Function.comp]
  congr 1
 rw [eR]
 rw [eL]
 obtain ⟨nc1, hc1'⟩ := upd_none hc1
 have wl := left_walk O hr he row t.length (by exact Nat.le_refl _) (fun _ => rfl) (fun h => by lia)
 have wr := right_walk O hr he (os.length - 1 - row) 0 t.length (by show row + (os.length - 1 - row) + 1 = os.length; rw [Nat.add_sub_cancel' (Nat.le_sub_one_of_lt hr),Nat.sub_add_cancel (Nat.zero_lt_of_lt hr)]) (fun _ => rfl) (fun h => by exact absurd ‹_› (Nat.not_lt_zero _))
 simp only [Nat.add_zero] at wr
 refine sides_in (p := p) (w := w) (row := row) (os := os) (N := nearF t os) (σ := upd σ a (.list [])) (s := c1) (leftL os row) os.length [] _ _ (by rw [hlen]; exact wl) (by simp [leftL]; lia) fun c z1 z2 => ?_
 unfold ordV
 repeat (first | simp only [we_v,we_frz,we_lappend,ws_expr,wl_nil,wl_cons,gL,gR,lsL,nL,apR,fzR,lR,qa,qb,qc,qd,qg,true_and,Option.isSome_some,Nat.reduceLT,qf,List.length_map,upd_self,upd_ne nc1.symm,del_upd hc1,upd_upd] | ((with_reducible apply tail);case e=>rfl))
 intro c2 hc2
 obtain ⟨nc2, hc2'⟩ := upd_none hc2
 refine sides_in (p := p) (w := w) (row := row) (os := os) (N := nearF t os) (s := c2) (rightL os row (os.length - 1 - row)) os.length [] _ _ (by rw [hlen] at wr ⊢; exact wr) (by simp [rightL]; lia) fun c z1 z2 => ?_
 unfold ordV
 repeat (first | simp only [we_v,we_frz,we_lappend,ws_ret,ws_expr,wl_nil,wl_cons,gR,lsL,apR,fzR,lR,retQ,qa,qb,qh,qg,Nat.reduceAdd,reduceCtorEq,true_and,Option.isSome_some,Nat.reduceLT,qe,qf,upd_self,upd_ne nc2.symm,del_upd hc2,upd_upd] | ((with_reducible apply tail);case e=>rfl))
 exact ⟨⟨row, hr, he, rfl⟩, by rw [del_upd ha]; exact .refl⟩
end
end Mine
end

section
open PySem PySem.Calls PyProof.Rows PySem.W
set_option backward.defeqAttrib.useBackward true
set_option maxRecDepth 20000
namespace Mine
section
variable {t : List Nat} {p w lim : Nat}
theorem walk_le {N os : List Nat} {row : Nat} : ∀ {gs : List (Nat × Nat)} {c : Nat}, Walk t p N os row c gs → (∀ x ∈ gs.map (·.2), L t p x ≤ c) ∧ (gs.map (·.2)).Pairwise fun x y => L t p y ≤ L t p x
 | [], c, _ => by simp
 | (g, o) :: r, c, ⟨⟨e, _, h⟩, _, _, hw⟩ => by
  obtain ⟨a, b⟩ := walk_le hw
  simp only [List.map_cons,List.pairwise_cons]
  refine ⟨fun x hx => ?_, a, b⟩
  rcases List.mem_cons.mp hx with rfl | hx
  ·lia
  ·have := a x hx; lia
structure Sides (t : List Nat) (p w : Nat) (l1 l2 : List Nat) : Prop where
 mem : ∀ o, (o ∈ l1 ∨ o ∈ l2) ↔ o ∈ cands p w
 d1 : l1.Pairwise fun x y => L t p y ≤ L t p x
 d2 : l2.Pairwise fun x y => L t p y ≤ L t p x
theorem sides_of {os : List Nat} (O : Ordd t os) (hp : p < t.length) {row : Nat} (hr : row < os.length) (he : os.getD row 0 = p) :
  Sides t p w (((leftL os row).map (·.2)).filter (nearP p w)) (((rightL os row (os.length - 1 - row)).map (·.2)).filter (nearP p w)) := by
 have wl := left_walk O hr he row t.length (by exact Nat.le_refl _) (fun _ => rfl) (fun h => by lia)
 have wr := right_walk O hr he (os.length - 1 - row) 0 t.length (by lia) (fun _ => rfl) (fun h => by exact absurd ‹_› (Nat.not_lt_zero _))
 simp only [Nat.add_zero] at wr
 refine ⟨fun o => ?_, (walk_le wl).2.filter _, (walk_le wr).2.filter _⟩
 rw [cands_mem,List.mem_filter,List.mem_filter]
 have hl := O.len
 have key : (o ∈ (leftL os row).map (·.2) ∨ o ∈ (rightL os row (os.length - 1 - row)).map (·.2)) ↔ ∃ j, j < os.length ∧ j ≠ row ∧ os.getD j 0 = o := by
  unfold leftL rightL
  simp only [List.map_map,List.mem_map,List.mem_range,Function.comp]
  constructor
  ·rintro (⟨i, h1, rfl⟩ | ⟨i, h1, rfl⟩)
   ·exact ⟨row - 1 - i, by lia, by lia, rfl⟩
   ·exact ⟨row + i + 1, by lia, by lia, rfl⟩
  ·rintro ⟨j, h1, h2, rfl⟩
   rcases Nat.lt_or_ge j row with h | h
   ·exact .inl ⟨row - 1 - j, by lia, by rw [show row - 1 - (row - 1 - j) = j by lia]⟩
   ·exact .inr ⟨j - row - 1, by lia, by rw [show row + (j - row - 1) + 1 = j by lia]⟩
 have np : nearP p w o = true ↔ o < p ∧ p - o ≤ w := by simp [nearP]
 rw [np]
 constructor
 ·rintro (⟨_, h⟩ | ⟨_, h⟩) <;> exact h
 ·intro h
  have ho : o ∈ os := O.mem.mpr (by lia)
  obtain ⟨j, hj, e⟩ := List.getElem_of_mem ho
  have hjr : j ≠ row := fun q => by
   subst q
   rw [List.getD_eq_getElem?_getD,List.getElem?_eq_getElem hj,e] at he
   simp at he
   lia
  rcases key.mpr ⟨j, hj, hjr, by rw [List.getD_eq_getElem?_getD,List.getElem?_eq_getElem hj,e]; rfl⟩ with q | q
  ·exact .inl ⟨q, h⟩
  ·exact .inr ⟨q, h⟩
theorem recs_last : ∀ {l : List Nat} {m c : Nat}, l.Pairwise (· > ·) → c ∈ l → m < fv t p lim c → (∀ c' ∈ l, c < c' → fv t p lim c' < fv t p lim c) → (∀ c' ∈ l, fv t p lim c' ≤ fv t p lim c) → (recs t p lim m l).getLast? = some (fv t p lim c, p - c)
 | [], m, c, _, h, _, _, _ => by cases h
 | a :: l, m, c, hp, h, hm, h1, h2 => by
  rw [List.pairwise_cons] at hp
  rw [recs]
  rcases List.mem_cons.mp h with rfl | h
  ·rw [if_pos hm,recs_nil fun c' hc' => h2 c' (List.mem_cons_of_mem _ hc')]
   rfl
  ·have h3 := h1 a List.mem_cons_self (hp.1 c h)
   split
   ·rw [List.getLast?_cons,recs_last hp.2 h h3 (fun c' hc' => h1 c' (List.mem_cons_of_mem _ hc')) fun c' hc' => h2 c' (List.mem_cons_of_mem _ hc')]
    rfl
   ·exact recs_last hp.2 h hm (fun c' hc' => h1 c' (List.mem_cons_of_mem _ hc')) fun c' hc' => h2 c' (List.mem_cons_of_mem _ hc')
theorem fv_end {c : Nat} : fv t p (t.length - p) c = L t p c := by
 have := (L_le (t := t) (p := p) (q := c)).1
 unfold fv; lia
theorem fv_most {c most : Nat} : fv t p (min most (t.length - p)) c = min (L t p c) most := by
 have := (L_le (t := t) (p := p) (q := c)).1
 unfold fv; lia
theorem dataN_pair (x : Nat × Nat) (n : Nat) : (pairN x).dataN (n + 1) = true := by
 unfold pairN V.dataN
 cases n <;> simp [V.dataN]
theorem data_pairs (l : List (Nat × Nat)) : (V.list (l.map pairN)).data = true := by
 unfold V.data V.dataN
 rw [List.all_eq_true]
 intro v hv
 obtain ⟨x, _, rfl⟩ := List.mem_map.mp hv
 exact dataN_pair x 6
theorem data_nil : (V.list []).data = true := rfl
theorem beq_nil (l : List V) : (V.list l).beq (.list []) = l.isEmpty := by
 cases l <;> rfl
end
section
variable {X : Cx} {k : Nat}
variable {σ : AHeap} {b : Addr} {t : List Nat} {Q : V → AHeap → Prop}
noncomputable def sv (t : List Nat) (p : Nat) (l : List Nat) : V := .list (l.map fun o => pairN (L t p o, o))
theorem sv_eq {p : Nat} {l : List Nat} : sv t p l = .list ((l.map fun o => (L t p o, o)).map pairN) := by unfold sv; rw [List.map_map]; rfl
theorem data_sv {p : Nat} {l : List Nat} : (sv t p l).data = true := by rw [sv_eq]; exact data_pairs _
noncomputable def hd1 (t : List Nat) (p : Nat) : List Nat → List Nat
 | [] => []
 | o :: _ => [L t p o]
theorem flat_if {α β : Type} (c : α → Bool) (f : α → β) (l : List α) : l.flatMap (fun o => if c o = true then [f o] else []) = (l.filter c).map f := by
 induction l with
 | nil => rfl
 | cons a r ih =>
  rw [List.flatMap_cons,ih]
  cases h : c a <;> simp [h]
theorem ints_nat (H : List Nat) : intsOf (H.map intV) = some (H.map fun (n : Nat) => (n : Int)) := by
 have : H.map intV = (H.map fun (n : Nat) => (n : Int)).map .int := by rw [List.map_map]; rfl
 rw [this,intsOf_int]
theorem longest_plain {p w s M : Nat} {l1 l2 : List Nat} (S : Sides t p w l1 l2) (hs : 0 < s) (hM : M ∈ 0 :: (hd1 t p l1 ++ hd1 t p l2)) (hmax : ∀ a ∈ 0 :: (hd1 t p l1 ++ hd1 t p l2), a ≤ M) :
  (M < s → recs t p (t.length - p) (s - 1) (cands p w) = []) ∧ (s ≤ M → ∃ o, (o ∈ l1 ∨ o ∈ l2) ∧ L t p o = M) ∧
  (s ≤ M → ∀ o, o ∈ cands p w → L t p o = M → (∀ c ∈ cands p w, L t p c = M → c ≤ o) → bestN (recs t p (t.length - p) (s - 1) (cands p w)) = (M, p - o)) := by
 have side : ∀ l : List Nat, l.Pairwise (fun x y => L t p y ≤ L t p x) → (∀ a ∈ hd1 t p l, a ≤ M) → ∀ o ∈ l, L t p o ≤ M := fun l hd h o ho => by
  cases l with
  | nil => cases ho
  | cons a r =>
   have ha := h (L t p a) (by simp [hd1])
   rw [List.pairwise_cons] at hd
   rcases List.mem_cons.mp ho with rfl | ho
   ·exact ha
   ·have := hd.1 o ho; lia
 have hge : ∀ o ∈ cands p w, L t p o ≤ M := fun o ho => by
  rcases (S.mem o).mpr ho with h | h
  ·exact side l1 S.d1 (fun a ha => hmax a (by simp [ha])) o h
  ·exact side l2 S.d2 (fun a ha => hmax a (by simp [ha])) o h
 refine ⟨fun h => recs_nil fun c hc => ?_, fun h => ?_, fun h o ho h1 h2 => ?_⟩
 ·rw [fv_end]; have := hge c hc; lia
 ·have hd : ∀ l : List Nat, M ∈ hd1 t p l → ∃ o ∈ l, L t p o = M := fun l hl => by
   cases l with
   | nil => simp [hd1] at hl
   | cons a r => simp [hd1] at hl; exact ⟨a, by simp, hl.symm⟩
  rcases List.mem_cons.mp hM with h0 | hM
  ·lia
  ·rcases List.mem_append.mp hM with q | q
   ·obtain ⟨o, a, b⟩ := hd l1 q; exact ⟨o, .inl a, b⟩
   ·obtain ⟨o, a, b⟩ := hd l2 q; exact ⟨o, .inr a, b⟩
 ·unfold bestN
  rw [recs_last (c := o) cands_desc ho (by rw [fv_end]; lia) (fun c hc hoc => ?_) (fun c hc => ?_), fv_end, h1]
  ·rfl
  ·rw [fv_end,fv_end,h1]
   have h3 := hge c hc
   have : L t p c ≠ M := fun e => by have := h2 c hc e; lia
   lia
  ·rw [fv_end,fv_end,h1]; exact hge c hc
theorem longest_c (F : Fns X) {p w s : Nat} {l1 l2 : List Nat} (S : Sides t p w l1 l2) (hs : 0 < s) (hn : t.length ≤ 20) (hp : p < t.length) (hl1 : l1.length ≤ 30) (hl2 : l2.length ≤ 30) :
  WC X (k + 1) (.ref 367) [.list [sv t p l1, sv t p l2], .int p, .int s] σ (fun v σ' => v = pairN (bestN (recs t p (t.length - p) (s - 1) (cands p w))) ∧ σ' = σ) := by
 refine wc_of F F.law_longest rfl ?_
 have hh : ∀ l, (hd1 t p l).length ≤ 1 := fun l => by cases l <;> simp [hd1]
 have h1 := hh l1
 have h2 := hh l2
 repeat (first | simp only [we_v,we_int,we_bin,we_cmp,we_idx,we_lst,we_max1,we_comp,wz_nil,wz_cons,wi_e,ws_asg,wl_cons,gL,tB,bL,fL,liL,agV,retQ,initR,mkList,qa,qb,qc,qd,qh,qg,qj,qi,Nat.reduceSub,true_and,if_false,Bool.false_eq_true,Nat.reduceLeDiff,qe,qf,f_law_longest,f_law_longest_b,wpG,clr,Gs.slots,Tg.slots,Option.getD_some,List.append_nil,List.foldl_cons,List.foldl_nil] | ((with_reducible apply tail);case e=>rfl))
 refine fold_map (fun l => l = l1 ∨ l = l2) (fun l => sv t p l) (fun l => (hd1 t p l).map intV) 900 ?_ [l1, l2] _ (by simp) (by simp; lia) ?_
 ·intro l acc K hl hN hK
  cases l with
  | nil =>
   repeat (first | simp only [gL,cNL,thL,iL,Bool.not_true,Bool.not_eq_eq_eq_not,sv,List.map_nil] | ((with_reducible apply tail);case e=>rfl))
   refine ⟨rfl, rfl, neg ?_ ?_⟩
   ·simp [beq_nil]
   ·simpa [hd1] using hK
  | cons o l =>
   simp only [hd1,List.length_singleton,List.map_cons,List.map_nil] at hN
   repeat (first | simp only [gL,cNL,thL,iL,Bool.not_true,Bool.not_eq_eq_eq_not,sv] | ((with_reducible apply tail);case e=>rfl))
   refine ⟨data_sv (t := t) (p := p) (l := o :: l), rfl, pos ?_ ?_⟩
   ·simp [beq_nil]
   ·repeat (first | simp only [List.map_cons] | ((with_reducible apply tail);case e=>rfl))
    refine ⟨by lia, by exact Int.natCast_nonneg _, _, rfl, ?_⟩
    unfold pairN
    repeat (first | simp only [iT] | ((with_reducible apply tail);case e=>rfl))
    refine ⟨by exact Int.natCast_nonneg _, _, rfl, hK⟩
 have eH : V.int 0 :: ([] ++ [l1, l2].flatMap fun l => (hd1 t p l).map intV) = (0 :: (hd1 t p l1 ++ hd1 t p l2)).map intV := by
  simp [List.flatMap_cons,intV]
 rw [eH]
 have hlen : ([] ++ [l1, l2].flatMap fun l => (hd1 t p l).map intV).length ≤ 2 := by simp [List.flatMap_cons]; lia
 refine ⟨by lia, by lia, ?_⟩
 repeat (first | simp only [lL,liL,qe,List.length_map,max1P,ints_nat] | ((with_reducible apply tail);case e=>rfl))
 refine ⟨by simp, fun m hm hmax => ?_⟩
 obtain ⟨M, hM, rfl⟩ := List.mem_map.mp hm
 obtain ⟨pl1, pl2, pl3⟩ := longest_plain S hs hM fun a ha => by
  have := hmax _ (List.mem_map.mpr ⟨a, ha, rfl⟩); lia
 repeat (first | simp only [we_v,we_int,we_cmp,we_tup,wz_nil,wz_cons,ws_ife,ws_ret,wl_nil,wl_cons,gI,tB,cI,pLt,retQ,qa,qb,true_and,and_true,Nat.reduceLeDiff,qe,qf,decide_eq_true_eq] | ((with_reducible apply tail);case e=>rfl))
 by_cases hMs : M < s
 ·refine pos (by exact Int.ofNat_lt.mpr ‹_›) ?_
  rw [pl1 hMs]
  rfl
 ·refine neg (by exact mt Int.ofNat_lt.mp ‹_›) ?_
  repeat (first | simp only [we_v,we_bool,we_bin,we_cmp,we_tup,we_max1,we_comp,wz_nil,wz_cons,wi_e,ws_ret,wl_nil,wl_cons,gI,gL,tB,fL,liL,agV,retQ,mkList,qa,qb,qc,qd,qh,qg,true_and,if_true,if_false,Bool.false_eq_true,Nat.reduceLeDiff,qe,qf,Option.getD_none,wpG,clr,Gs.slots,Tg.slots,Option.getD_some,List.append_nil,List.foldl_cons,List.foldl_nil] | ((with_reducible apply tail);case e=>rfl))
  refine fold_map (fun l => l = l1 ∨ l = l2) (fun l => sv t p l) (fun l => l.flatMap fun o => if (L t p o == M) = true then [intV o] else []) 900 ?_ [l1, l2] _ (by simp) ?_ ?_
  ·intro l acc K hl hN hK
   repeat (first | simp only [gL,fL,liL,sv] | ((with_reducible apply tail);case e=>rfl))
   refine ⟨by lia, ?_⟩
   refine fold_map (fun _ => True) (fun o => pairN (L t p o, o)) (fun o => if (L t p o == M) = true then [intV o] else []) 900 ?_ l _ (fun _ _ => trivial) hN hK
   intro o acc K _ hN hK
   unfold pairN
   repeat (first | simp only [gI,cI,pEq,agT,setAll,qa,qb,qc,qd,Nat.reduceAdd,true_and,qe,qf,decide_eq_true_eq] | ((with_reducible apply tail);case e=>rfl))
   by_cases e : L t p o = M
   ·rw [if_pos (by simpa using e)] at hN hK
    refine pos (by lia) ?_
    simp only [List.length_singleton] at hN
    exact ⟨by lia, hK⟩
   ·rw [if_neg (by simpa using e)] at hK
    refine neg (by lia) ?_
    simpa using hK
  ·have : ∀ l : List Nat, (l.flatMap fun o => if (L t p o == M) = true then [intV o] else []).length ≤ l.length := fun l => by
    rw [flat_if,List.length_map]; exact List.length_filter_le _ _
   have a1 := this l1
   have a2 := this l2
   simp only [List.flatMap_cons,List.flatMap_nil,List.append_nil,List.length_append,qf]
   lia
  have eO : ([] ++ [l1, l2].flatMap fun l => l.flatMap fun o => if (L t p o == M) = true then [intV o] else []) = ((l1 ++ l2).filter fun o => L t p o == M).map intV := by
   simp only [List.flatMap_cons,List.flatMap_nil,List.append_nil,qg,flat_if,List.filter_append,List.map_append]
  rw [eO]
  have hlo : (((l1 ++ l2).filter fun o => L t p o == M).map intV).length ≤ 60 := by
   rw [List.length_map]
   have := List.length_filter_le (fun o => L t p o == M) (l1 ++ l2)
   rw [List.length_append] at this
   lia
  refine ⟨by lia, ?_⟩
  repeat (first | simp only [bI,oS,lL,liL,and_true,List.length_map,max1P,ints_nat] | ((with_reducible apply tail);case e=>rfl))
  obtain ⟨o0, ho0, e0⟩ := pl2 (by exact Nat.le_of_not_lt ‹_›)
  refine ⟨?_, fun m hm hmax => ?_⟩
  ·refine List.length_pos_of_mem (a := o0) ?_
   rw [List.mem_filter,List.mem_append]
   exact ⟨ho0, by simpa using e0⟩
  ·obtain ⟨o, ho, rfl⟩ := List.mem_map.mp hm
   rw [List.mem_filter,List.mem_append] at ho
   have hoc := (S.mem o).mp ho.1
   rw [pl3 (by exact Nat.le_of_not_lt ‹_›) o hoc (by simpa using ho.2) fun c hc ec => by
    have := hmax _ (List.mem_map.mpr ⟨c, by rw [List.mem_filter,List.mem_append]; exact ⟨(S.mem c).mpr hc, by simpa using ec⟩, rfl⟩)
    lia]
   have := (cands_mem.mp hoc).1
   repeat (first | simp only [pairN] | ((with_reducible apply tail);case e=>rfl))
   have e6 : (p : Int) - (o : Int) = ((p - o : Nat) : Int) := by exact (Int.natCast_sub (Nat.le_of_lt ‹_›)).symm
   rw [e6]
end
end Mine
end

section
open PySem PySem.Calls PyProof.Rows PySem.W
set_option backward.defeqAttrib.useBackward true
set_option maxRecDepth 20000
namespace Mine
section
variable {t : List Nat} {p w : Nat}
structure OutI (t : List Nat) (p w lim s ℓ : Nat) (found : List (Nat × Nat)) (m : Nat) : Prop where
 eq : found ++ recs t p lim m (cands p w) = recs t p lim (s - 1) (cands p w)
 ge : ℓ ≤ m + 1
 st : (found = [] ∧ m + 1 = ℓ) ∨ ∃ o ∈ cands p w, found.getLast? = some (m, p - o) ∧ fv t p lim o = m ∧ ∀ c ∈ cands p w, o < c → L t p c < ℓ
theorem out_step {most s ℓ m o : Nat} {found : List (Nat × Nat)} (I : OutI t p w (min most (t.length - p)) s ℓ found m) (hl : ℓ ≤ most) (ho : o ∈ cands p w) (hL : ℓ ≤ L t p o) (hm : ∀ c ∈ cands p w, ℓ ≤ L t p c → c ≤ o) :
  ((∀ y, found.getLast? = some y → y.2 ≠ p - o) → OutI t p w (min most (t.length - p)) s (ℓ + 1) (found ++ [(min (L t p o) most, p - o)]) (min (L t p o) most)) ∧
  ((∃ y, found.getLast? = some (y, p - o)) → OutI t p w (min most (t.length - p)) s (ℓ + 1) found m) := by
 obtain ⟨h1, h2, h3⟩ := I
 have hop := (cands_mem.mp ho).1
 have hfo : fv t p (min most (t.length - p)) o = min (L t p o) most := fv_most
 rcases Nat.lt_or_ge m ℓ with hmℓ | hmℓ
 ·refine ⟨fun hne => ⟨?_, by lia, .inr ⟨o, ho, by simp, hfo, fun c hc hoc => ?_⟩⟩, fun ⟨y, hy⟩ => ?_⟩
  ·rw [List.append_assoc,← h1]
   congr 1
   rw [recs_first (m := m) (c := o) cands_desc ho (by rw [hfo]; lia) fun c hc hoc => ?_, hfo]
   ·rfl
   ·have : ¬ ℓ ≤ L t p c := fun h => by have := hm c hc h; lia
    rw [fv_most]; lia
  ·have : ¬ ℓ ≤ L t p c := fun h => by have := hm c hc h; lia
   lia
  ·rcases h3 with ⟨e, _⟩ | ⟨o', a, b, c, d⟩
   ·rw [e] at hy; simp at hy
   ·rw [b] at hy
    have := (cands_mem.mp a).1
    have e := (Prod.mk.inj (Option.some.inj hy)).2
    have : o' = o := by lia
    subst this
    rw [hfo] at c
    lia
 ·rcases h3 with ⟨e, _⟩ | ⟨o', a, b, c, d⟩
  ·lia
  ·have hL' : ℓ ≤ L t p o' := by rw [fv_most] at c; lia
   have h4 := hm o' a hL'
   have : o' = o := by
    rcases Nat.lt_or_ge o' o with q | q
    ·have := d o ho q; lia
    ·lia
   subst this
   refine ⟨fun hne => absurd rfl (hne _ b), fun _ => ⟨h1, by exact Nat.succ_le_succ ‹_›, .inr ⟨o', a, b, c, fun x hx hox => by have := d x hx hox; lia⟩⟩⟩
theorem out_end {most s ℓ m : Nat} {found : List (Nat × Nat)} (I : OutI t p w (min most (t.length - p)) s ℓ found m) (h : most < ℓ ∨ ∀ c ∈ cands p w, L t p c < ℓ) : found = recs t p (min most (t.length - p)) (s - 1) (cands p w) := by
 rw [← I.eq,recs_nil fun c hc => ?_,List.append_nil]
 have := I.ge
 rw [fv_most]
 rcases h with h | h
 ·lia
 ·have := h c hc; lia
end
section
variable {X : Cx} {k : Nat}
variable {σ : AHeap} {b : Addr} {t : List Nat} {Q : V → AHeap → Prop}
theorem outwards_c (F : Fns X) {p w s most : Nat} {l1 l2 : List Nat} (S : Sides t p w l1 l2) (hs : 0 < s) (hn : t.length ≤ 20) (hp : p < t.length) (hl1 : l1.length ≤ 30) (hl2 : l2.length ≤ 30) (hm : most ≤ 30) (hs2 : s ≤ 30) :
  WC X (k + 1) (.ref 372) [.list [sv t p l1, sv t p l2], .int p, .int s, .int most] σ (fun v σ' => v = .list ((recs t p (min most (t.length - p)) (s - 1) (cands p w)).map pairN) ∧ Ext σ σ') := by
 refine wc_of F F.law_outwards rfl ?_
 repeat (first | simp only [we_v,we_int,we_bin,we_idx,we_tup,we_nlst,wz_nil,wz_cons,ws_asg,wl_cons,gL,iL,agT,setAll,retQ,initR,mkList,qa,qc,qd,qh,qg,qj,qi,Nat.reduceSub,Nat.reduceAdd,true_and,if_true,Nat.reduceEqDiff,Nat.reduceLeDiff,qe,qf,f_law_outwards,f_law_outwards_b,sv] | ((with_reducible apply tail);case e=>rfl))
 refine ⟨by exact Int.natCast_nonneg _, _, rfl, by exact Int.natCast_nonneg _, _, rfl, ?_⟩
 repeat (first | simp only [bL,List.length_map,List.length_append] | ((with_reducible apply tail);case e=>rfl))
 refine ⟨by lia, fun a ha => ?_⟩
 repeat (first | simp only [we_v,we_int,we_bin,wi_r2,ws_forr,wl_cons,gI,bI,oA,rg2,retQ,qa,qb,small] | ((with_reducible apply tail);case e=>rfl))
 refine ⟨by lia, by lia, ?_⟩
 rw [← List.map_append]
 generalize hboth : l1 ++ l2 = both
 have hbl : both.length ≤ 60 := by rw [← hboth,List.length_append]; lia
 have hbm : ∀ o, o ∈ both ↔ o ∈ cands p w := fun o => by rw [← hboth,List.mem_append]; exact S.mem o
 refine forP_inv (fun items ρ σ' => ∃ ℓ found m z6 z7 z8 z9, items = (List.range (most + 1 - ℓ)).map (fun (i : Nat) => V.int ((ℓ : Int) + (i : Int))) ∧ s ≤ ℓ ∧
   ρ = [.list [.list (l1.map fun o => pairN (L t p o, o)), .list (l2.map fun o => pairN (L t p o, o))], .int p, .int s, .int most, .list (both.map fun o => pairN (L t p o, o)), .ref a, z6, z7, z8, z9, .undef, .undef] ∧
   σ' = upd σ a (.list (found.map pairN)) ∧ OutI t p w (min most (t.length - p)) s ℓ found m ∧ found.length ≤ ℓ) ?_ ?_ _ _ _ ⟨s, [], s - 1, .undef, .undef, .undef, .undef, ?_, Nat.le_refl _, rfl, rfl, ⟨rfl, by lia, .inl ⟨rfl, by exact Nat.sub_add_cancel ‹_›⟩⟩, by simp⟩
 ·rintro x r ρ σ' K ⟨ℓ, found, m, z6, z7, z8, z9, hi, hsl, rfl, rfl, I, hfl⟩ hK hKb _
  have hle : ℓ ≤ most := by
   rcases Nat.lt_or_ge most ℓ with h | h
   ·rw [show most + 1 - ℓ = 0 by lia] at hi; simp at hi
   ·exact h
  rw [show most + 1 - ℓ = (most - ℓ) + 1 by lia,List.range_succ_eq_map,List.map_cons,List.map_map,List.cons.injEq] at hi
  obtain ⟨rfl, rfl⟩ := hi
  rw [show ((ℓ : Int) + ((0 : Nat) : Int)) = (ℓ : Int) by lia]
  repeat (first | simp only [we_v,we_cmp,we_tup,we_comp,wz_nil,wz_cons,wi_e,ws_asg,wl_cons,gL,tB,fL,liL,agV,mkList,qa,qb,qc,qd,true_and,if_false,Bool.false_eq_true,Nat.reduceLeDiff,qe,qf,f_law_outwards_b1,wpG,clr,Gs.slots,Tg.slots,Option.getD_some,List.append_nil,List.foldl_cons,List.foldl_nil] | ((with_reducible apply tail);case e=>rfl))
  refine fold_map (fun _ => True) (fun o => pairN (L t p o, o)) (fun o => if (decide (ℓ ≤ L t p o)) = true then [pairN (o, L t p o)] else []) 900 ?_ both _ (fun _ _ => trivial) ?_ ?_
  ·intro o acc K _ hN hK
   unfold pairN at hK ⊢
   repeat (first | simp only [gI,cI,pGe,agT,setAll,qa,qb,qc,qd,Nat.reduceAdd,true_and,qe,qf,decide_eq_true_eq] | ((with_reducible apply tail);case e=>rfl))
   by_cases e : ℓ ≤ L t p o
   ·rw [if_pos (by simpa using e)] at hN hK
    refine pos (by exact Int.ofNat_le.mpr ‹_›) ?_
    simp only [List.length_singleton] at hN
    exact ⟨by lia, hK⟩
   ·rw [if_neg (by simpa using e)] at hK
    refine neg (by exact mt Int.ofNat_le.mp ‹_›) ?_
    simpa using hK
  ·rw [flat_if,List.length_map]
   have := List.length_filter_le (fun o => decide (ℓ ≤ L t p o)) both
   simp only [qf]
   lia
  rw [flat_if,qg]
  generalize hsm : both.filter (fun o => decide (ℓ ≤ L t p o)) = sm
  have hsl2 : sm.length ≤ 60 := by rw [← hsm]; exact Nat.le_trans (List.length_filter_le _ _) hbl
  have hsmem : ∀ o, o ∈ sm ↔ o ∈ cands p w ∧ ℓ ≤ L t p o := fun o => by rw [← hsm,List.mem_filter,hbm]; simp
  have esm : sm.map (fun o => pairN (o, L t p o)) = (sm.map fun o => (o, L t p o)).map pairN := by rw [List.map_map]; rfl
  rw [esm]
  try simp only [List.length_map]
  refine ⟨by lia, ?_⟩
  repeat (first | simp only [we_v,we_cmp,we_lst,wz_nil,ws_ife,ws_brk,wl_nil,wl_cons,gL,tB,cEL,thL,mkList,qa,qb,true_and,if_false,Bool.false_eq_true,Nat.reduceLeDiff,qf,beq_nil] | ((with_reducible apply tail);case e=>rfl))
  refine ⟨data_pairs _, data_nil, ?_⟩
  cases hsc : sm with
  | nil =>
   refine pos (by simp) ?_
   refine hKb _ _ ?_
   have := out_end I (.inr fun c hc => by
    rcases Nat.lt_or_ge (L t p c) ℓ with h | h
    ·exact h
    ·have := (hsmem c).mpr ⟨hc, h⟩; rw [hsc] at this; cases this)
   repeat (first | simp only [we_v,we_frz,ws_ret,wl_nil,wl_cons,gR,lsL,fzR,retQ,qa,qb,reduceCtorEq,upd_self] | ((with_reducible apply tail);case e=>rfl))
   rw [this,del_upd ha]
   exact ⟨rfl, .refl⟩
  | cons s0 sr =>
   rw [← hsc]
   have hne : sm ≠ [] := by rw [hsc]; simp
   refine neg (by rw [hsc]; simp) ?_
   have epp : (sm.map fun o => (o, L t p o)).map pairN = (sm.map fun o => (((o : Nat) : Int), ((L t p o : Nat) : Int))).map pairV := by simp [List.map_map,Function.comp_def,pairN,pairV]
   rw [epp]
   repeat (first | simp only [we_v,we_max1,ws_asg,wl_cons,gL,lL,liL,qa,qb,List.length_map,max1P,pairsOf_pair] | ((with_reducible apply tail);case e=>rfl))
   rw [intsOf_pair (by simpa using hne)]
   repeat (first | simp only [] | ((with_reducible apply tail);case e=>rfl))
   refine ⟨by rw [hsc]; simp, fun q hq hmax => ?_⟩
   obtain ⟨o, ho, rfl⟩ := List.mem_map.mp hq
   obtain ⟨ho1, ho2⟩ := (hsmem o).mp ho
   have hop := (cands_mem.mp ho1).1
   obtain ⟨st1, st2⟩ := out_step I hle ho1 ho2 fun c hc hcl => by
    have := hmax _ (List.mem_map.mpr ⟨c, (hsmem c).mpr ⟨hc, hcl⟩, rfl⟩)
    unfold pairLe at this
    simp only at this
    lia
   repeat (first | simp only [we_v,we_int,we_bin,we_cmp,we_or,we_idx,we_last,we_tup,we_lst,we_min2,we_lappend,wz_nil,wz_cons,ws_ife,ws_expr,wl_nil,wl_cons,gI,gR,tB,cER,thL,thR,bI,oS,lsL,laR,apR,lR,inL,agT,setAll,mkList,qa,qb,qc,qd,Nat.reduceAdd,true_and,if_true,if_false,Bool.false_eq_true,Option.isSome_some,Nat.reduceLeDiff,qe,qf,List.length_map,pairV,upd_self,beq_nil] | ((with_reducible apply tail);case e=>rfl))
   refine ⟨data_pairs _, data_nil, ?_⟩
   have e6 : (p : Int) - (o : Int) = ((p - o : Nat) : Int) := by exact (Int.natCast_sub (Nat.le_of_lt ‹_›)).symm
   have e7 : min ((L t p o : Nat) : Int) (most : Int) = ((min (L t p o) most : Nat) : Int) := by lia
   have next : ∀ found' m' z6 z7 z8 z9, OutI t p w (min most (t.length - p)) s (ℓ + 1) found' m' → found'.length ≤ ℓ + 1 → K .next [.list [.list (l1.map fun o => pairN (L t p o, o)), .list (l2.map fun o => pairN (L t p o, o))], .int p, .int s, .int most, .list (both.map fun o => pairN (L t p o, o)), .ref a, z6, z7, z8, z9, .undef, .undef] (upd σ a (.list (found'.map pairN))) := fun found' m' z6 z7 z8 z9 I' hf => by
    refine hK _ _ ⟨ℓ + 1, found', m', z6, z7, z8, z9, ?_, by exact Nat.le_succ_of_le ‹_›, rfl, rfl, I', hf⟩
    rw [show most + 1 - (ℓ + 1) = most - ℓ by lia]
    apply List.map_congr_left
    intro i _
    simp only [Function.comp]
    congr 1
    lia
   rw [e6,e7]
   by_cases hap : ∀ y, found.getLast? = some y → y.2 ≠ p - o
   ·have I' := st1 hap
    have fin := next _ _ (.int ℓ) (.list ((sm.map fun o => (((o : Nat) : Int), ((L t p o : Nat) : Int))).map pairV)) (.int o) (.int (L t p o)) I' (by simp; lia)
    rw [List.map_append] at fin
    cases hf : found with
    | nil =>
     rw [hf] at fin
     refine pos (by simp) ?_
     repeat (first | simp only [true_and,Nat.reduceLT,qf,upd_upd] | ((with_reducible apply tail);case e=>rfl))
     exact fin
    | cons y ys =>
     rw [← hf]
     refine neg (by rw [hf]; simp) ?_
     obtain ⟨z, hz⟩ : ∃ z, found.getLast? = some z := by rw [hf]; exact ⟨_, List.getLast?_eq_some_getLast (by simp)⟩
     repeat (first | simp only [we_v,we_int,we_bool,we_str,we_none,we_neg,we_nowhere,we_bin,we_cmp,we_cmp2,we_isnone,we_and,we_or,we_not,we_ite,we_idx,we_last,we_slice,we_rev,we_attr,we_layers,we_treesize,we_tup,we_lst,we_nlst,we_ndict,we_frz,we_callf,we_meth,we_cmeth,we_len,we_min2,we_max2,we_max1,we_bytes,we_tuple,we_sorted,we_listr,we_lappend,we_dget,we_lindex,we_nrep,we_ncat,we_comp,wz_nil,wz_cons,wi_e,wi_r1,wi_r2,wi_r3,ws_asg,ws_setattr,ws_setidx,ws_aug,ws_ife,ws_forr,ws_wh,ws_ret,ws_retn,ws_brk,ws_pass,ws_raise,ws_expr,wl_nil,wl_cons,wl_fz,gN,gB,gI,gS,gY,gT,gL,gR,tB,cI,cS,cEL,cER,cNL,cNT,thL,thT,thR,pLt,pLe,pGt,pGe,pEq,pNe,bI,bL,oA,oS,oM,oD,oR,oP,aR,kR,mR,lsL,nY,nT,nL,nR,iY,iT,iL,iR,laL,laR,b00,b10,b01,b11,sY,sL,sR,rY,rR,dR,iD,apR,fzR,saR,siR,fT,fL,fY,lL,lR,rg1,rg2,rg3,insL,diL,inL,reL,tuL,liL,byB,byL,byR,isn,isi,agV,agT,agL,setAll,putF,retQ,initR,mkList,qa,qb,qc,qd,List.set_nil,qh,qg,qj,qi,Nat.reduceSub,Nat.reduceAdd,Option.some.injEq,exists_eq_left',ne_eq,reduceCtorEq,not_false_eq_true,true_and,and_true,if_true,if_false,Bool.true_eq_false,Bool.false_eq_true,Option.isSome_some,Nat.reduceBEq,List.lookup_nil,lookup_hit,lookup_miss,bne_self_eq_false,Bool.not_true,Bool.not_false,decide_true,decide_false,ite_true,ite_false,reduceIte,Nat.reduceEqDiff,Nat.reduceLT,Nat.reduceLeDiff,qe,qf,decide_eq_true_eq,Bool.not_eq_true',decide_eq_false_iff_not,Int.toNat_natCast,List.length_map,Bool.and_eq_true,Bool.or_eq_true,Bool.not_eq_eq_eq_not,Bool.not_eq_true,Bool.not_eq_false,upd_self] | ((with_reducible apply tail);case e=>rfl))
     refine ⟨pairN z, by rw [List.getLast?_map,hz]; rfl, ?_⟩
     unfold pairN
     repeat (first | simp only [iT] | ((with_reducible apply tail);case e=>rfl))
     refine ⟨by exact Int.natCast_nonneg _, _, rfl, ?_⟩
     repeat (first | simp only [cI,pNe,Bool.not_true,decide_eq_false_iff_not,Bool.not_eq_eq_eq_not] | ((with_reducible apply tail);case e=>rfl))
     refine pos ?_ ?_
     ·have := hap z hz; lia
     ·repeat (first | simp only [upd_upd] | ((with_reducible apply tail);case e=>rfl))
      exact ⟨by lia, fin⟩
   ·have hap' : ∃ y, found.getLast? = some (y, p - o) := by
     cases hz : found.getLast? with
     | none => exact absurd (fun y hy => by rw [hz] at hy; cases hy) hap
     | some z =>
      refine ⟨z.1, ?_⟩
      have : z.2 = p - o := Classical.byContradiction fun h => hap fun y hy => by rw [hz] at hy; cases hy; exact h
      rw [← this]
    have I' := st2 hap'
    obtain ⟨y, hy⟩ := hap'
    have fin := next _ _ (.int ℓ) (.list ((sm.map fun o => (((o : Nat) : Int), ((L t p o : Nat) : Int))).map pairV)) (.int o) (.int (L t p o)) I' (by exact Nat.le_succ_of_le ‹_›)
    have hfne : found ≠ [] := fun e => by rw [e] at hy; cases hy
    refine neg (by simpa using hfne) ?_
    repeat (first | simp only [we_v,we_int,we_bool,we_str,we_none,we_neg,we_nowhere,we_bin,we_cmp,we_cmp2,we_isnone,we_and,we_or,we_not,we_ite,we_idx,we_last,we_slice,we_rev,we_attr,we_layers,we_treesize,we_tup,we_lst,we_nlst,we_ndict,we_frz,we_callf,we_meth,we_cmeth,we_len,we_min2,we_max2,we_max1,we_bytes,we_tuple,we_sorted,we_listr,we_lappend,we_dget,we_lindex,we_nrep,we_ncat,we_comp,wz_nil,wz_cons,wi_e,wi_r1,wi_r2,wi_r3,ws_asg,ws_setattr,ws_setidx,ws_aug,ws_ife,ws_forr,ws_wh,ws_ret,ws_retn,ws_brk,ws_pass,ws_raise,ws_expr,wl_nil,wl_cons,wl_fz,gN,gB,gI,gS,gY,gT,gL,gR,tB,cI,cS,cEL,cER,cNL,cNT,thL,thT,thR,pLt,pLe,pGt,pGe,pEq,pNe,bI,bL,oA,oS,oM,oD,oR,oP,aR,kR,mR,lsL,nY,nT,nL,nR,iY,iT,iL,iR,laL,laR,b00,b10,b01,b11,sY,sL,sR,rY,rR,dR,iD,apR,fzR,saR,siR,fT,fL,fY,lL,lR,rg1,rg2,rg3,insL,diL,inL,reL,tuL,liL,byB,byL,byR,isn,isi,agV,agT,agL,setAll,putF,retQ,initR,mkList,qa,qb,qc,qd,List.set_nil,qh,qg,qj,qi,Nat.reduceSub,Nat.reduceAdd,Option.some.injEq,exists_eq_left',ne_eq,reduceCtorEq,not_false_eq_true,true_and,and_true,if_true,if_false,Bool.true_eq_false,Bool.false_eq_true,Option.isSome_some,Nat.reduceBEq,List.lookup_nil,lookup_hit,lookup_miss,bne_self_eq_false,Bool.not_true,Bool.not_false,decide_true,decide_false,ite_true,ite_false,reduceIte,Nat.reduceEqDiff,Nat.reduceLT,Nat.reduceLeDiff,qe,qf,decide_eq_true_eq,Bool.not_eq_true',decide_eq_false_iff_not,Int.toNat_natCast,List.length_map,Bool.and_eq_true,Bool.or_eq_true,Bool.not_eq_eq_eq_not,Bool.not_eq_true,Bool.not_eq_false,upd_self] | ((with_reducible apply tail);case e=>rfl))
    refine ⟨pairN (y, p - o), by rw [List.getLast?_map,hy]; rfl, ?_⟩
    unfold pairN
    repeat (first | simp only [iT] | ((with_reducible apply tail);case e=>rfl))
    refine ⟨by exact Int.natCast_nonneg _, _, rfl, ?_⟩
    repeat (first | simp only [cI,pNe,if_false,Bool.false_eq_true,Bool.not_true,decide_true] | ((with_reducible apply tail);case e=>rfl))
    exact fin
 ·rintro ρ σ' ⟨ℓ, found, m, z6, z7, z8, z9, hi, hsl, rfl, rfl, I, hfl⟩
  have hgt : most < ℓ := by
   have := congrArg List.length hi
   simp at this
   lia
  have := out_end I (.inl hgt)
  repeat (first | simp only [we_v,we_frz,ws_ret,wl_nil,wl_cons,gR,lsL,fzR,retQ,qa,qb,reduceCtorEq,upd_self] | ((with_reducible apply tail);case e=>rfl))
  rw [this,del_upd ha]
  exact ⟨rfl, .refl⟩
 ·rw [show ((most : Int) + 1 - (s : Int)).toNat = most + 1 - s by lia]
end
end Mine
end

section
namespace Mine
section
variable {t : List Nat}
noncomputable def mx : List Nat → Nat
 | [] => 0
 | a :: r => max a (mx r)
theorem mx_ge : ∀ {l : List Nat} {a : Nat}, a ∈ l → a ≤ mx l
 | b :: r, a, h => by
  unfold mx
  rcases List.mem_cons.mp h with rfl | h
  ·lia
  ·have := mx_ge h; lia
theorem mx_mem : ∀ {l : List Nat}, mx l = 0 ∨ mx l ∈ l
 | [] => .inl rfl
 | b :: r => by
  unfold mx
  rcases mx_mem (l := r) with h | h
  ·rcases Nat.le_total b (mx r) with q | q
   ·left; lia
   ·right; rw [Nat.max_eq_left q]; exact List.mem_cons_self
  ·rcases Nat.le_total b (mx r) with q | q
   ·right; rw [Nat.max_eq_right q]; exact List.mem_cons_of_mem _ h
   ·right; rw [Nat.max_eq_left q]; exact List.mem_cons_self
noncomputable def lpf (t : List Nat) (p : Nat) : Nat := mx ((List.range p).map fun q => L t p q)
theorem lpf_of {p M : Nat} (h1 : ∀ q, q < p → L t p q ≤ M) (h2 : M = 0 ∨ ∃ q, q < p ∧ L t p q = M) : lpf t p = M := by
 unfold lpf
 apply Nat.le_antisymm
 ·rcases mx_mem (l := (List.range p).map fun q => L t p q) with h | h
  ·lia
  ·obtain ⟨q, hq, e⟩ := List.mem_map.mp h
   rw [← e]; exact h1 q (List.mem_range.mp hq)
 ·rcases h2 with h | ⟨q, hq, e⟩
  ·lia
  ·exact mx_ge (List.mem_map.mpr ⟨q, List.mem_range.mpr hq, e⟩)
noncomputable def adj (t : List Nat) : List Nat → List Nat
 | a :: b :: r => L t a b :: adj t (b :: r)
 | _ => []
theorem adj_mid (a b : Nat) (B : List Nat) : ∀ A : List Nat, adj t (A ++ a :: b :: B) = adj t (A ++ [a]) ++ L t a b :: adj t (b :: B)
 | [] => rfl
 | [x] => rfl
 | x :: y :: r => by
  have ih := adj_mid a b B (y :: r)
  simp only [List.cons_append] at ih ⊢
  rw [adj,adj,ih]
  rfl
theorem nearF_adj : ∀ os : List Nat, nearF t os = adj t os
 | [] => rfl
 | [a] => rfl
 | a :: b :: r => by
  have ih := nearF_adj (b :: r)
  unfold nearF at ih ⊢
  simp only [List.length_cons,Nat.add_sub_cancel] at ih ⊢
  rw [List.range_succ_eq_map,List.map_cons,List.map_map,adj,← ih]
  congr 1
theorem ord_mem {l : List Nat} {m : Nat} (h : l.Perm (List.range m)) {x : Nat} : x ∈ l ↔ x < m := by rw [h.mem_iff,List.mem_range]
theorem lpf_perm : ∀ (m : Nat) (l : List Nat), m + 1 ≤ t.length → l.Perm (List.range (m + 1)) → l.Pairwise (Lt t) → ((List.range (m + 1)).map (lpf t)).Perm (0 :: adj t l)
 | 0, l, hm, hp, hl => by
  have : l = [0] := List.perm_singleton.mp hp
  subst this
  exact .refl _
 | m + 1, l, hm, hp, hl => by
  have hmem : m + 1 ∈ l := (ord_mem hp).mpr (by exact Nat.lt_succ_self _)
  obtain ⟨A, B, rfl⟩ := List.append_of_mem hmem
  rw [List.pairwise_append,List.pairwise_cons] at hl
  obtain ⟨hA, ⟨hB1, hB⟩, hAB⟩ := hl
  have hp2 : (A ++ B).Perm (List.range (m + 1)) := by
   have h1 : (A ++ (m + 1) :: B).Perm ((m + 1) :: (A ++ B)) := List.perm_middle
   have h2 : (List.range (m + 1 + 1)).Perm ((m + 1) :: List.range (m + 1)) := by
    rw [List.range_succ]
    exact List.perm_append_singleton _ _
   exact List.Perm.cons_inv ((h1.symm.trans hp).trans h2)
  have hl2 : (A ++ B).Pairwise (Lt t) := by
   rw [List.pairwise_append]
   exact ⟨hA, hB, fun a ha b hb => hAB a ha b (List.mem_cons_of_mem _ hb)⟩
  have ih := lpf_perm m (A ++ B) (by exact Nat.le_of_lt ‹_›) hp2 hl2
  have inm : ∀ x, x ∈ A ∨ x ∈ B ↔ x < m + 1 := fun x => by rw [← List.mem_append]; exact ord_mem hp2
  have ltm : ∀ x, x ∈ A ∨ x ∈ B → x < t.length := fun x h => by have := (inm x).mp h; lia
  have hmt : m + 1 < t.length := by assumption
  have bL : ∀ b B', B = b :: B' → ∀ x ∈ B, L t (m + 1) x ≤ L t (m + 1) b := fun b B' e x hx => by
   subst e
   rcases List.mem_cons.mp hx with rfl | hx
   ·exact Nat.le_refl _
   ·rw [List.pairwise_cons] at hB
    rw [L_between hmt (ltm b (.inr List.mem_cons_self)) (ltm x (.inr (List.mem_cons_of_mem _ hx))) (hB1 b List.mem_cons_self) (hB.1 x hx)]
    exact Nat.min_le_left _ _
  have aL : ∀ a A', A = A' ++ [a] → ∀ x ∈ A, L t (m + 1) x ≤ L t (m + 1) a := fun a A' e x hx => by
   subst e
   have ha : a ∈ A' ++ [a] := by simp
   have nm : ∀ y, y ∈ A' ++ [a] → m + 1 ≠ y := fun y hy => by have := (inm y).mp (.inl hy); lia
   rcases List.mem_append.mp hx with hx' | hx'
   ·rw [List.pairwise_append] at hA
    rw [L_comm (nm x hx) hmt (ltm x (.inl hx)),L_comm (nm a ha) hmt (ltm a (.inl ha)),L_between (ltm x (.inl hx)) (ltm a (.inl ha)) hmt (hA.2.2 x hx' a (by simp)) (hAB a ha _ List.mem_cons_self)]
    exact Nat.min_le_right _ _
   ·rw [List.mem_singleton] at hx'; subst hx'; exact Nat.le_refl _
  rw [List.range_succ,List.map_append,List.map_cons,List.map_nil]
  have goal : (lpf t (m + 1) :: (0 :: adj t (A ++ B))).Perm (0 :: adj t (A ++ (m + 1) :: B)) := by
   rcases List.eq_nil_or_concat A with rfl | ⟨A', a, rfl⟩
   ·cases B with
    | nil => have := (inm 0).mpr (by exact Nat.succ_pos _); simp at this
    | cons b B' =>
     have e : lpf t (m + 1) = L t (m + 1) b := lpf_of (fun q hq => by
      rcases (inm q).mpr hq with h | h
      ·cases h
      ·exact bL b B' rfl q h) (.inr ⟨b, (inm b).mp (.inr List.mem_cons_self), rfl⟩)
     rw [e]
     simp only [List.nil_append]
     rw [adj]
     exact List.Perm.swap _ _ _
   ·have ha : a ∈ A' ++ [a] := by simp
    have nm : ∀ y, y ∈ A' ++ [a] → m + 1 ≠ y := fun y hy => by have := (inm y).mp (.inl (by simpa using hy)); lia
    have ca : L t a (m + 1) = L t (m + 1) a := (L_comm (nm a ha) hmt (ltm a (.inl (by simpa using ha)))).symm
    cases B with
    | nil =>
     have e : lpf t (m + 1) = L t (m + 1) a := lpf_of (fun q hq => by
      rcases (inm q).mpr hq with h | h
      ·exact aL a A' (by simp) q h
      ·cases h) (.inr ⟨a, (inm a).mp (.inl (by simp)), rfl⟩)
     rw [e]
     simp only [List.append_nil,List.concat_eq_append,List.append_assoc,List.cons_append,List.nil_append]
     rw [adj_mid,ca]
     have : adj t [m + 1] = [] := rfl
     rw [this]
     refine (List.Perm.swap _ _ _).trans (.cons _ ?_)
     exact (List.perm_append_singleton _ _).symm
    | cons b B' =>
     have e : lpf t (m + 1) = max (L t (m + 1) a) (L t (m + 1) b) := lpf_of (fun q hq => by
      rcases (inm q).mpr hq with h | h
      ·have := aL a A' (by simp) q h; lia
      ·have := bL b B' rfl q h; lia) (.inr (by
      rcases Nat.le_total (L t (m + 1) a) (L t (m + 1) b) with q | q
      ·exact ⟨b, (inm b).mp (.inr List.mem_cons_self), by lia⟩
      ·exact ⟨a, (inm a).mp (.inl (by simp)), by lia⟩))
     have hb := L_between (ltm a (.inl (by simp))) hmt (ltm b (.inr List.mem_cons_self)) (hAB a (by simp) _ List.mem_cons_self) (hB1 b List.mem_cons_self)
     simp only [List.concat_eq_append,List.append_assoc,List.cons_append,List.nil_append]
     rw [adj_mid,adj_mid,adj,hb,ca,e]
     refine (List.Perm.swap _ _ _).trans (.cons _ ?_)
     have two : ([max (L t (m + 1) a) (L t (m + 1) b)] ++ [min (L t (m + 1) a) (L t (m + 1) b)]).Perm [L t (m + 1) a, L t (m + 1) b] := by
      rcases Nat.le_total (L t (m + 1) a) (L t (m + 1) b) with q | q
      ·rw [Nat.max_eq_right q,Nat.min_eq_left q]; exact List.Perm.swap _ _ _
      ·rw [Nat.max_eq_left q,Nat.min_eq_right q]; exact .refl _
     generalize adj t (A' ++ [a]) = P
     generalize adj t (b :: B') = R
     generalize max (L t (m + 1) a) (L t (m + 1) b) = x1 at *
     generalize min (L t (m + 1) a) (L t (m + 1) b) = x2 at *
     generalize L t (m + 1) a = y1 at *
     generalize L t (m + 1) b = y2 at *
     have h1 : (x1 :: (P ++ x2 :: R)).Perm (P ++ (x1 :: x2 :: R)) := List.perm_middle.symm
     refine h1.trans ?_
     refine List.Perm.append_left P ?_
     exact List.Perm.append_right R two
  have := (ih.cons (lpf t (m + 1))).trans goal
  exact (List.perm_append_singleton _ _).trans this
theorem lpf_all {os : List Nat} (O : Ordd t os) (h : 0 < t.length) : ((List.range t.length).map (lpf t)).Perm (0 :: nearF t os) := by
 obtain ⟨m, hm⟩ : ∃ m, t.length = m + 1 := ⟨t.length - 1, by exact (Nat.sub_add_cancel ‹_›).symm⟩
 rw [nearF_adj,hm]
 exact lpf_perm m os (by lia) (by rw [← hm]; exact O.perm) O.lt
theorem sorted_eq : ∀ {l l' : List Int}, l.Perm l' → l.Pairwise (· ≤ ·) → l'.Pairwise (· ≤ ·) → l = l'
 | [], l', h, _, _ => by have := h.length_eq; cases l' with | nil => rfl | cons _ _ => simp at this
 | a :: r, [], h, _, _ => by have := h.length_eq; simp at this
 | a :: r, b :: r', h, h1, h2 => by
  rw [List.pairwise_cons] at h1 h2
  have e : a = b := by
   have ha : a ∈ b :: r' := h.mem_iff.mp List.mem_cons_self
   have hb : b ∈ a :: r := h.mem_iff.mpr List.mem_cons_self
   rcases List.mem_cons.mp ha with e | ha
   ·exact e
   ·rcases List.mem_cons.mp hb with e | hb
    ·exact e.symm
    ·have := h1.1 b hb; have := h2.1 a ha; lia
  subst e
  rw [sorted_eq (List.Perm.cons_inv h) h1.2 h2.2]
end
end Mine
end

section
open PySem PySem.Calls PyProof.Rows PySem.W
set_option backward.defeqAttrib.useBackward true
set_option maxRecDepth 20000
namespace Mine
section
variable {t : List Nat}
theorem ex_max {P : Nat → Prop} : ∀ p : Nat, (∃ q, q < p ∧ P q) → ∃ q, q < p ∧ P q ∧ ∀ c, c < p → P c → c ≤ q
 | 0, ⟨q, h, _⟩ => by exact absurd ‹_› (Nat.not_lt_zero _)
 | p + 1, ⟨q, h, hq⟩ => by
  by_cases hp : P p
  ·exact ⟨p, by exact Nat.lt_succ_self _, hp, fun c hc _ => by exact Nat.le_of_lt_succ ‹_›⟩
  ·have : q ≠ p := fun e => hp (e ▸ hq)
   obtain ⟨r, h1, h2, h3⟩ := ex_max p ⟨q, by lia, hq⟩
   refine ⟨r, by exact Nat.lt_succ_of_lt ‹_›, h2, fun c hc hc2 => ?_⟩
   have : c ≠ p := fun e => hp (e ▸ hc2)
   exact h3 c (by lia) hc2
noncomputable def phi (s c : Nat) : Nat := if s ≤ c then c else 0
theorem best_lpf {p s : Nat} (hs : 0 < s) (hp : p < t.length) : (bestN (recs t p (t.length - p) (s - 1) (cands p t.length))).1 = phi s (lpf t p) := by
 have hge : ∀ q, q < p → L t p q ≤ lpf t p := fun q hq => mx_ge (List.mem_map.mpr ⟨q, List.mem_range.mpr hq, rfl⟩)
 unfold phi
 by_cases h : s ≤ lpf t p
 ·rw [if_pos h]
  have hex : ∃ q, q < p ∧ L t p q = lpf t p := by
   rcases mx_mem (l := (List.range p).map fun q => L t p q) with h0 | h0
   ·unfold lpf at h; lia
   ·obtain ⟨q, hq, e⟩ := List.mem_map.mp h0
    exact ⟨q, List.mem_range.mp hq, e⟩
  obtain ⟨o, h1, h2, h3⟩ := ex_max p hex
  unfold bestN
  rw [recs_last (c := o) cands_desc (cands_mem.mpr ⟨h1, by lia⟩) (by rw [fv_end]; lia) (fun c hc hoc => ?_) (fun c hc => ?_), fv_end]
  ·exact h2
  ·rw [fv_end,fv_end,h2]
   have h4 := hge c (cands_mem.mp hc).1
   have : L t p c ≠ lpf t p := fun e => by have := h3 c (cands_mem.mp hc).1 e; lia
   lia
  ·rw [fv_end,fv_end,h2]; exact hge c (cands_mem.mp hc).1
 ·rw [if_neg h,recs_nil fun c hc => ?_]
  ·rfl
  ·rw [fv_end]; have := hge c (cands_mem.mp hc).1; lia
theorem beqL {l l' : List V} : (V.list l).beq (.list l') = V.beqs l l' := by simp only [V.beq,V.beqs,V.py,PyData.eqv]
theorem beqs_self : ∀ {l : List V}, (∀ v ∈ l, v.beq v = true) → V.beqs l l = true := fun {l} => List.rec (fun _ => rfl) (fun v r ih h => by
 simp only [V.beqs,V.pys,PyData.eqvAll,Bool.and_eq_true]
 exact ⟨h v (.head _), ih fun u m => h u (.tail _ m)⟩) l
theorem beqs_map {α : Type} {g : α → V} (h : ∀ x, (g x).beq (g x) = true) (l : List α) : V.beqs (l.map g) (l.map g) = true := beqs_self fun _ m => (List.mem_map.mp m).elim fun x e => e.2 ▸ h x
theorem beq_int (i : Int) : (V.int i).beq (.int i) = true := by simp only [V.beq,V.py,PyData.eqv,beq_self_eq_true]
theorem beqs_ints (l : List Int) : V.beqs (l.map .int) (l.map .int) = true := beqs_map beq_int l
theorem beq_pairN (x : Nat × Nat) : (pairN x).beq (pairN x) = true := by simp only [pairN,V.beq,V.py,V.pys,PyData.eqv,PyData.eqvAll,beq_self_eq_true,Bool.and_self]
theorem beqs_pairs (l : List (Nat × Nat)) : V.beqs (l.map pairN) (l.map pairN) = true := beqs_map beq_pairN l
theorem data_ints (l : List Int) : (V.list (l.map .int)).data = true := by
 unfold V.data V.dataN
 rw [List.all_eq_true]
 intro v hv
 obtain ⟨x, _, rfl⟩ := List.mem_map.mp hv
 rfl
theorem data_pair (x : Nat × Nat) : (pairN x).data = true := dataN_pair x 7
end
section
variable {X : Cx} {k : Nat}
variable {σ : AHeap} {f : Addr} {t : List Nat} {least w : Nat} {foot : Addr → Prop} {Inv : Nat → AHeap → Prop} {Q : V → AHeap → Prop}
noncomputable def nearV (t os : List Nat) : V := .list ((nearF t os).map intV)
theorem pairs_in (F : Fns X) (Z : Fi X k t least w f foot Inv) {i most row : Nat} (hI : Inv i σ) {os : List Nat} (O : Ordd t os) (hr : row < os.length) {R : Fl → List V → AHeap → Prop} : ∀ (gs : List (Nat × Nat)) (c : Nat) (z1 z2 z3 : V), Walk t (os.getD row 0) (nearF t os) os row c gs → (∀ x ∈ gs, row ≤ x.1 ∧ x.2 < t.length) →
  (∀ c z1 z2 z3, R .next [.ref f, ordV os, nearV t os, .int most, .int row, c, z1, z2, z3] σ) →
  forP (Tg.v 6) (fun ρ σ Q => wpSs X (k + 2) f_law_pairs_right_b1 ρ σ Q) R (gs.map fun x => V.int ((x.1 : Int) + 1)) [.ref f, ordV os, nearV t os, .int most, .int row, .int c, z1, z2, z3] σ
 | [], c, z1, z2, z3, _, _, hR => by simpa [forP] using hR _ _ _ _
 | (g, o) :: gs, c, z1, z2, z3, ⟨⟨e, h1, h2⟩, h3, h4, hw⟩, hg, hR => by
  simp only [List.map_cons,forP]
  have IH := fun z1 z2 z3 => pairs_in F Z hI O hr (R := R) (most := most) gs (L t (os.getD row 0) o) z1 z2 z3 hw (fun x hx => hg x (List.mem_cons_of_mem _ hx)) hR
  generalize hK : forP _ _ R (gs.map _) = K at IH
  obtain ⟨hg1, hg2⟩ := hg (g, o) List.mem_cons_self
  simp only at hg1 hg2
  rw [if_neg (by exact Nat.not_lt.mpr ‹_›)] at h3
  obtain ⟨C, fs, ch, isC, M⟩ := Z.mt _ _ hI
  unfold ordV nearV at IH ⊢
  repeat (first | simp only [we_v,we_int,we_bin,we_idx,we_min2,ws_asg,wl_cons,gI,gL,bI,oS,iL,inL,agV,qa,qb,qc,qd,f_law_pairs_right_b1] | ((with_reducible apply tail);case e=>rfl))
  have e0 : ((g : Int) + 1 - 1).toNat = g := by lia
  have e1 : ((g : Int) + 1).toNat = g + 1 := by rfl
  refine ⟨by lia, _, by rw [e0,List.getElem?_map,h1]; rfl, ?_⟩
  repeat (first | simp only [we_v,we_idx,we_tup,wz_nil,wz_cons,ws_asg,wl_cons,gI,gL,iL,inL,agT,setAll,qa,qb,qc,qd,Nat.reduceAdd,true_and,Nat.reduceEqDiff,Nat.reduceLeDiff,qe,qf,Int.toNat_natCast,intV] | ((with_reducible apply tail);case e=>rfl))
  refine ⟨by exact Int.natCast_nonneg _, _, by rw [List.getElem?_map,getD_get hr]; rfl, by exact Int.natCast_nonneg _, _, by rw [e1,List.getElem?_map,h3]; rfl, ?_⟩
  repeat (first | simp only [we_v,we_bool,we_cmp,we_meth,we_min2,we_max2,wz_nil,wz_cons,ws_ife,ws_ret,wl_nil,wl_cons,gI,gR,tB,mR,inL,qa,qb,intV] | ((with_reducible apply tail);case e=>rfl))
  have em : min (c : Int) (e : Int) = ((L t (os.getD row 0) o : Nat) : Int) := imin.trans (congrArg Nat.cast ‹L t (os.getD row 0) o = min c e›.symm)
  rw [em]
  have hpo := O.get_lt hr
  generalize hq : os.getD row 0 = q at *
  have ex : max (q : Int) (o : Int) = ((max q o : Nat) : Int) := imax
  have en : min (q : Int) (o : Int) = ((min q o : Nat) : Int) := imin
  rw [ex,en]
  repeat (first | simp only [insL,true_and,M.obj,M.nom 19 (by decide)] | ((with_reducible apply tail);case e=>rfl))
  refine ⟨145, isC.m19, ?_⟩
  refine length_c (k := k) F isC M (by lia) (by lia) ?_
  repeat (first | simp only [cI,pNe,Bool.not_true,decide_eq_false_iff_not,Bool.not_eq_eq_eq_not] | ((with_reducible apply tail);case e=>rfl))
  have hLL : L t (max q o) (min q o) = L t q o := by
   rcases Nat.le_total q o with h | h
   ·rw [Nat.max_eq_right h,Nat.min_eq_left h]; exact L_comm h4 hg2 hpo
   ·rw [Nat.max_eq_left h,Nat.min_eq_right h]
  have hl1 := (L_le (t := t) (p := max q o) (q := min q o)).1
  have e5 : ((min (L t (max q o) (min q o)) (min most (t.length - max q o)) : Nat) : Int) = min ((L t q o : Nat) : Int) (most : Int) := by rw [← Nat.min_assoc,Nat.min_eq_left (Nat.le_trans (Nat.min_le_left _ _) hl1),hLL,imin]
  rw [e5]
  refine neg (by simp) ?_
  exact IH _ _ _
theorem pairs_c (F : Fns X) (Z : Fi X k t least w f foot Inv) {i most : Nat} (hI : Inv i σ) {os : List Nat} (O : Ordd t os) (hn : t.length ≤ 20) :
  WC X (k + 3) (.ref 379) [.ref f, ordV os, nearV t os, .int most] σ (fun v σ' => v = .bool true ∧ σ' = σ) := by
 refine wc_of F F.law_pairs_right rfl ?_
 have hlen := O.len
 repeat (first | simp only [we_v,we_len,wi_r1,ws_forr,wl_cons,gL,nL,rg1,retQ,initR,qa,qb,qh,qg,qj,qi,Nat.reduceSub,Int.toNat_natCast,List.length_map,f_law_pairs_right,f_law_pairs_right_b,ordV,small] | ((with_reducible apply tail);case e=>rfl))
 refine ⟨by lia, ?_⟩
 refine forP_inv (fun items ρ σ' => σ' = σ ∧ (∀ x ∈ items, ∃ row, row < os.length ∧ x = V.int (row : Nat)) ∧ ∃ z1 z2 z3 z4 z5, ρ = [.ref f, ordV os, nearV t os, .int most, z1, z2, z3, z4, z5]) ?_ ?_ _ _ _ ⟨rfl, ?_, _, _, _, _, _, rfl⟩
 ·rintro x r ρ σ' K ⟨rfl, hx, z1, z2, z3, z4, z5, rfl⟩ hK _ _
  obtain ⟨row, hrow, rfl⟩ := hx x List.mem_cons_self
  have hx' := fun y hy => hx y (List.mem_cons_of_mem _ hy)
  repeat (first | simp only [we_v,we_int,we_bin,we_len,wi_r2,ws_asg,ws_forr,wl_nil,wl_cons,gI,gL,bI,oA,nL,rg2,agV,qa,qb,qc,qd,List.length_map,f_law_pairs_right_b2,ordV,small] | ((with_reducible apply tail);case e=>rfl))
  refine ⟨by lia, by lia, ?_⟩
  have wr := right_walk O hrow rfl (os.length - 1 - row) 0 t.length (by show row + (os.length - 1 - row) + 1 = os.length; rw [Nat.add_sub_cancel' (Nat.le_sub_one_of_lt hrow),Nat.sub_add_cancel (Nat.zero_lt_of_lt hrow)]) (fun _ => rfl) (fun h => by exact absurd ‹_› (Nat.not_lt_zero _))
  simp only [Nat.add_zero] at wr
  have eR : (List.range ((os.length : Int) - ((row : Int) + 1)).toNat).map (fun (i : Nat) => V.int ((row : Int) + 1 + (i : Int))) = (rightL os row (os.length - 1 - row)).map fun x => V.int ((x.1 : Int) + 1) := by
   unfold rightL
   rw [List.map_map,show ((os.length : Int) - ((row : Int) + 1)).toNat = os.length - 1 - row by lia]
   apply List.map_congr_left
   intro i hi
   simp only [Function.comp]
   congr 1
   lia
  rw [eR]
  have := pairs_in F Z hI O hrow (most := most) (R := fun fl ρ' σ' => match fl with | .next => K .next ρ' σ' | .brk => K .brk ρ' σ' | .ret v => K (.ret v) ρ' σ') (rightL os row (os.length - 1 - row)) os.length z3 z4 z5 (by rw [hlen] at wr ⊢; exact wr) (fun x hx => ?_) (fun c z1 z2 z3 => hK _ _ ⟨rfl, hx', _, _, _, _, _, rfl⟩)
  ·unfold ordV at this
   exact this
  ·unfold rightL at hx
   obtain ⟨i, hi, rfl⟩ := List.mem_map.mp hx
   rw [List.mem_range] at hi
   exact ⟨by simp, O.get_lt (by lia)⟩
 ·rintro ρ σ' ⟨rfl, _, z1, z2, z3, z4, z5, rfl⟩
  repeat (first | simp only [we_bool,ws_ret,wl_nil,wl_cons,retQ,reduceCtorEq,and_true] | ((with_reducible apply tail);case e=>rfl))
 ·intro x hx
  obtain ⟨i, hi, rfl⟩ := List.mem_map.mp hx
  rw [List.mem_range] at hi
  exact ⟨i, by lia, rfl⟩
theorem narrow_c (F : Fns X) (Z : Fi X k t least w f foot Inv) (hI : Inv 0 σ) {os : List Nat} (O : Ordd t os) {most : Nat} (hs : 0 < least) (hls : least ≤ 30) (hm : most ≤ 30) (hn : t.length ≤ 20) :
  WC X (k + 2) (.ref 389) [.ref f, ordV os, nearV t os, .list [.int least, .int w, .int most]] σ (fun v σ' => v = .bool true) := by
 refine wc_of F F.law_narrow_right rfl ?_
 have hlen := O.len
 repeat (first | simp only [we_v,we_len,wi_r1,ws_asg,ws_forr,wl_cons,gL,nL,rg1,agL,setAll,retQ,initR,qa,qb,qc,qd,qh,qg,qj,qi,Nat.reduceSub,Nat.reduceAdd,true_and,qe,qf,Int.toNat_natCast,List.length_map,f_law_narrow_right,f_law_narrow_right_b,ordV,small] | ((with_reducible apply tail);case e=>rfl))
 refine ⟨by lia, ?_⟩
 refine forP_inv (fun items ρ σ' => ∃ i z1 z2, i ≤ t.length ∧ items = (List.range (t.length - i)).map (fun (j : Nat) => V.int ((i : Int) + (j : Int))) ∧ Inv i σ' ∧
   ρ = [.ref f, ordV os, nearV t os, .list [.int least, .int w, .int most], .int least, .int w, .int most, z1, z2, .undef]) ?_ ?_ _ _ _ ⟨0, _, _, by exact Nat.zero_le _, ?_, hI, rfl⟩
 ·rintro x r ρ σ' K ⟨i, z1, z2, hi, hx, hI, rfl⟩ hK _ _
  have hit : i < t.length := by
   rcases Nat.lt_or_ge i t.length with h | h
   ·exact h
   ·rw [show t.length - i = 0 by lia] at hx; simp at hx
  rw [show t.length - i = (t.length - (i + 1)) + 1 by lia,List.range_succ_eq_map,List.map_cons,List.map_map,List.cons.injEq] at hx
  obtain ⟨rfl, rfl⟩ := hx
  rw [show ((i : Int) + ((0 : Nat) : Int)) = (i : Int) by lia]
  unfold nearV
  repeat (first | simp only [we_v,we_callf,wz_nil,wz_cons,ws_asg,wl_cons,gI,gL,agV,qa,qb,qc,qd,f_law_narrow_right_b1,ordV] | ((with_reducible apply tail);case e=>rfl))
  refine (sides_c (k := k) F O hit hn).mono fun v σ1 ⟨⟨row, hr, he, ev⟩, E1⟩ => ?_
  subst ev
  have S := sides_of (w := w) O hit hr he
  have I1 := Z.keep i _ _ hI fun a o _ h => E1 a o h
  obtain ⟨C, fs, fn, a1, a2, a3, a4⟩ := Z.every i σ1 most I1 hit
  repeat (first | simp only [we_v,we_bool,we_cmp,we_callf,we_meth,we_tuple,we_comp,wz_nil,wz_cons,wi_e,ws_ife,ws_ret,wl_nil,wl_cons,gI,gL,gR,tB,cNL,thL,mR,insL,agV,mkList,qa,qb,qc,qd,true_and,if_true,if_false,Bool.false_eq_true,Bool.not_true,Bool.not_eq_eq_eq_not,wpG,clr,Gs.slots,Tg.slots,Option.getD_some,List.append_nil,List.foldl_cons,List.foldl_nil,a1,a2] | ((with_reducible apply tail);case e=>rfl))
  refine ⟨fn, a3, ?_⟩
  refine (a4.le (by exact Nat.le_succ _)).mono fun v σ2 ⟨ev, E2⟩ => ?_
  subst ev
  have I2 := Z.keep i _ _ I1 fun a o _ h => E2 a o h
  have hrl : ∀ l : List Nat, ∀ v, (recs t i (min most (t.length - i)) v l).length ≤ l.length := by
   intro l
   induction l with
   | nil => intro v; simp [recs]
   | cons c l ih => intro v; rw [recs]; split <;> simp <;> have := ih v <;> have := ih (fv t i (min most (t.length - i)) c) <;> lia
  have hrl2 := hrl (cands i w) (least - 1)
  have hcl : (cands i w).length ≤ 20 := by unfold cands; simp; lia
  have hout : ∀ σ, WC X (k + 1) (.ref 372) [.list [sideV t i w ((leftL os row).map (·.2)), sideV t i w ((rightL os row (os.length - 1 - row)).map (·.2))], .int i, .int least, .int most] σ (fun v σ' => v = .list ((recs t i (min most (t.length - i)) (least - 1) (cands i w)).map pairN) ∧ Ext σ σ') := fun σ =>
   outwards_c F S hs hn hit (Nat.le_trans (List.length_filter_le _ _) (by simp [leftL]; lia)) (Nat.le_trans (List.length_filter_le _ _) (by simp [rightL]; lia)) hm hls
  have hlon : ∀ σ, WC X (k + 1) (.ref 367) [.list [sideV t i w ((leftL os row).map (·.2)), sideV t i w ((rightL os row (os.length - 1 - row)).map (·.2))], .int i, .int least] σ (fun v σ' => v = pairN (bestN (recs t i (t.length - i) (least - 1) (cands i w))) ∧ σ' = σ) := fun σ =>
   longest_c F S hs hn hit (Nat.le_trans (List.length_filter_le _ _) (by simp [leftL]; lia)) (Nat.le_trans (List.length_filter_le _ _) (by simp [rightL]; lia))
  generalize recs t i (min most (t.length - i)) (least - 1) (cands i w) = rl at *
  repeat (first | simp only [fL,liL] | ((with_reducible apply tail);case e=>rfl))
  refine fold_map (fun _ => True) pairN (fun x => [pairN x]) 900 ?_ rl _ (fun _ _ => trivial) (by rw [flat1]; simp; lia) ?_
  ·intro x acc K _ hN hK
   simp only [List.length_singleton] at hN
   unfold pairN at hK ⊢
   repeat (first | simp only [gT,tuL] | ((with_reducible apply tail);case e=>rfl))
   exact ⟨by lia, hK⟩
  rw [flat1,qg]
  refine ⟨by simp; lia, ?_⟩
  refine (hout σ2).mono fun v σ3 ⟨ev, E3⟩ => ?_
  subst ev
  have I3 := Z.keep i _ _ I2 fun a o _ h => E3 a o h
  repeat (first | simp only [thL] | ((with_reducible apply tail);case e=>rfl))
  refine ⟨data_pairs _, data_pairs _, neg ?_ ?_⟩
  ·rw [beqL,beqs_pairs]; simp
  obtain ⟨C, fs, ch, isC, M⟩ := Z.mt _ _ I3
  repeat (first | simp only [we_v,we_bool,we_cmp,we_callf,we_meth,we_len,we_tuple,wz_nil,wz_cons,ws_ife,ws_ret,wl_nil,wl_cons,gI,gL,gR,tB,cNT,thT,mR,nL,insL,qa,qb,true_and,Bool.not_true,List.length_map,Bool.not_eq_eq_eq_not,M.obj,M.nom 23 (by decide)] | ((with_reducible apply tail);case e=>rfl))
  refine ⟨180, isC.m23, ?_⟩
  have hlc : ((os.length : Nat) : Int) = ((t.length : Nat) : Int) := by lia
  rw [hlc]
  refine best_c F Z I3 hit fun σ4 E4 => ?_
  have I4 := Z.keep i _ _ I3 fun a o _ h => E4 a o h
  rw [show min t.length (t.length - i) = t.length - i by lia]
  generalize hbv : bestN (recs t i (t.length - i) (least - 1) (cands i w)) = bv at hlon ⊢
  have ebv : pairN bv = .tup [.int (bv.1 : Nat), .int (bv.2 : Nat)] := rfl
  rw [ebv]
  repeat (first | simp only [tuL] | ((with_reducible apply tail);case e=>rfl))
  refine (hlon σ4).mono fun v σ5 ⟨ev, e5⟩ => ?_
  subst ev
  subst e5
  rw [ebv]
  repeat (first | simp only [thT] | ((with_reducible apply tail);case e=>rfl))
  have ebq := beq_pairN bv
  rw [ebv] at ebq
  refine ⟨data_pair bv, data_pair bv, neg ?_ ?_⟩
  ·rw [ebq]; simp
  obtain ⟨C, fs, ch, isC, M⟩ := Z.mt _ _ I4
  repeat (first | simp only [we_v,we_meth,wz_nil,wz_cons,ws_expr,wl_nil,wl_cons,gI,gR,mR,insL,qa,qb,true_and,M.obj,M.nom 15 (by decide)] | ((with_reducible apply tail);case e=>rfl))
  refine ⟨117, isC.m15, ?_⟩
  refine ((Z.put i _ I4 hit).le (by exact Nat.le_succ _)).mono fun v σ6 ⟨I6, _⟩ => ?_
  refine hK _ _ ⟨i + 1, _, _, by assumption, ?_, I6, rfl⟩
  apply List.map_congr_left
  intro j _
  simp only [Function.comp]
  congr 1
  lia
 ·rintro ρ σ' ⟨i, z1, z2, hi, hx, hI, rfl⟩
  repeat (first | simp only [we_bool,ws_ret,wl_nil,wl_cons,retQ,reduceCtorEq] | ((with_reducible apply tail);case e=>rfl))
 ·rw [hlen]
  simp
end
end Mine
end

section
open PySem PySem.Calls PyProof.Rows PySem.W
set_option backward.defeqAttrib.useBackward true
set_option maxRecDepth 20000
namespace Mine
section
variable {X : Cx} {k : Nat}
variable {σ : AHeap} {f : Addr} {t : List Nat} {least : Nat} {foot : Addr → Prop} {Inv : Nat → AHeap → Prop} {Q : V → AHeap → Prop}
noncomputable def SidesL (t : List Nat) (sl : List V) : Prop := sl.length = t.length ∧ ∀ p, p < t.length → ∃ l1 l2, sl[p]? = some (.list [sv t p l1, sv t p l2]) ∧ Sides t p t.length l1 l2 ∧ l1.length ≤ 30 ∧ l2.length ≤ 30
noncomputable def bst (t : List Nat) (s p : Nat) : Nat × Nat := bestN (recs t p (t.length - p) (s - 1) (cands p t.length))
theorem wide_c (F : Fns X) (Z : Fi X k t least t.length f foot Inv) (hI : Inv 0 σ) {os : List Nat} (O : Ordd t os) {sl : List V} (SL : SidesL t sl) (hs : 0 < least) (hls : least ≤ 30) (h0 : 0 < t.length) (hn : t.length ≤ 20) :
  WC X (k + 2) (.ref 384) [.ref f, nearV t os, .list sl, .int least] σ (fun v σ' => v = .bool true ∧ Fram foot σ σ') := by
 refine wc_of F F.law_wide_right rfl ?_
 have hlen := O.len
 obtain ⟨sl1, sl2⟩ := SL
 have hnl : (nearF t os).length = t.length - 1 := by unfold nearF; simp; lia
 unfold nearV
 repeat (first | simp only [we_v,we_tup,we_nlst,we_len,wz_nil,wz_cons,ws_asg,wl_cons,gL,nL,agT,setAll,retQ,initR,mkList,qa,qb,qc,qd,qh,qg,qj,qi,Nat.reduceSub,Nat.reduceAdd,true_and,if_true,Nat.reduceEqDiff,Nat.reduceLeDiff,qe,qf,f_law_wide_right,f_law_wide_right_b] | ((with_reducible apply tail);case e=>rfl))
 intro a ha
 repeat (first | simp only [we_v,we_int,we_cmp,we_ite,we_comp,wi_r1,ws_asg,ws_forr,wl_cons,wl_fz,gI,tB,rg1,agV,retQ,mkList,qa,qb,if_false,Bool.false_eq_true,Int.toNat_natCast,small] | ((with_reducible apply tail);case e=>rfl))
 refine ⟨by lia, ?_⟩
 rw [sl1]
 have nfa : ¬ foot a := fun h => Z.live _ _ hI a h ha
 refine forP_inv (fun items ρ σ' => ∃ i z1, i ≤ t.length ∧ items = (List.range (t.length - i)).map (fun (j : Nat) => V.int ((i : Int) + (j : Int))) ∧ Inv i σ' ∧ Fram foot σ σ' ∧ σ' a = some (.list (((List.range i).map (bst t least)).map pairN)) ∧
   ρ = [.ref f, .list ((nearF t os).map intV), .list sl, .int least, .int t.length, .ref a, z1, .undef, .undef, .undef, .undef, .undef]) ?_ ?_ _ _ _ ⟨0, _, by exact Nat.zero_le _, ?_, Z.keep _ _ _ hI fun b o _ h => (Ext.upd ha) b o h, (Ext.upd ha).fram, upd_self, rfl⟩
 ·rintro x r ρ σ' K ⟨i, z1, hi, hx, hI, hF, hA, rfl⟩ hK _ _
  have hit : i < t.length := by
   rcases Nat.lt_or_ge i t.length with h | h
   ·exact h
   ·rw [show t.length - i = 0 by lia] at hx; simp at hx
  rw [show t.length - i = (t.length - (i + 1)) + 1 by lia,List.range_succ_eq_map,List.map_cons,List.map_map,List.cons.injEq] at hx
  obtain ⟨rfl, rfl⟩ := hx
  rw [show ((i : Int) + ((0 : Nat) : Int)) = (i : Int) by lia]
  obtain ⟨C, fs, ch, isC, M⟩ := Z.mt _ _ hI
  repeat (first | simp only [we_v,we_meth,we_tuple,we_lappend,wz_nil,wz_cons,ws_expr,wl_cons,gI,gR,mR,apR,lR,insL,agV,qa,qb,qc,qd,true_and,Option.isSome_some,f_law_wide_right_b1,hA,M.obj,M.nom 23 (by decide)] | ((with_reducible apply tail);case e=>rfl))
  refine ⟨180, isC.m23, ?_⟩
  refine best_c F Z hI hit fun σ1 E1 => ?_
  have I1 := Z.keep i _ _ hI fun a o _ h => E1 a o h
  rw [show min t.length (t.length - i) = t.length - i by lia]
  have hA1 := E1 _ _ hA
  have ebv : pairN (bestN (recs t i (t.length - i) (least - 1) (cands i t.length))) = .tup [.int ((bst t least i).1 : Nat), .int ((bst t least i).2 : Nat)] := rfl
  rw [ebv]
  repeat (first | simp only [lsL,tuL,List.length_map,hA1] | ((with_reducible apply tail);case e=>rfl))
  refine ⟨by simp; lia, ?_⟩
  have naf : a ≠ f := fun e => nfa (e ▸ Z.self)
  have E2 : ∀ b o, foot b → σ1 b = some o → upd σ1 a (.list (((List.range i).map (bst t least)).map pairN ++ [.tup [.int ((bst t least i).1 : Nat), .int ((bst t least i).2 : Nat)]])) b = some o := fun b o hb h => by
   rw [upd_ne (show b ≠ a from fun e => nfa (e ▸ hb))]; exact h
  have I2 := Z.keep i _ _ I1 E2
  obtain ⟨C, fs, ch, isC, M⟩ := Z.mt _ _ I2
  repeat (first | simp only [we_v,we_meth,wz_nil,wz_cons,ws_expr,wl_nil,wl_cons,gI,gR,mR,insL,qa,qb,true_and,M.obj,M.nom 15 (by decide)] | ((with_reducible apply tail);case e=>rfl))
  refine ⟨117, isC.m15, ?_⟩
  refine ((Z.put i _ I2 hit).le (by exact Nat.le_succ _)).mono fun v σ3 ⟨I3, F3⟩ => ?_
  refine hK _ _ ⟨i + 1, _, by assumption, ?_, I3, ?_, ?_, rfl⟩
  ·apply List.map_congr_left
   intro j _
   simp only [Function.comp]
   congr 1
   lia
  ·intro b o hb e
   have nb : b ≠ a := fun q => by rw [q,ha] at e; cases e
   exact F3 b o hb (by rw [upd_ne nb]; exact E1 _ _ (hF b o hb e))
  ·rw [F3 a _ nfa upd_self,List.range_succ,List.map_append,List.map_append]
   rfl
 ·rintro ρ σ' ⟨i, z1, hi, hx, hI, hF, hA, rfl⟩
  have hit : i = t.length := by
   have := congrArg List.length hx
   simp at this
   lia
  subst hit
  repeat (first | simp only [we_v,we_bool,wi_e,gI,gL,gR,tB,lsL,fL,reL,liL,agV,qa,qb,qc,qd,if_true,fzP,hA,wpG,clr,Gs.slots,Tg.slots,Option.getD_some,List.append_nil,List.foldl_cons,List.foldl_nil] | ((with_reducible apply tail);case e=>rfl))
  refine fold_map (fun _ => True) intV (fun c => [intV (phi least c)]) 900 ?_ (nearF t os) _ (fun _ _ => trivial) (by rw [flat1]; simp; lia) ?_
  ·intro c acc K _ hN hK
   simp only [List.length_singleton] at hN
   unfold intV at hK ⊢
   repeat (first | simp only [gI,cI,pGe,decide_eq_true_eq] | ((with_reducible apply tail);case e=>rfl))
   refine ⟨by lia, ?_⟩
   unfold phi at hK
   by_cases h : least ≤ c
   ·rw [if_pos h] at hK
    exact pos (by exact Int.ofNat_le.mpr ‹_›) hK
   ·rw [if_neg h] at hK
    exact neg (by exact mt Int.ofNat_le.mp ‹_›) hK
  rw [flat1,qg]
  refine ⟨by simp; lia, ?_⟩
  refine fold_map (fun _ => True) pairN (fun x => [intV x.1]) 900 ?_ ((List.range t.length).map (bst t least)) _ (fun _ _ => trivial) (by rw [flat1]; simp; lia) ?_
  ·intro x acc K _ hN hK
   simp only [List.length_singleton] at hN
   unfold pairN
   unfold intV at hK
   repeat (first | simp only [we_v,we_bool,tB,agT,setAll,Nat.reduceAdd,true_and,if_true,qe,qf] | ((with_reducible apply tail);case e=>rfl))
   exact ⟨by lia, hK⟩
  rw [flat1,qg]
  refine ⟨by simp; lia, ?_⟩
  have em1 : ((List.range t.length).map (bst t least)).map (fun x => intV x.1) = ((List.range t.length).map fun p => phi least (lpf t p)).map intV := by
   rw [List.map_map,List.map_map]
   apply List.map_congr_left
   intro p hp
   rw [List.mem_range] at hp
   simp only [Function.comp]
   unfold bst
   rw [best_lpf hs hp]
  rw [em1]
  repeat (first | simp only [we_v,we_int,we_bool,we_bin,we_lst,we_sorted,wz_nil,wz_cons,ws_ret,wl_nil,wl_cons,gL,tB,cNL,thL,bL,lL,lR,liL,retQ,mkList,qa,qb,qh,qg,true_and,if_false,Bool.false_eq_true,Bool.not_true,Nat.reduceLeDiff,qe,qf,List.length_map,Bool.not_eq_eq_eq_not,sortP,ints_nat] | ((with_reducible apply tail);case e=>rfl))
  refine ⟨by simp; lia, fun y1 hy1 hs1 => ?_⟩
  have em2 : V.int 0 :: (nearF t os).map (fun c => intV (phi least c)) = (0 :: (nearF t os).map (phi least)).map intV := by
   rw [List.map_cons,List.map_map]; rfl
  rw [em2]
  repeat (first | simp only [ints_nat] | ((with_reducible apply tail);case e=>rfl))
  refine ⟨by lia, by lia, fun y2 hy2 hs2 => ?_⟩
  have hperm : ((List.range t.length).map fun p => phi least (lpf t p)).Perm (0 :: (nearF t os).map (phi least)) := by
   have h1 := (lpf_all O h0).map (phi least)
   rw [List.map_map,List.map_cons] at h1
   have h2 : phi least 0 = 0 := by unfold phi; rw [if_neg (by exact Nat.not_le.mpr ‹_›)]
   rw [h2] at h1
   exact h1
  have hyy : y1 = y2 := sorted_eq ((hy1.trans (hperm.map _)).trans hy2.symm) hs1 hs2
  subst hyy
  repeat (first | simp only [we_v,we_int,we_bool,we_str,we_none,we_neg,we_nowhere,we_bin,we_cmp,we_cmp2,we_isnone,we_and,we_or,we_not,we_ite,we_idx,we_last,we_slice,we_rev,we_attr,we_layers,we_treesize,we_tup,we_lst,we_nlst,we_ndict,we_frz,we_callf,we_meth,we_cmeth,we_len,we_min2,we_max2,we_max1,we_bytes,we_tuple,we_sorted,we_listr,we_lappend,we_dget,we_lindex,we_nrep,we_ncat,we_comp,wz_nil,wz_cons,wi_e,wi_r1,wi_r2,wi_r3,ws_asg,ws_setattr,ws_setidx,ws_aug,ws_ife,ws_forr,ws_wh,ws_ret,ws_retn,ws_brk,ws_pass,ws_raise,ws_expr,wl_nil,wl_cons,wl_fz,gN,gB,gI,gS,gY,gT,gL,gR,tB,cI,cS,cEL,cER,cNL,cNT,thL,thT,thR,pLt,pLe,pGt,pGe,pEq,pNe,bI,bL,oA,oS,oM,oD,oR,oP,aR,kR,mR,lsL,nY,nT,nL,nR,iY,iT,iL,iR,laL,laR,b00,b10,b01,b11,sY,sL,sR,rY,rR,dR,iD,apR,fzR,saR,siR,fT,fL,fY,lL,lR,rg1,rg2,rg3,insL,diL,inL,reL,tuL,liL,byB,byL,byR,isn,isi,agV,agT,agL,setAll,putF,retQ,initR,mkList,qa,qb,qc,qd,List.set_nil,qh,qg,qj,qi,Nat.reduceSub,Nat.reduceAdd,Option.some.injEq,exists_eq_left',ne_eq,reduceCtorEq,not_false_eq_true,true_and,and_true,if_true,if_false,Bool.true_eq_false,Bool.false_eq_true,Option.isSome_some,Nat.reduceBEq,List.lookup_nil,lookup_hit,lookup_miss,bne_self_eq_false,Bool.not_true,Bool.not_false,decide_true,decide_false,ite_true,ite_false,reduceIte,Nat.reduceEqDiff,Nat.reduceLT,Nat.reduceLeDiff,qe,qf,decide_eq_true_eq,Bool.not_eq_true',decide_eq_false_iff_not,Int.toNat_natCast,List.length_map,Bool.and_eq_true,Bool.or_eq_true,Bool.not_eq_eq_eq_not,Bool.not_eq_true,Bool.not_eq_false] | ((with_reducible apply tail);case e=>rfl))
  refine ⟨data_ints _, data_ints _, neg ?_ ?_⟩
  ·rw [beqL,beqs_ints]; simp
  refine ⟨⟨by exact Int.natCast_nonneg _, by lia⟩, ?_⟩
  have eL : (V.list ((List.range t.length).map fun p => pairN (bst t least p))).beq (.list ((List.range t.length).map fun p => pairN (bst t least p))) = true := by
   rw [beqL]
   have := beqs_pairs ((List.range t.length).map (bst t least))
   rw [List.map_map] at this
   exact this
  refine fold_map (fun p => p < t.length) (fun (p : Nat) => V.int (p : Int)) (fun p => [pairN (bst t least p)]) 900 ?_ (List.range t.length) _ (fun p hp => List.mem_range.mp hp) (by rw [flat1]; simp; lia) ?_
  ·intro p acc K hp hN hK
   simp only [List.length_singleton] at hN
   obtain ⟨l1, l2, g1, S, b1, b2⟩ := sl2 p hp
   repeat (first | simp only [we_v,we_bool,we_idx,we_callf,wz_nil,wz_cons,tB,agV,if_true] | ((with_reducible apply tail);case e=>rfl))
   refine ⟨by lia, by exact Int.natCast_nonneg _, _, g1, ?_⟩
   refine (longest_c (k := k) F S hs hn hp b1 b2).mono fun v σ4 ⟨ev, es⟩ => ?_
   subst ev
   subst es
   exact hK
  rw [flat1,qg]
  have em3 : ((List.range t.length).map fun p => pairN (bst t least p)) = ((List.range t.length).map (bst t least)).map pairN := by rw [List.map_map]; rfl
  rw [em3]
  repeat (first | simp only [cEL,thL,thR,retQ,mkList,if_false,Bool.false_eq_true,List.length_map] | ((with_reducible apply tail);case e=>rfl))
  refine ⟨by simp; lia, data_pairs _, data_pairs _, by rw [beqL,beqs_pairs], fun b o hb e => ?_⟩
  have nb : b ≠ a := fun q => by rw [q,ha] at e; cases e
  rw [del_ne nb]
  exact hF b o hb e
 ·simp
end
end Mine
end

section
open PySem PySem.Calls PyProof.Rows PySem.W
set_option backward.defeqAttrib.useBackward true
set_option maxRecDepth 20000
namespace Mine
section
variable {X : Cx} {k : Nat}
variable {σ : AHeap} {t : List Nat} {Q : V → AHeap → Prop}
noncomputable def wayS (i : Nat) : V := .str (PySem.Str.ofString (["chain", "tree", "layers"].getD i ""))
theorem for_any (F : Fns X) {i least w ch : Nat} (hi : i < 3) (h2 : i = 2 → least = 2) (hb : ∀ o ∈ t, o < 256) (hl : 0 < least) (hw : 0 < w) (hc : t.length < ch) (hn : t.length ≤ 900) :
  WC X (k + 7) (.ref 317) [wayS i, .bytes t, .int least, .int w, .int ch] σ (NewFi X (k + 6) t least w σ) := by
 refine lt3 (P := fun i => (i = 2 → least = 2) → WC X (k + 7) (.ref 317) [wayS i, .bytes t, .int least, .int w, .int ch] σ (NewFi X (k + 6) t least w σ)) hi (fun _ => for_chain F hb hl hw hc hn) (fun _ => for_tree F hb hl hw hc hn) (fun h2 => ?_) h2
 have := h2 rfl
 subst this
 exact for_layers F hb hw hc hn
theorem any_m (F : Fns X) {i least w ch k' : Nat} (hi : i < 3) (h2 : i = 2 → least = 2) (hb : ∀ o ∈ t, o < 256) (hl : 0 < least) (hw : 0 < w) (hc : t.length < ch) (hn : t.length ≤ 900) (hk : k + 7 ≤ k') {Q : V → AHeap → Prop} (K : ∀ f foot Inv σ', Fi X (k + 6) t least w f foot Inv → Inv 0 σ' → Ext σ σ' → (∀ a, foot a → σ a = none) → Q (.ref f) σ') :
  WC X k' (.ref 317) [wayS i, .bytes t, .int least, .int w, .int ch] σ Q :=
 ((for_any F hi h2 hb hl hw hc hn).le hk).mono fun v σ' h => h.elim fun f h => h.elim fun foot h => h.elim fun Inv h => h.1.symm ▸ K f foot Inv σ' h.2.1 h.2.2.1 h.2.2.2.1 h.2.2.2.2
theorem BoxSt.only {b : Addr} {σ σ' : AHeap} (h : BoxSt σ b) (e : ∀ o, σ b = some o → σ' b = some o) : BoxSt σ' b := by
 obtain ⟨d, s, q⟩ := h
 exact ⟨d, s, e _ q⟩
theorem sl_snoc {acc : List V} {v : V} {P : Nat → V → Prop} (h : ∀ p v, acc[p]? = some v → P p v) (hv : P acc.length v) : ∀ p v', (acc ++ [v])[p]? = some v' → P p v' := by
 intro p v' e
 rcases Nat.lt_trichotomy p acc.length with q | q | q
 ·rw [List.getElem?_append_left q] at e; exact h p v' e
 ·subst q
  rw [List.getElem?_append_right (Nat.le_refl _)] at e
  simp at e
  rw [← e]; exact hv
 ·rw [List.getElem?_eq_none (by simp; lia)] at e; cases e
theorem sh0 {r : Nat} (h : r < 4) : ∃ x : Nat, [V.int 1, V.int 2, V.int 1, V.int 3][r]? = some (.int x) ∧ 0 < x ∧ x ≤ 4 :=
 ltS (P := fun r => ∃ x : Nat, [V.int 1, V.int 2, V.int 1, V.int 3][r]? = some (.int x) ∧ 0 < x ∧ x ≤ 4) ⟨1, rfl, by decide, by decide⟩ (fun r h => lt3 (P := fun r => ∃ x : Nat, [V.int 1, V.int 2, V.int 1, V.int 3][r + 1]? = some (.int x) ∧ 0 < x ∧ x ≤ 4) h ⟨2, rfl, by decide, by decide⟩ ⟨1, rfl, by decide, by decide⟩ ⟨3, rfl, by decide, by decide⟩) h
theorem sh1 {r : Nat} (h : r < 4) : ∃ x : Nat, [V.int 1, V.int 2, V.int 1, V.int 4][r]? = some (.int x) ∧ 0 < x ∧ x ≤ 4 := by
 match r, h with
 | 0, _ => exact ⟨1, rfl, by exact Nat.succ_pos _, by assumption⟩
 | 1, _ => exact ⟨2, rfl, by exact Nat.succ_pos _, by assumption⟩
 | 2, _ => exact ⟨1, rfl, by exact Nat.succ_pos _, by exact Nat.succ_pos _⟩
 | 3, _ => exact ⟨4, rfl, by exact Nat.succ_pos _, by assumption⟩
theorem law2 (F : Fns X) {b : Addr} {os : List Nat} {sl : List V} {s0 s1 : Nat} {sc z9 : V} (hb : ∀ o ∈ t, o < 256) (h5 : 2 ≤ t.length) (hn : t.length ≤ 20) (O : Ordd t os) (B : BoxSt σ b) (hs0 : 0 < s0 ∧ s0 ≤ 4) (hs1 : 0 < s1 ∧ s1 ≤ 4) :
  wpSs X (k + 9) f_law_t4 [sc, .ref b, .bytes t, .int t.length, .list [wayS 0, wayS 1, wayS 2], ordV os, nearV t os, .list sl, .list [.int s0, .int s1, .int 2], z9, .undef, .undef, .undef, .undef] σ (fun fl _ _ => fl = .ret (.bool true)) := by
 repeat (first | simp only [we_v,we_int,we_bin,we_idx,we_tup,we_lst,we_callf,wz_nil,wz_cons,ws_asg,wl_cons,gI,gR,agT,setAll,mkList,qa,qb,qc,qd,Nat.reduceAdd,reduceCtorEq,true_and,if_false,Bool.false_eq_true,Nat.reduceEqDiff,Nat.reduceLeDiff,qe,qf] | ((with_reducible apply tail);case e=>rfl))
 refine take_m (many := 3) (k := k) F B (by exact Nat.succ_pos _) (by decide) (Nat.add_le_add_left (by decide) _) fun r σ1 hr B1 O1 => ?_
 repeat (first | simp only [we_v,we_int,we_bool,we_str,we_none,we_neg,we_nowhere,we_bin,we_cmp,we_cmp2,we_isnone,we_and,we_or,we_not,we_ite,we_idx,we_last,we_slice,we_rev,we_attr,we_layers,we_treesize,we_tup,we_lst,we_nlst,we_ndict,we_frz,we_callf,we_meth,we_cmeth,we_len,we_min2,we_max2,we_max1,we_bytes,we_tuple,we_sorted,we_listr,we_lappend,we_dget,we_lindex,we_nrep,we_ncat,we_comp,wz_nil,wz_cons,wi_e,wi_r1,wi_r2,wi_r3,ws_asg,ws_setattr,ws_setidx,ws_aug,ws_ife,ws_forr,ws_wh,ws_ret,ws_retn,ws_brk,ws_pass,ws_raise,ws_expr,wl_nil,wl_cons,wl_fz,gN,gB,gI,gS,gY,gT,gL,gR,tB,cI,cS,cEL,cER,cNL,cNT,thL,thT,thR,pLt,pLe,pGt,pGe,pEq,pNe,bI,bL,oA,oS,oM,oD,oR,oP,aR,kR,mR,lsL,nY,nT,nL,nR,iY,iT,iL,iR,laL,laR,b00,b10,b01,b11,sY,sL,sR,rY,rR,dR,iD,apR,fzR,saR,siR,fT,fL,fY,lL,lR,rg1,rg2,rg3,insL,diL,inL,reL,tuL,liL,byB,byL,byR,isn,isi,agV,agT,agL,setAll,putF,retQ,initR,mkList,qa,qb,qc,qd,List.set_nil,qh,qg,qj,qi,Nat.reduceSub,Nat.reduceAdd,Option.some.injEq,exists_eq_left',ne_eq,reduceCtorEq,not_false_eq_true,true_and,and_true,if_true,if_false,Bool.true_eq_false,Bool.false_eq_true,Option.isSome_some,Nat.reduceBEq,List.lookup_nil,lookup_hit,lookup_miss,bne_self_eq_false,Bool.not_true,Bool.not_false,decide_true,decide_false,ite_true,ite_false,reduceIte,Nat.reduceEqDiff,Nat.reduceLT,Nat.reduceLeDiff,qe,qf,decide_eq_true_eq,Bool.not_eq_true',decide_eq_false_iff_not,Int.toNat_natCast,List.length_map,Bool.and_eq_true,Bool.or_eq_true,Bool.not_eq_eq_eq_not,Bool.not_eq_true,Bool.not_eq_false] | ((with_reducible apply tail);case e=>rfl))
 refine take_m (many := t.length) (k := k) F B1 (by exact Nat.le_of_lt ‹_›) (by lia) (Nat.add_le_add_left (by decide) _) fun w σ2 hw B2 O2 => ?_
 repeat (first | simp only [bI,oA] | ((with_reducible apply tail);case e=>rfl))
 refine take_m (many := 5) (k := k) F B2 (by exact Nat.succ_pos _) (by decide) (Nat.add_le_add_left (by decide) _) fun m5 σ3 hm5 B3 O3 => ?_
 repeat (first | simp only [bI,oA] | ((with_reducible apply tail);case e=>rfl))
 refine take_m (many := 2) (k := k) F B3 (by exact Nat.succ_pos _) (by decide) (Nat.add_le_add_left (by decide) _) fun ch2 σ4 hch2 B4 O4 => ?_
 repeat (first | simp only [iL,Int.toNat_natCast] | ((with_reducible apply tail);case e=>rfl))
 have hmo : ∃ most : Nat, [V.int (t.length : Nat), V.int (1 + (m5 : Int))][ch2]? = some (.int most) ∧ most ≤ 30 := by
  refine lt2 (P := fun r => ∃ most : Nat, [V.int (t.length : Nat), V.int (1 + (m5 : Int))][r]? = some (.int most) ∧ most ≤ 30) hch2 ?_ ?_
  ·exact ⟨t.length, rfl, by lia⟩
  ·exact ⟨1 + m5, by simp, by lia⟩
 obtain ⟨most, hmo, hm30⟩ := hmo
 refine ⟨by exact Int.natCast_nonneg _, _, hmo, ?_⟩
 have hsh : ∃ s : Nat, [V.int (s0 : Nat), V.int (s1 : Nat), V.int 2][r]? = some (.int s) ∧ 0 < s ∧ s ≤ 4 ∧ (r = 2 → s = 2) := by
  refine lt3 (P := fun r => ∃ s : Nat, [V.int (s0 : Nat), V.int (s1 : Nat), V.int 2][r]? = some (.int s) ∧ 0 < s ∧ s ≤ 4 ∧ (r = 2 → s = 2)) hr ?_ ?_ ?_
  ·exact ⟨s0, rfl, hs0.1, hs0.2, fun h => nomatch h⟩
  ·exact ⟨s1, rfl, hs1.1, hs1.2, fun h => nomatch h⟩
  ·exact ⟨2, rfl, by exact Nat.succ_pos _, by decide, by decide⟩
 obtain ⟨s, hs, hs2, hs3, hs4⟩ := hsh
 have hway : [wayS 0, wayS 1, wayS 2][r]? = some (wayS r) := lt3 (P := fun r => [wayS 0, wayS 1, wayS 2][r]? = some (wayS r)) hr rfl rfl rfl
 repeat (first | simp only [we_v,we_int,we_bin,we_idx,we_callf,wz_nil,wz_cons,ws_asg,wl_cons,gI,gY,gL,bI,oA,iL,agV,qa,qb,qc,qd,reduceCtorEq,Int.toNat_natCast] | ((with_reducible apply tail);case e=>rfl))
 refine ⟨by exact Int.natCast_nonneg _, _, hway, by exact Int.natCast_nonneg _, _, hs, ?_⟩
 rw [show (1 : Int) + (w : Int) = ((1 + w : Nat) : Int) by lia,show (t.length : Int) + 1 = ((t.length + 1 : Nat) : Int) by lia]
 refine any_m (k := k) F hr hs4 hb hs2 (by lia) (by lia) (by lia) (Nat.add_le_add_left (by decide) _) fun f foot Inv σ5 Z I0 E5 fr => ?_
 repeat (first | simp only [we_v,we_bool,we_not,we_callf,wz_nil,wz_cons,ws_ife,ws_ret,wl_nil,wl_cons,gI,gR,tB,qa,qb,reduceCtorEq,Bool.not_true,Bool.not_eq_eq_eq_not] | ((with_reducible apply tail);case e=>rfl))
 refine (pairs_c F Z I0 (most := most) O hn).mono fun v σ6 ⟨ev, es⟩ => ?_
 subst ev
 subst es
 repeat (first | simp only [we_v,we_idx,we_lst,we_callf,wz_nil,wz_cons,ws_ret,wl_nil,wl_cons,gI,gL,gR,tB,iL,mkList,qa,qb,reduceCtorEq,true_and,if_false,Bool.true_eq_false,Bool.false_eq_true,Nat.reduceLeDiff,qe,qf,Int.toNat_natCast,ordV,nearV] | ((with_reducible apply tail);case e=>rfl))
 refine ⟨by lia, _, hs, ?_⟩
 refine ((narrow_c F Z I0 O hs2 (by lia) hm30 hn).le (by lia)).mono fun v σ7 ev => ?_
 rw [ev]
theorem law1 (F : Fns X) {b : Addr} {sc : V} (hb : ∀ o ∈ t, o < 256) (h5 : 2 ≤ t.length) (hn : t.length ≤ 20) (B : BoxSt σ b) :
  wpSs X (k + 9) f_law_t9 [sc, .ref b, .bytes t, .undef, .undef, .undef, .undef, .undef, .undef, .undef, .undef, .undef, .undef, .undef] σ (fun fl _ _ => fl = .ret (.bool true)) := by
 repeat (first | simp only [we_v,we_str,we_tup,we_lst,we_callf,we_len,wz_nil,wz_cons,ws_asg,wl_cons,gY,nY,agT,setAll,mkList,qa,qb,qc,qd,Nat.reduceAdd,reduceCtorEq,true_and,if_false,Bool.false_eq_true,Nat.reduceEqDiff,Nat.reduceLeDiff,qe,qf,List.length_map] | ((with_reducible apply tail);case e=>rfl))
 refine ((order_c (k := k) F hb h5 hn).le (by lia)).mono fun v σ1 ⟨⟨os, O, ev⟩, E1⟩ => ?_
 subst ev
 have B1 := B.only fun o h => E1 _ _ h
 repeat (first | simp only [we_v,we_bool,we_callf,we_comp,wz_nil,wz_cons,wi_r1,ws_asg,wl_cons,gI,gL,tB,rg1,agV,agT,setAll,mkList,qa,qb,qc,qd,Nat.reduceAdd,reduceCtorEq,true_and,if_true,if_false,Bool.false_eq_true,qe,qf,Int.toNat_natCast,wpG,clr,Gs.slots,Tg.slots,Option.getD_some,List.append_nil,List.foldl_cons,List.foldl_nil,small] | ((with_reducible apply tail);case e=>rfl))
 refine ⟨by lia, ?_⟩
 have hol : (List.range t.length).length = t.length := List.length_range
 refine fold_comp (fun items acc σ' => ∃ i, i ≤ t.length ∧ items = (List.range (t.length - i)).map (fun (j : Nat) => V.int ((i : Int) + (j : Int))) ∧ acc.length = i ∧ BoxSt σ' b ∧
   ∀ p v, acc[p]? = some v → ∃ l1 l2, v = .list [sv t p l1, sv t p l2] ∧ Sides t p t.length l1 l2 ∧ l1.length ≤ 30 ∧ l2.length ≤ 30) ?_ ?_ _ _ _ ⟨0, by exact Nat.zero_le _, by simp, rfl, B1, by simp⟩
 ·rintro x r acc σ2 K ⟨i, hi, hx, hacc, B2, hsl⟩ hK
  have hit : i < t.length := by
   rcases Nat.lt_or_ge i t.length with h | h
   ·exact h
   ·rw [show t.length - i = 0 by lia] at hx; simp at hx
  rw [show t.length - i = (t.length - (i + 1)) + 1 by lia,List.range_succ_eq_map,List.map_cons,List.map_map,List.cons.injEq] at hx
  obtain ⟨rfl, rfl⟩ := hx
  rw [show ((i : Int) + ((0 : Nat) : Int)) = (i : Int) by lia]
  repeat (first | simp only [gI] | ((with_reducible apply tail);case e=>rfl))
  refine ⟨by lia, ?_⟩
  refine ((sides_c (k := k) F O hit hn).le (by lia)).mono fun v σ3 ⟨⟨row, hr, he, ev⟩, E3⟩ => ?_
  subst ev
  refine hK _ _ ⟨i + 1, by lia, ?_, by simp [hacc], B2.only fun o h => E3 _ _ h, sl_snoc (P := fun p v => ∃ l1 l2, v = .list [sv t p l1, sv t p l2] ∧ Sides t p t.length l1 l2 ∧ l1.length ≤ 30 ∧ l2.length ≤ 30) hsl ?_⟩
  ·apply List.map_congr_left
   intro j _
   simp only [Function.comp]
   congr 1
   lia
  ·have hlen := O.len
   rw [hacc]
   exact ⟨_, _, rfl, sides_of O hit hr he, Nat.le_trans (List.length_filter_le _ _) (by simp [leftL]; lia), Nat.le_trans (List.length_filter_le _ _) (by simp [rightL]; lia)⟩
 ·rintro sl σ2 ⟨i, hi, hx, hacc, B2, hsl⟩
  have hit : i = t.length := by
   have := congrArg List.length hx
   simp at this
   lia
  have SL : SidesL t sl := ⟨by lia, fun p hp => by
   have e : sl[p]? = some (sl[p]'(by lia)) := List.getElem?_eq_getElem (by lia)
   obtain ⟨l1, l2, e1, S, b1, b2⟩ := hsl p _ e
   exact ⟨l1, l2, by rw [e,e1], S, b1, b2⟩⟩
  refine ⟨by lia, ?_⟩
  repeat (first | simp only [we_v,we_int,we_idx,we_lst,we_callf,wz_nil,wz_cons,ws_asg,wl_cons,gR,agV,mkList,qa,qb,qc,qd,reduceCtorEq,true_and,if_false,Bool.false_eq_true,Nat.reduceLeDiff,qe,qf] | ((with_reducible apply tail);case e=>rfl))
  refine take_m (many := 4) (k := k) F B2 (by exact Nat.succ_pos _) (by decide) (Nat.add_le_add_left (by decide) _) fun r0 σ3 hr0 B3 O3 => ?_
  obtain ⟨s0, g0, p0⟩ := sh0 hr0
  repeat (first | simp only [iL,Int.toNat_natCast] | ((with_reducible apply tail);case e=>rfl))
  refine ⟨by exact Int.natCast_nonneg _, _, g0, ?_⟩
  refine take_m (many := 4) (k := k) F B3 (by exact Nat.succ_pos _) (by decide) (Nat.add_le_add_left (by decide) _) fun r1 σ4 hr1 B4 O4 => ?_
  obtain ⟨s1, g1, p1⟩ := sh1 hr1
  repeat (first | simp only [iL,Int.toNat_natCast] | ((with_reducible apply tail);case e=>rfl))
  refine ⟨by exact Int.natCast_nonneg _, _, g1, ?_⟩
  repeat (first | simp only [we_int,wi_r1,ws_forr,wl_cons,rg1,reduceCtorEq,small] | ((with_reducible apply tail);case e=>rfl))
  refine ⟨by decide, ?_⟩
  refine forP_inv (fun items ρ σ' => BoxSt σ' b ∧ (∀ x ∈ items, ∃ i : Nat, i < 3 ∧ x = V.int i) ∧ ∃ z9, ρ = [sc, .ref b, .bytes t, .int t.length, .list [wayS 0, wayS 1, wayS 2], ordV os, nearV t os, .list sl, .list [.int s0, .int s1, .int 2], z9, .undef, .undef, .undef, .undef]) ?_ ?_ _ _ _ ⟨B4, ?_, _, rfl⟩
  ·rintro x r ρ σ5 K ⟨B5, hxs, z9, rfl⟩ hK _ _
   obtain ⟨i, hi3, rfl⟩ := hxs x List.mem_cons_self
   have hxs' := fun y hy => hxs y (List.mem_cons_of_mem _ hy)
   have hsh : ∃ s : Nat, [V.int (s0 : Nat), V.int (s1 : Nat), V.int 2][i]? = some (.int s) ∧ 0 < s ∧ s ≤ 4 ∧ (i = 2 → s = 2) := by
    match i, hi3 with
    | 0, _ => exact ⟨s0, rfl, p0.1, p0.2, by lia⟩
    | 1, _ => exact ⟨s1, rfl, p1.1, p1.2, by lia⟩
    | 2, _ => exact ⟨2, rfl, by exact Nat.succ_pos _, by decide, by decide⟩
   obtain ⟨s, hs, hs2, hs3, hs4⟩ := hsh
   have hway : [wayS 0, wayS 1, wayS 2][i]? = some (wayS i) := by
    match i, hi3 with
    | 0, _ => rfl
    | 1, _ => rfl
    | 2, _ => rfl
   repeat (first | simp only [we_v,we_int,we_bool,we_bin,we_not,we_idx,we_callf,wz_nil,wz_cons,ws_ife,ws_ret,wl_nil,wl_cons,gI,gY,gL,tB,bI,oA,iL,agV,qa,qb,qc,qd,Bool.not_true,Int.toNat_natCast,Bool.not_eq_eq_eq_not,f_law_b1] | ((with_reducible apply tail);case e=>rfl))
   refine ⟨by exact Int.natCast_nonneg _, _, hway, by exact Int.natCast_nonneg _, _, hs, ?_⟩
   rw [show (t.length : Int) + 1 = ((t.length + 1 : Nat) : Int) by lia]
   refine any_m (k := k) F hi3 hs4 hb hs2 (by exact Nat.le_of_lt ‹_›) (by exact Nat.lt_succ_self _) (by lia) (Nat.add_le_add_left (by decide) _) fun f foot Inv σ6 Z I0 E6 fr => ?_
   repeat (first | simp only [we_v,we_int,we_bool,we_str,we_none,we_neg,we_nowhere,we_bin,we_cmp,we_cmp2,we_isnone,we_and,we_or,we_not,we_ite,we_idx,we_last,we_slice,we_rev,we_attr,we_layers,we_treesize,we_tup,we_lst,we_nlst,we_ndict,we_frz,we_callf,we_meth,we_cmeth,we_len,we_min2,we_max2,we_max1,we_bytes,we_tuple,we_sorted,we_listr,we_lappend,we_dget,we_lindex,we_nrep,we_ncat,we_comp,wz_nil,wz_cons,wi_e,wi_r1,wi_r2,wi_r3,ws_asg,ws_setattr,ws_setidx,ws_aug,ws_ife,ws_forr,ws_wh,ws_ret,ws_retn,ws_brk,ws_pass,ws_raise,ws_expr,wl_nil,wl_cons,wl_fz,gN,gB,gI,gS,gY,gT,gL,gR,tB,cI,cS,cEL,cER,cNL,cNT,thL,thT,thR,pLt,pLe,pGt,pGe,pEq,pNe,bI,bL,oA,oS,oM,oD,oR,oP,aR,kR,mR,lsL,nY,nT,nL,nR,iY,iT,iL,iR,laL,laR,b00,b10,b01,b11,sY,sL,sR,rY,rR,dR,iD,apR,fzR,saR,siR,fT,fL,fY,lL,lR,rg1,rg2,rg3,insL,diL,inL,reL,tuL,liL,byB,byL,byR,isn,isi,agV,agT,agL,setAll,putF,retQ,initR,mkList,qa,qb,qc,qd,List.set_nil,qh,qg,qj,qi,Nat.reduceSub,Nat.reduceAdd,Option.some.injEq,exists_eq_left',ne_eq,reduceCtorEq,not_false_eq_true,true_and,and_true,if_true,if_false,Bool.true_eq_false,Bool.false_eq_true,Option.isSome_some,Nat.reduceBEq,List.lookup_nil,lookup_hit,lookup_miss,bne_self_eq_false,Bool.not_true,Bool.not_false,decide_true,decide_false,ite_true,ite_false,reduceIte,Nat.reduceEqDiff,Nat.reduceLT,Nat.reduceLeDiff,qe,qf,decide_eq_true_eq,Bool.not_eq_true',decide_eq_false_iff_not,Int.toNat_natCast,List.length_map,Bool.and_eq_true,Bool.or_eq_true,Bool.not_eq_eq_eq_not,Bool.not_eq_true,Bool.not_eq_false] | ((with_reducible apply tail);case e=>rfl))
   refine ⟨by exact Int.natCast_nonneg _, _, hs, ?_⟩
   refine ((wide_c F Z I0 O SL hs2 (by lia) (by lia) hn).le (by lia)).mono fun v σ7 ⟨ev, F7⟩ => ?_
   subst ev
   repeat (first | simp only [tB,if_false,Bool.true_eq_false] | ((with_reducible apply tail);case e=>rfl))
   refine hK _ _ ⟨B5.only fun o h => F7 b o (fun hbf => ?_) (E6 _ _ h), hxs', _, rfl⟩
   obtain ⟨d, s', e⟩ := B5
   have := fr b hbf
   rw [e] at this
   cases this
  ·rintro ρ σ5 ⟨B5, _, z9, rfl⟩
   exact law2 F hb h5 hn O B5 p0 p1
  ·intro x hx
   obtain ⟨i, hi, rfl⟩ := List.mem_map.mp hx
   rw [List.mem_range] at hi
   exact ⟨i, by simpa using hi, rfl⟩
theorem law_ok (F : Fns X) (ns : List Int) : wpSs X (k + 9) f_law_b (initR f_law [.list (ns.map .int)]) σ (fun fl _ _ => fl = .ret (.bool true)) := by
 repeat (first | simp only [we_v,we_callf,wz_nil,wz_cons,ws_asg,wl_cons,gL,agV,initR,qa,qc,qd,qh,qg,qj,qi,Nat.reduceSub,reduceCtorEq,f_law] | ((with_reducible apply tail);case e=>rfl))
 refine ((box_c (k := k) F).le (by lia)).mono fun v σ1 ⟨b, ev, hb0, B1, E1⟩ => ?_
 subst ev
 have go : ∀ (room : Nat) σ2, 5 ≤ room → room ≤ 12 → BoxSt σ2 b → WC X (k + 9) (.ref 336) [.ref b, .int room] σ2 (fun v σ' => wpSs X (k + 9) f_law_t9 [.list (ns.map .int), .ref b, v, .undef, .undef, .undef, .undef, .undef, .undef, .undef, .undef, .undef, .undef, .undef] σ' (fun fl _ _ => fl = .ret (.bool true))) := fun room σ2 h1 h2 B2 => by
  refine ((text_c (k := k) (room := room) F B2 (by lia)).le (by lia)).mono fun v σ3 ⟨⟨t, ev, ht, hb⟩, B3, O3⟩ => ?_
  subst ev
  exact law1 F hb (by lia) (by lia) B3
 have B1' := B1
 obtain ⟨d, st, hbx⟩ := B1
 repeat (first | simp only [we_v,we_int,we_bin,we_cmp,we_and,we_ite,we_idx,we_callf,we_len,wz_nil,wz_cons,ws_asg,wl_cons,gL,gR,tB,cI,pLt,nL,iR,agV,qa,qb,qc,qd,reduceCtorEq,if_false,Bool.false_eq_true,decide_eq_true_eq,List.length_map] | ((with_reducible apply tail);case e=>rfl))
 by_cases hl2 : (ns.length : Int) < 2
 ·refine pos hl2 ?_
  repeat (first | simp only [lsL,hbx] | ((with_reducible apply tail);case e=>rfl))
  refine ⟨by exact Int.natCast_nonneg _, _, rfl, ?_⟩
  repeat (first | simp only [cI,pEq,decide_eq_true_eq] | ((with_reducible apply tail);case e=>rfl))
  by_cases hd0 : d = 0
  ·refine pos hd0 ?_
   exact go 5 σ1 (by exact Nat.lt_succ_self _) (by decide) B1'
  ·refine neg hd0 ?_
   repeat (first | simp only [we_v,we_int,we_bool,we_str,we_none,we_neg,we_nowhere,we_bin,we_cmp,we_cmp2,we_isnone,we_and,we_or,we_not,we_ite,we_idx,we_last,we_slice,we_rev,we_attr,we_layers,we_treesize,we_tup,we_lst,we_nlst,we_ndict,we_frz,we_callf,we_meth,we_cmeth,we_len,we_min2,we_max2,we_max1,we_bytes,we_tuple,we_sorted,we_listr,we_lappend,we_dget,we_lindex,we_nrep,we_ncat,we_comp,wz_nil,wz_cons,wi_e,wi_r1,wi_r2,wi_r3,ws_asg,ws_setattr,ws_setidx,ws_aug,ws_ife,ws_forr,ws_wh,ws_ret,ws_retn,ws_brk,ws_pass,ws_raise,ws_expr,wl_nil,wl_cons,wl_fz,gN,gB,gI,gS,gY,gT,gL,gR,tB,cI,cS,cEL,cER,cNL,cNT,thL,thT,thR,pLt,pLe,pGt,pGe,pEq,pNe,bI,bL,oA,oS,oM,oD,oR,oP,aR,kR,mR,lsL,nY,nT,nL,nR,iY,iT,iL,iR,laL,laR,b00,b10,b01,b11,sY,sL,sR,rY,rR,dR,iD,apR,fzR,saR,siR,fT,fL,fY,lL,lR,rg1,rg2,rg3,insL,diL,inL,reL,tuL,liL,byB,byL,byR,isn,isi,agV,agT,agL,setAll,putF,retQ,initR,mkList,qa,qb,qc,qd,List.set_nil,qh,qg,qj,qi,Nat.reduceSub,Nat.reduceAdd,Option.some.injEq,exists_eq_left',ne_eq,reduceCtorEq,not_false_eq_true,true_and,and_true,if_true,if_false,Bool.true_eq_false,Bool.false_eq_true,Option.isSome_some,Nat.reduceBEq,List.lookup_nil,lookup_hit,lookup_miss,bne_self_eq_false,Bool.not_true,Bool.not_false,decide_true,decide_false,ite_true,ite_false,reduceIte,Nat.reduceEqDiff,Nat.reduceLT,Nat.reduceLeDiff,qe,qf,decide_eq_true_eq,Bool.not_eq_true',decide_eq_false_iff_not,Int.toNat_natCast,List.length_map,Bool.and_eq_true,Bool.or_eq_true,Bool.not_eq_eq_eq_not,Bool.not_eq_true,Bool.not_eq_false] | ((with_reducible apply tail);case e=>rfl))
   refine take_m (many := 5) (k := k) F B1' (by exact Nat.succ_pos _) (by decide) (Nat.add_le_add_left (by decide) _) fun r0 σ3 hr0 B3 O3 => ?_
   repeat (first | simp only [bI,oA] | ((with_reducible apply tail);case e=>rfl))
   rw [show (8 : Int) + (r0 : Int) = ((8 + r0 : Nat) : Int) by lia]
   exact go (8 + r0) σ3 (by lia) (by lia) B3
 ·refine neg hl2 ?_
  repeat (first | simp only [we_v,we_int,we_bool,we_str,we_none,we_neg,we_nowhere,we_bin,we_cmp,we_cmp2,we_isnone,we_and,we_or,we_not,we_ite,we_idx,we_last,we_slice,we_rev,we_attr,we_layers,we_treesize,we_tup,we_lst,we_nlst,we_ndict,we_frz,we_callf,we_meth,we_cmeth,we_len,we_min2,we_max2,we_max1,we_bytes,we_tuple,we_sorted,we_listr,we_lappend,we_dget,we_lindex,we_nrep,we_ncat,we_comp,wz_nil,wz_cons,wi_e,wi_r1,wi_r2,wi_r3,ws_asg,ws_setattr,ws_setidx,ws_aug,ws_ife,ws_forr,ws_wh,ws_ret,ws_retn,ws_brk,ws_pass,ws_raise,ws_expr,wl_nil,wl_cons,wl_fz,gN,gB,gI,gS,gY,gT,gL,gR,tB,cI,cS,cEL,cER,cNL,cNT,thL,thT,thR,pLt,pLe,pGt,pGe,pEq,pNe,bI,bL,oA,oS,oM,oD,oR,oP,aR,kR,mR,lsL,nY,nT,nL,nR,iY,iT,iL,iR,laL,laR,b00,b10,b01,b11,sY,sL,sR,rY,rR,dR,iD,apR,fzR,saR,siR,fT,fL,fY,lL,lR,rg1,rg2,rg3,insL,diL,inL,reL,tuL,liL,byB,byL,byR,isn,isi,agV,agT,agL,setAll,putF,retQ,initR,mkList,qa,qb,qc,qd,List.set_nil,qh,qg,qj,qi,Nat.reduceSub,Nat.reduceAdd,Option.some.injEq,exists_eq_left',ne_eq,reduceCtorEq,not_false_eq_true,true_and,and_true,if_true,if_false,Bool.true_eq_false,Bool.false_eq_true,Option.isSome_some,Nat.reduceBEq,List.lookup_nil,lookup_hit,lookup_miss,bne_self_eq_false,Bool.not_true,Bool.not_false,decide_true,decide_false,ite_true,ite_false,reduceIte,Nat.reduceEqDiff,Nat.reduceLT,Nat.reduceLeDiff,qe,qf,decide_eq_true_eq,Bool.not_eq_true',decide_eq_false_iff_not,Int.toNat_natCast,List.length_map,Bool.and_eq_true,Bool.or_eq_true,Bool.not_eq_eq_eq_not,Bool.not_eq_true,Bool.not_eq_false] | ((with_reducible apply tail);case e=>rfl))
  refine take_m (many := 5) (k := k) F B1' (by exact Nat.succ_pos _) (by decide) (Nat.add_le_add_left (by decide) _) fun r0 σ3 hr0 B3 O3 => ?_
  repeat (first | simp only [bI,oA] | ((with_reducible apply tail);case e=>rfl))
  rw [show (8 : Int) + (r0 : Int) = ((8 + r0 : Nat) : Int) by lia]
  exact go (8 + r0) σ3 (by lia) (by lia) B3
end
end Mine
end

section
open PySem PySem.Calls PyProof.Rows PySem.W
set_option maxRecDepth 100000
namespace Mine
noncomputable def stmtsOf (b : FuncBody) (f : List Stmt → Bool) : Bool := match b with | .stmts l => f l | _ => false
theorem stmtsOf.inv {P : Prop} {b : FuncBody} {f} (h : stmtsOf b f = true) (k : ∀ l, b = .stmts l → f l = true → P) : P := FuncBody.casesOn (motive := fun b' => b = b' → stmtsOf b' f = true → P) b (fun l => k l) (fun _ _ h => (Bool.false_ne_true h).elim) rfl h
noncomputable def funcOf (b : Data) (f : FuncData → Bool) : Bool := match b with | .func fd => f fd | _ => false
theorem funcOf.inv {P : Prop} {b : Data} {f} (h : funcOf b f = true) (k : ∀ fd, b = .func fd → f fd = true → P) : P := Data.casesOn (motive := fun b' => b = b' → funcOf b' f = true → P) b (fun _ h => (Bool.false_ne_true h).elim) (fun _ _ h => (Bool.false_ne_true h).elim) (fun _ _ _ h => (Bool.false_ne_true h).elim) (fun _ _ _ h => (Bool.false_ne_true h).elim) (fun _ _ _ _ h => (Bool.false_ne_true h).elim) (fun _ _ _ h => (Bool.false_ne_true h).elim) (fun _ _ h => (Bool.false_ne_true h).elim) (fun fd => k fd) (fun _ _ h => (Bool.false_ne_true h).elim) (fun _ _ h => (Bool.false_ne_true h).elim) (fun _ h => (Bool.false_ne_true h).elim) rfl h
noncomputable def seqOf (b : Data) (f : Array Value → Bool) : Bool := match b with | .seq xs _ => f xs | _ => false
theorem seqOf.inv {P : Prop} {b : Data} {f} (h : seqOf b f = true) (k : ∀ xs n, b = .seq xs n → f xs = true → P) : P := Data.casesOn (motive := fun b' => b = b' → seqOf b' f = true → P) b (fun _ h => (Bool.false_ne_true h).elim) (fun _ _ h => (Bool.false_ne_true h).elim) (fun xs n => k xs n) (fun _ _ _ h => (Bool.false_ne_true h).elim) (fun _ _ _ _ h => (Bool.false_ne_true h).elim) (fun _ _ _ h => (Bool.false_ne_true h).elim) (fun _ _ h => (Bool.false_ne_true h).elim) (fun _ _ h => (Bool.false_ne_true h).elim) (fun _ _ h => (Bool.false_ne_true h).elim) (fun _ _ h => (Bool.false_ne_true h).elim) (fun _ h => (Bool.false_ne_true h).elim) rfl h
theorem any_inv {α : Type} {P : Prop} {o : Option α} {f : α → Bool} (h : o.any f = true) (k : ∀ x, o = some x → f x = true → P) : P := Option.casesOn (motive := fun o' => o = o' → o'.any f = true → P) o (fun _ h => (Bool.false_ne_true h).elim) (fun x => k x) rfl h
noncomputable def fnOk (K : Frag) (f : Fn) (a : Addr) (ps : List PySem.Str) : Bool := (K.lookup a).any fun o => funcOf o.data fun fd => stmtsOf fd.body fun body => matSs fd.scope f.names f.body body && (fd.closure.isEmpty && (fd.globals == mainGlobals && (fd.builtins == builtinsNs && (fd.scope.kind == .function && (!fd.scope.isCoroutine && (!fd.scope.isGenerator &&
    (codeIn K fd.code fd.qualname && ((fd.scope.names.all fun y => y.2 != .free) && (ps.all fun p => fd.scope.names.lookup p == some .local || fd.scope.names.lookup p == some .cell)))))))))
noncomputable def bindOk (K : Frag) (prog : Program) (P : Params) (a : Addr) (vals : List Value) : Option (List (PySem.Str × Value)) := match K.lookup a with
 | some ⟨_, _, .func fd, _⟩ => peek K ⟨prog, P⟩ (bindArgs fd ⟨vals, []⟩)
 | _ => none
theorem FnAt.of {X : Cx} {f : Fn} {a : Addr} {ps : List PySem.Str} (h : fnOk X.K f a ps = true) (hb : ∀ vals : List Value, vals.length = ps.length → bindOk X.K X.prog X.w.params a vals = some (ps.zip vals))
  (h1 : ((f.names).map (·.2)).Nodup) (h2 : f.names.take ps.length = ps.zip (List.range ps.length)) (h3 : ps.Nodup) (h4 : f.np = ps.length ∧ f.np ≤ f.ns) : FnAt X f a ps :=
 ⟨any_inv h fun o ho h => funcOf.inv h fun fd hf h => stmtsOf.inv h fun body hbody h =>
  have ho : X.K.lookup a = some ⟨o.cls, o.dict, .func fd, o.slots⟩ := ho.trans (congrArg (fun d => some (Obj.mk o.cls o.dict d o.slots)) hf)
  have b1 := a2 h
  have b2 := a2 b1.2
  have b3 := a2 b2.2
  have b4 := a2 b3.2
  have b5 := a2 b4.2
  have b6 := a2 b5.2
  have b7 := a2 b6.2
  have b8 := a2 b7.2
  have b9 := a2 b8.2
  ⟨_, _, _, fd, body, ho, hbody, b1.1, List.isEmpty_iff.mp b2.1, eq_of_beq b3.1, eq_of_beq b4.1, eq_of_beq b5.1, (Bool.not_eq_true' _).mp b6.1, (Bool.not_eq_true' _).mp b7.1, b8.1, fun vals hv => by
   have := hb vals hv
   unfold bindOk at this
   rw [ho] at this
   exact this, fun y hy => bne_iff_ne.mp (List.all_eq_true.mp b9.1 y hy), fun p hp => (o2 (List.all_eq_true.mp b9.2 p hp)).imp eq_of_beq eq_of_beq⟩, h1, ⟨h2, h3⟩, h4⟩
set_option maxHeartbeats 4000000
theorem cut5 {l : List Value} (h : l.length ≤ 5) : ∃ v0 v1 v2 v3 v4, l = [v0, v1, v2, v3, v4].take l.length :=
 have c : ∀ {m : List Value} {n}, m.length = n + 1 → ∃ v r, m = v :: r ∧ r.length = n := fun {m n} => List.casesOn (motive := fun m => m.length = n + 1 → ∃ v r, m = v :: r ∧ r.length = n) m (fun h => (Nat.succ_ne_zero _ h.symm).elim) fun v r h => ⟨v, r, rfl, Nat.succ.inj h⟩
 have e : l = (l ++ List.replicate (5 - l.length) Value.none).take l.length := List.take_left.symm
 (c (n := 4) (show (l ++ List.replicate (5 - l.length) Value.none).length = 5 by rw [List.length_append,List.length_replicate,Nat.add_sub_cancel' h])).elim fun v0 p => p.elim fun r0 p => (c p.2).elim fun v1 q => q.elim fun r1 q => (c q.2).elim fun v2 r => r.elim fun r2 r => (c r.2).elim fun v3 s => s.elim fun r3 s => (c s.2).elim fun v4 t => t.elim fun r4 t =>
  ⟨v0, v1, v2, v3, v4, e.trans (congrArg (List.take _) (p.1.trans (congrArg (v0 :: ·) (q.1.trans (congrArg (v1 :: ·) (r.1.trans (congrArg (v2 :: ·) (s.1.trans (congrArg (v3 :: ·) (t.1.trans (congrArg (v4 :: ·) (List.length_eq_zero_iff.mp t.2))))))))))))⟩
noncomputable def isI (i : Int) (v : Value) : Bool := match v with | .int j _ => decide (j = i) | _ => false
theorem isI.ex {i : Int} {v : Value} (h : isI i v = true) : ∃ t, v = .int i t := by
 cases v <;> first | exact (Bool.false_ne_true h).elim | exact ⟨_, congrArg (Value.int · _) (of_decide_eq_true h)⟩
noncomputable def layOk (K : Frag) : Bool := (K.lookup 284).any fun o => o.cls == .type "tuple" && seqOf o.data fun xs => v2 (fun u v => isI 2 u && isI 3 v) xs.toList
theorem layOk_ex {K : Frag} (h : layOk K = true) : ∃ o : Obj, K.lookup 284 = some o ∧ o.cls = .type "tuple" ∧ ∃ n t u, o.data = .seq #[.int 2 t, .int 3 u] n :=
 any_inv h fun o ho h => ⟨o, ho, eq_of_beq (a2 h).1, seqOf.inv (a2 h).2 fun xs n e h =>
  have k : ∃ t u, xs.toList = [.int 2 t, .int 3 u] := v2_inv (P := fun l => ∃ t u, l = [.int 2 t, .int 3 u]) xs.toList h fun _ _ h => (isI.ex (a2 h).1).elim fun t et => (isI.ex (a2 h).2).elim fun u eu => ⟨t, u, by rw [et,eu]⟩
  k.elim fun t k => k.elim fun u k => ⟨n, t, u, e.trans (congrArg (fun l => Data.seq ⟨l⟩ n) k)⟩⟩
noncomputable def isIntO (i : Int) (x : Option (Option Value)) : Bool := x.any fun o => o.any (isI i)
theorem isIntO_ex {i : Int} {x : Option (Option Value)} (h : isIntO i x = true) : ∃ t, x = some (some (.int i t)) :=
 any_inv h fun o ho h => any_inv h fun v hv h => (isI.ex h).elim fun t e => ⟨t, ho.trans (congrArg some (hv.trans (congrArg some e)))⟩
noncomputable def noGetI (K : Frag) (x : Option (Option Value)) : Bool := x.any fun o => o.any fun v => specialIn K v "__get__" == some none
structure KF (K : Frag) (prog : Program) (P : Params) : Prop where
 gl1 : (List.range 18).map (fun f => nsIn K mainGlobals (gn f)) = (List.range 18).map (fun f => some (some (.ref (ga f))))
 gl2 : (List.range 18).map (fun f => keepIn K (.ref (ga f))) = (List.range 18).map (fun _ => true)
 nw : isIntO (-1) (nsIn K mainGlobals (PySem.Str.ofString "NOWHERE")) = true
 blt : (["len", "range", "min", "max", "list", "tuple", "bytes", "sorted"] : List String).map (fun x => nsIn K mainGlobals (PySem.Str.ofString x)) = (["len", "range", "min", "max", "list", "tuple", "bytes", "sorted"] : List String).map (fun _ => some none)
 m1 : methL.map (fun p => findIn K (.ref p.1) (an p.2.1)) = methL.map (fun p => some (some (.ref p.2.2)))
 m2 : methL.map (fun p => isFn K (.ref p.2.2)) = methL.map (fun _ => true)
 m3 : methL.map (fun p => keepIn K (.ref p.2.2)) = methL.map (fun _ => true)
 c1 : clsL.map (fun C => hasDictIn K C) = clsL.map (fun _ => true)
 c2 : clsL.map (fun C => plainGet K C (an 0)) = clsL.map (fun _ => true)
 c3 : clsL.map (fun C => findIn K (.ref C) "__setattr__") = clsL.map (fun _ => some (some (.builtin "object.__setattr__")))
 c4 : clsL.map (fun C => plainOver K C) = clsL.map (fun _ => true)
 c5 : clsL.map (fun C => makesIn K C) = clsL.map (fun _ => true)
 a1 : clsL.map (fun C => (List.range 14).map fun n => findIn K (.ref C) (an n)) = clsL.map (fun _ => (List.range 14).map fun _ => some none)
 a2 : clsL.map (fun C => (List.range 14).map fun n => takerIn K C (an n)) = clsL.map (fun _ => (List.range 14).map fun _ => some none)
 i1 : specialIn K (.ref 183) "__getattribute__" = some (some (.builtin "type.__getattribute__"))
 i2 : readsIn K 183 (.type "type") = true
 i3 : findCls K (.ref 183) (.type "type") (an 27) = some (.val (.ref 110))
 l1 : layOk K = true
 l2 : findIn K (.ref 307) (an 28) = some (some (.ref 284))
 l3 : specialIn K (.ref 284) "__get__" = some none
 t1 : isIntO 4 (findIn K (.ref 307) (an 29)) = true
 t2 : noGetI K (findIn K (.ref 307) (an 29)) = true
 fo : fnL.map (fun t => fnOk K t.1 t.2.1 (stL t.2.2)) = fnL.map fun _ => true
 bo : ∀ v0 v1 v2 v3 v4 : Value, fnL.map (fun t => bindOk K prog P t.2.1 ([v0, v1, v2, v3, v4].take t.2.2.length)) = fnL.map fun t => some ((stL t.2.2).zip ([v0, v1, v2, v3, v4].take t.2.2.length))
theorem base {prog : Program} {w : World} {K : Frag} {H0 : Heap} {G : Addr} (F : KF K prog w.params) (KX : K.In H0) (nl : H0.NoLimit) (sm : ∃ o, H0.get? sysModules = some o)
  (top : ∃ mg mb, H0.Ns mainGlobals mg ∧ H0.Ns builtinsNs mb ∧ ∀ x : PySem.Str, x ≠ "__name__" → mb x = bootBuiltins x) : Base ⟨prog, w, K, H0, G⟩ where
 inK := KX
 nolimit := nl
 sysm := sm
 top := top
 gl := fun f hf => ⟨List.map_inj_left.mp F.gl1 f (List.mem_range.mpr hf), List.map_inj_left.mp F.gl2 f (List.mem_range.mpr hf)⟩
 nowhere := isIntO_ex F.nw
 blt := fun x hx => List.map_inj_left.mp F.blt x hx
 meths := fun C m f h => by
  have hm : (C, m, f) ∈ methL := (Option.map_eq_some_iff.mp h).elim fun p q =>
   have h2 := a2 (List.find?_some (p := fun p : Nat × Nat × Nat => p.1 == C && p.2.1 == m) q.1)
   have e : p = (C, m, f) := Prod.ext (eq_of_beq h2.1) (Prod.ext (eq_of_beq h2.2) q.2)
   e ▸ List.mem_of_find?_eq_some q.1
  exact ⟨List.map_inj_left.mp F.m1 _ hm, List.map_inj_left.mp F.m2 _ hm, List.map_inj_left.mp F.m3 _ hm⟩
 cls := fun C hC => ⟨List.map_inj_left.mp F.c1 _ hC, List.map_inj_left.mp F.c2 _ hC, List.map_inj_left.mp F.c3 _ hC, List.map_inj_left.mp F.c4 _ hC, List.map_inj_left.mp F.c5 _ hC⟩
 attrs := fun C hC n hn => ⟨List.map_inj_left.mp (List.map_inj_left.mp F.a1 _ hC) n (List.mem_range.mpr hn), List.map_inj_left.mp (List.map_inj_left.mp F.a2 _ hC) n (List.mem_range.mpr hn)⟩
 minit := ⟨F.i1, .type "type", F.i2, F.i3⟩
 layers := (layOk_ex F.l1).elim fun o h => ⟨o, h.1, h.2.1, h.2.2, F.l2, F.l3⟩
 treesize := (isIntO_ex F.t1).elim fun t ht => ⟨t, ht, eq_of_beq (show noGetI K (some (some (.int 4 t))) = true from ht ▸ F.t2)⟩
noncomputable def fnGood (t : Fn × Addr × List String) : Bool := decide (((t.1.names).map (·.2)).Nodup) && (decide (t.1.names.take (stL t.2.2).length = (stL t.2.2).zip (List.range (stL t.2.2).length)) && (decide (stL t.2.2).Nodup && (decide (t.1.np = (stL t.2.2).length ∧ t.1.np ≤ t.1.ns) && decide (t.2.2.length ≤ 5))))
theorem fns_good : fnL.all fnGood = true := by decide +kernel
theorem fns {prog : Program} {w : World} {K : Frag} {H0 : Heap} {G : Addr} (F : KF K prog w.params) (B : Base ⟨prog, w, K, H0, G⟩) : Fns ⟨prog, w, K, H0, G⟩ where
 base := B
 all := fun i f a ps h =>
  have hm : (f, a, ps) ∈ fnL := List.mem_of_getElem? h
  have g1 := a2 (List.all_eq_true.mp fns_good _ hm)
  have g2 := a2 g1.2
  have g3 := a2 g2.2
  have g4 := a2 g3.2
  have le : ps.length ≤ 5 := of_decide_eq_true g4.2
  .of (List.map_inj_left.mp F.fo _ hm) (fun vals hv =>
   have hv' : vals.length = ps.length := hv.trans (List.length_map ..)
   (cut5 (hv'.symm ▸ le)).elim fun v0 e => e.elim fun v1 e => e.elim fun v2 e => e.elim fun v3 e => e.elim fun v4 e =>
    have e' : vals = [v0, v1, v2, v3, v4].take ps.length := hv' ▸ e
    e'.symm ▸ List.map_inj_left.mp (F.bo v0 v1 v2 v3 v4) _ hm) (of_decide_eq_true g1.1) (of_decide_eq_true g2.1) (of_decide_eq_true g3.1) (of_decide_eq_true g4.1)
end Mine
end

section
open PySem PySem.Calls PyProof.Rows PySem.W
set_option maxRecDepth 20000
namespace Mine
theorem cells_ex {cm : PySem.Str → Option Value} {h0 h : Heap} {L : Addr} {cs : List (PySem.Str × Addr)} {cells : List (Addr × Obj)} (x : CellsAre cm cs cells) : News h0 L h cells → ∀ n c, (n, c) ∈ cs → h.IsCell c (cm n) ∧ h0.get? c = none :=
 CellsAre.rec (motive := fun cs cells _ => News h0 L h cells → ∀ n c, (n, c) ∈ cs → h.IsCell c (cm n) ∧ h0.get? c = none) (fun _ _ _ h => nomatch h)
  (fun {m d o _ _} e _ ih N n c q => (List.mem_cons.mp q).elim (fun q =>
   have f := N (d, o) List.mem_cons_self
   have g : h.IsCell d (cm m) ∧ h0.get? d = none := ⟨⟨o, f.1, e⟩, f.2.2⟩
   (have e1 : n = m := congrArg Prod.fst q; have e2 : c = d := congrArg Prod.snd q; e1.symm ▸ e2.symm ▸ g)) fun q => ih (fun p hp => N p (List.mem_cons_of_mem _ hp)) n c q) x
theorem ints_rel {σ : AHeap} {h h0 : Heap} {P : Params} {ns : List Int} {vs : List Value} (x : IntsAre vs ns) : VRels σ h (ns.map .int) vs :=
 IntsAre.rec (motive := fun vs ns _ => VRels σ h (ns.map .int) vs) .nil (fun _ _ _ _ _ ih => .cons .int ih) x
theorem law_body {prog : Program} {w : World} {K : Frag} {s₁ : Shared} {h₁ : Heap} {tk₁ : Nat} {name : PySem.Str} {scope : Scope} {fa : Addr} {cd : Value} {l : Addr} {vals : List Value} {ns : List Int} {binds : List (PySem.Str × Value)} {cells : List (Addr × Obj)} {body : List Stmt}
  (KX : K.In s₁.heap) (KF0 : KF K prog w.params) (nl : s₁.heap.NoLimit) (sm : ∃ o, s₁.heap.get? sysModules = some o)
  (top : ∃ mg mb, s₁.heap.Ns mainGlobals mg ∧ s₁.heap.Ns builtinsNs mb ∧ ∀ x : PySem.Str, x ≠ "__name__" → mb x = bootBuiltins x)
  (hl : s₁.heap.get? l = some { cls := .type "list", data := .seq vals.toArray }) (hI : IntsAre vals ns) (hlen : ns.length ≤ 63)
  (F : Fr s₁.heap s₁.heap.objs.size h₁ (bindL (envOfC name scope s₁.heap.objs.size fa cd).kindOf binds fun _ => none))
  (N0 : News s₁.heap s₁.heap.objs.size h₁ cells)
  (X0 : CellsAre (bindC (envOfC name scope s₁.heap.objs.size fa cd).kindOf binds fun _ => none) (cellsFrom (s₁.heap.objs.size + 1) scope.names []) cells)
  (hm : matSs scope f_law.names f_law_b body = true) (hk : scope.kind = .function) (hfree : scope.names.all (fun y => y.2 != .free) = true) (hbinds : binds = [(PySem.Str.ofString "script", .ref l)]) (hkn : scope.names.lookup (PySem.Str.ofString "script") = some .local)
  (apart : (cellsFrom (s₁.heap.objs.size + 1) scope.names []).Pairwise fun x y => x.2 ≠ y.2) :
  wpAny (model prog w) (callerA.deeper (envOfC name scope s₁.heap.objs.size fa cd)) (execs body (envOfC name scope s₁.heap.objs.size fa cd))
   (fun f s' => f = .ret (.bool true) ∧ (∀ b o, s₁.heap.get? b = some o → s'.heap.get? b = some o) ∧ s'.os = s₁.os ∧ s'.gens = s₁.gens) NoE
   { heap := h₁, gens := s₁.gens, drawn := s₁.drawn, toks := tk₁, os := s₁.os } := by
 let X : Cx := ⟨prog, w, K, s₁.heap, s₁.heap.objs.size⟩
 have B : Base X := base KF0 KX nl sm top
 have FN : Fns X := fns KF0 B
 have hG : s₁.heap.get? s₁.heap.objs.size = none := get_ge_none (Nat.le_refl _)
 have S : St X (fun _ => none) (fun _ => none) { heap := h₁, gens := s₁.gens, drawn := s₁.drawn, toks := tk₁, os := s₁.os } :=
  ⟨F.keep, fun a o e => (by cases e), fun a o e => (by cases e), fun a o e => (by cases e), ⟨_, F.ns⟩, rfl, hG, fun a o e => (by cases e)⟩
 have vlen : vals.length = ns.length := by
  have := (ints_rel (σ := fun _ => none) (h := h₁) (h0 := h₁) (P := w.params) hI).length
  rw [List.length_map] at this
  lia
 have hscript : VRel (hid (fun _ => none) (fun _ => none)) h₁ (.list (ns.map .int)) (.ref l) :=
  .list (vs := vals.toArray) rfl ⟨_, F.keep _ _ hl⟩ (by simp; lia) (ints_rel (h0 := h₁) (P := w.params) hI)
 have R : Room 9 (callerA.deeper (envOfC name scope s₁.heap.objs.size fa cd)) := ⟨rfl, by show (1 + claimMargin) + 1 + 4 * 9 + 10 ≤ recursionLimit; decide +kernel, by show 4 + 3 + 20 * 9 + 200 ≤ cLine; decide +kernel⟩
 have slots0 : ∀ (i : Nat) v, (initR f_law [V.list (ns.map .int)])[i]? = some v → v ≠ .undef → i = 0 ∧ v = .list (ns.map .int) := fun i v hv hne => by
  cases i with
  | zero => simp [initR] at hv; exact ⟨rfl, hv.symm⟩
  | succ i =>
   unfold initR at hv
   rw [List.singleton_append,List.getElem?_cons_succ] at hv
   have := List.mem_of_getElem? hv
   rw [List.mem_replicate] at this
   exact absurd this.2 hne
 have nm0 : ∀ y, f_law.names.lookup y = some 0 → y = PySem.Str.ofString "script" := fun y hy =>
  snd_inj (l := f_law.names) (by decide +kernel) (lookup_mem hy) (show (PySem.Str.ofString "script", 0) ∈ f_law.names from List.mem_cons_self)
 have FR : FrOk X (fun _ => none) scope f_law.names (envOfC name scope s₁.heap.objs.size fa cd) (initR f_law [V.list (ns.map .int)]) (fun _ => none) h₁ := {
  scope := rfl
  kind := hk
  glob := rfl
  blt := rfl
  ns := NsOk.mk _ F.ns fun x i hx hkx v hv hne => by
   obtain ⟨rfl, rfl⟩ := slots0 i v hv hne
   have := nm0 x hx
   subst this
   refine ⟨.ref l, ?_, hscript⟩
   rw [hbinds]
   exact bindL_get (kindOf := (envOfC name scope s₁.heap.objs.size fa cd).kindOf) (x := PySem.Str.ofString "script") hkn [(PySem.Str.ofString "script", .ref l)] (by simp) (by simp)
  cell := fun x hx => by
   have hc' : scope.names.lookup x = some .cell := by
    rcases hx with h1 | h1
    ·exact h1
    ·have := List.all_eq_true.mp hfree _ (lookup_mem h1)
     simp at this
   obtain ⟨c, hc⟩ := cellsFrom_some scope.names (n := s₁.heap.objs.size + 1) (acc := []) (.inl (lookup_mem hc'))
   obtain ⟨g1, g2⟩ := cells_ex X0 N0 x c (lookup_mem hc)
   refine CellOk.mk c _ hc g1 rfl g2 fun i hi v hv hne => ?_
   obtain ⟨rfl, rfl⟩ := slots0 i v hv hne
   have := nm0 x hi
   rw [this,hkn] at hc'
   cases hc'
  own := ⟨rfl, hG⟩
  inj := fun y z i hy hz => snd_inj (by decide +kernel) (lookup_mem hy) (lookup_mem hz)
  cinj := fun y z c hy hz => name_of_addr apart (lookup_mem hy) (lookup_mem hz) }
 have := soundSs (X := X) (k := 9) B f_law_b hm (law_ok (k := 0) FN ns) R S FR
 refine wpAny_mono this (fun f s' ⟨fl, ρ', σ', S', T', _, fr, hq⟩ => ?_) fun _ _ x => x
 subst hq
 cases fr with
 | ret v =>
  have := VRel.bool_inv v
  subst this
  obtain ⟨h', tk', e⟩ := T'.rest
  subst e
  exact ⟨rfl, S'.keep, rfl, rfl⟩
theorem plain_of {P : Params} {h : Heap} {l : Addr} {vals : List Value} {xs : List WData} (W : Well P h (.ref l) (.list xs)) (L : h.IsList l vals.toArray) : h.get? l = some { cls := .type "list", data := .seq vals.toArray } := by
 obtain ⟨o, ho, _, n, hd⟩ := L
 cases W with
 | list e r =>
  rw [ho] at e
  cases e
  injection hd with e1 e2
  rw [ho]
  rw [e1]
theorem cellsFrom_apart : ∀ (names : List (PySem.Str × NameKind)) (n : Nat) (acc : List (PySem.Str × Addr)), (acc.Pairwise fun x y => x.2 ≠ y.2) → (∀ x ∈ acc, x.2 < n) → (cellsFrom n names acc).Pairwise fun x y => x.2 ≠ y.2
 | [], n, acc, h, _ => h
 | (name, kind) :: r, n, acc, h, hn => by
  unfold cellsFrom
  split
  ·refine cellsFrom_apart r _ _ (List.pairwise_cons.mpr ⟨fun x hx e => absurd e (Nat.ne_of_gt (hn x hx)), h⟩) fun x hx => ?_
   ·rcases List.mem_cons.mp hx with rfl | hx
    ·exact Nat.lt_succ_self n
    ·exact Nat.lt_succ_of_lt (hn x hx)
  ·exact cellsFrom_apart r n acc h hn
end Mine
end

section
open PySem PySem.Calls PyProof.Rows PySem.W
namespace Mine
theorem hd2.tw8638189538914394518:True:=trivial
theorem hd2.tw5737332735241192480:True:=trivial
theorem hd2.tw13293559851110714917:True:=trivial
theorem hd2.tw17863663301449821353:True:=trivial
theorem hd2.tw8820833757433601248:True:=trivial
theorem hd2.tw8035582041047982695:True:=trivial
theorem hd2.tw14074757610759374883:True:=trivial
theorem hd2.tw18174072297906514020:True:=trivial
theorem hd2.tw1661735826367217920:True:=trivial
theorem hd2.tw4824900304648349841:True:=trivial
theorem hd2.tw12744547004402294166:True:=trivial
theorem hd2.tw1756046332173334044:True:=trivial
theorem hd2.tw796541965042749405:True:=trivial
theorem hd2.tw17402436503830534284:True:=trivial
theorem hd2.tw1318896001474212375:True:=trivial
theorem hd2.tw12906163079172978134:True:=trivial
theorem hd2.tw4608914758703064736:True:=trivial
theorem hd2.tw5162195762927539322:True:=trivial
theorem hd2.tw224222341285288047:True:=trivial
theorem hd2.tw6943482231213170573:True:=trivial
theorem hd2.tw8733659265945308904:True:=trivial
theorem hd2.tw2534007210167750645:True:=trivial
theorem hd2.tw3621270667139059588:True:=trivial
theorem hd2.tw7745089850723280071:True:=trivial
theorem hd2.tw14170056426808676843:True:=trivial
theorem hd2.tw15898290613689916817:True:=trivial
theorem hd2.tw14363115554507852009:True:=trivial
theorem hd2.tw604307690595882831:True:=trivial
theorem hd2.tw17610023445318247383:True:=trivial
theorem hd2.tw14347230989661045164:True:=trivial
theorem hd2.tw14064317837418037555:True:=trivial
theorem hd2.tw9317197213634029570:True:=trivial
theorem hd2.tw11487665957702846800:True:=trivial
theorem hd2.tw17308713692068450198:True:=trivial
theorem hd2.tw17883529072271118419:True:=trivial
theorem hd2.tw5499910793742561429:True:=trivial
theorem hd2.tw1373332207738206599:True:=trivial
theorem hd2.tw4960970959582891546:True:=trivial
theorem hd2.tw15648364054427486478:True:=trivial
theorem hd2.tw10903109540234210708:True:=trivial
theorem hd2.tw9514616225478430594:True:=trivial
theorem hd2.tw9387478822007575184:True:=trivial
theorem hd2.tw6602815505063476238:True:=trivial
theorem hd2.tw18097591840932859414:True:=trivial
theorem hd2.tw4479011239912934169:True:=trivial
theorem hd2.tw13162815524414113834:True:=trivial
theorem hd2.tw12865084311106458185:True:=trivial
theorem hd2.tw15862463550356848744:True:=trivial
theorem hd2.tw10093022765178181272:True:=trivial
theorem hd2.tw15271477745785516841:True:=trivial
theorem hd2.tw1787761290930888318:True:=trivial
theorem hd2.tw16635775124085440312:True:=trivial
theorem hd2.tw14401057463952056089:True:=trivial
theorem hd2.tw10272945827294731763:True:=trivial
theorem hd2.tw1256580951684823992:True:=trivial
theorem hd2.tw5724285506335090026:True:=trivial
theorem hd2.tw710885876865845836:True:=trivial
theorem hd2.tw9802295697211912694:True:=trivial
theorem hd2.tw754285140521276078:True:=trivial
theorem hd2.tw11081256818881743468:True:=trivial
theorem hd2.tw16406783082193439448:True:=trivial
theorem hd2.tw9030083065773517369:True:=trivial
theorem hd2.tw3433207971968412175:True:=trivial
theorem hd2.tw6009688105174031872:True:=trivial
theorem hd2.tw2126447280774793394:True:=trivial
theorem hd2.tw10219850682025270129:True:=trivial
theorem hd2.tw5010817206199610734:True:=trivial
theorem hd2.tw15520457192935335381:True:=trivial
theorem hd2.tw17063568424206148002:True:=trivial
theorem hd2.tw3531249046930223117:True:=trivial
theorem hd2.tw6339312482876286893:True:=trivial
theorem hd2.tw262287036633283243:True:=trivial
theorem hd2.tw12580300788034773645:True:=trivial
theorem hd2.tw4987636919662039959:True:=trivial
theorem hd2.tw9931816716460518110:True:=trivial
theorem hd2.tw12484154373126971508:True:=trivial
theorem hd2.tw6101760290850618121:True:=trivial
theorem hd2.tw14078174918965225603:True:=trivial
theorem hd2.tw1808859036645578109:True:=trivial
theorem hd2.tw5925304531832806970:True:=trivial
theorem hd2.tw14822852427591402130:True:=trivial
theorem hd2.tw353303069719100757:True:=trivial
theorem hd2.tw17154464714986587404:True:=trivial
theorem hd2.tw3623368656732710881:True:=trivial
theorem hd2.tw11391031360288678349:True:=trivial
theorem hd2.tw9178447152694605359:True:=trivial
theorem hd2.tw13464015321323206389:True:=trivial
theorem hd2.tw16249154343376908211:True:=trivial
theorem hd2.tw10470765325327829652:True:=trivial
theorem hd2.tw6094729067435387435:True:=trivial
theorem hd2.tw2367618826561235696:True:=trivial
theorem hd2.tw8739050139373961009:True:=trivial
theorem hd2.tw11049299353231010424:True:=trivial
theorem hd2.tw15696999210736300618:True:=trivial
theorem hd2.tw7480664447817381275:True:=trivial
theorem hd2.tw4013735811783285400:True:=trivial
theorem hd2.tw6070952261226161663:True:=trivial
theorem hd2.tw55607396526106977:True:=trivial
theorem hd2.tw2693518484206568101:True:=trivial
theorem hd2.tw537339855394300490:True:=trivial
theorem hd2.tw3556367115372997290:True:=trivial
theorem hd2.tw10706713821126876067:True:=trivial
theorem hd2.tw15959769663615884937:True:=trivial
theorem hd2.tw9025149566346154062:True:=trivial
theorem hd2.tw2780089739463094493:True:=trivial
theorem hd2.tw7998344961517463956:True:=trivial
theorem hd2.tw5765930190879127807:True:=trivial
theorem hd2.tw10189825699233536357:True:=trivial
theorem hd2.tw12537377171073117298:True:=trivial
theorem hd2.tw10686981873337859931:True:=trivial
theorem hd2.tw14939525105098405936:True:=trivial
theorem hd2.tw101041087702457904:True:=trivial
theorem hd2.tw4717654017078143654:True:=trivial
theorem hd2.tw11149403225895476569:True:=trivial
theorem hd2.tw13051000892100466696:True:=trivial
theorem hd2.tw13810677373062009955:True:=trivial
theorem hd2.tw11993121850234153533:True:=trivial
theorem hd2.tw5858988257725350915:True:=trivial
theorem hd2.tw7290428043505870489:True:=trivial
theorem hd2.tw5439220691504817211:True:=trivial
theorem hd2.tw4986522300587698104:True:=trivial
theorem hd2.tw2132613098981253317:True:=trivial
theorem hd2.tw16289564860063074514:True:=trivial
theorem hd2.tw7565179688163074059:True:=trivial
theorem hd2.tw3574309194180151348:True:=trivial
theorem hd2.tw4436973419971921206:True:=trivial
theorem hd2.tw18331866940933885689:True:=trivial
theorem hd2.tw18059104594531047267:True:=trivial
theorem hd2.tw5760106387988716458:True:=trivial
theorem hd2.tw14989497439429094919:True:=trivial
theorem hd2.tw2239638238429186564:True:=trivial
theorem hd2.tw15231150651594951603:True:=trivial
theorem hd2.tw4564416937610578931:True:=trivial
theorem hd2.tw6758173574556093506:True:=trivial
theorem hd2.tw7114538484913203130:True:=trivial
theorem hd2.tw15176672583364487161:True:=trivial
theorem hd2.tw5150017175976815442:True:=trivial
theorem hd2.tw5331086248898644504:True:=trivial
theorem hd2.tw5506855588011826855:True:=trivial
theorem hd2.tw563407987707677041:True:=trivial
theorem hd2.tw1454878787431918993:True:=trivial
theorem hd2.tw5236335410611732991:True:=trivial
theorem hd2.tw13646780889659836927:True:=trivial
theorem hd2.tw14023998935749123435:True:=trivial
theorem hd2.tw16617358362609105000:True:=trivial
theorem hd2.tw12501706066654292219:True:=trivial
theorem hd2.tw7973587357895806194:True:=trivial
theorem hd2.tw8184663971639331756:True:=trivial
theorem hd2.tw17680995164864114740:True:=trivial
theorem hd2.tw6872981795101872465:True:=trivial
theorem hd2.tw4285178136021759769:True:=trivial
theorem hd2.tw12896583090037188366:True:=trivial
theorem hd2.tw32522111057463545:True:=trivial
theorem hd2.tw13619548112358091664:True:=trivial
theorem hd2.tw1520809361914864758:True:=trivial
theorem hd2.tw8006859400109840664:True:=trivial
theorem hd2.tw391315536267058294:True:=trivial
theorem hd2.tw734633284641387689:True:=trivial
theorem hd2.tw10666633089758425780:True:=trivial
theorem hd2.tw674985084136377837:True:=trivial
theorem hd2.tw8642559067746812850:True:=trivial
theorem hd2.tw13808098181718039452:True:=trivial
theorem hd2.tw15989832115310774332:True:=trivial
theorem hd2.tw17377126412373271015:True:=trivial
theorem hd2.tw1444440135474070075:True:=trivial
theorem hd2.tw1863054346547387268:True:=trivial
theorem hd2.tw10949718306181768204:True:=trivial
theorem hd2.tw8090823174340995975:True:=trivial
theorem hd2.tw2012775963990416642:True:=trivial
theorem hd2.tw2348690137466451480:True:=trivial
theorem hd2.tw9975164428627517902:True:=trivial
theorem hd2.tw17415303052053095784:True:=trivial
theorem hd2.tw7739015951003946850:True:=trivial
theorem hd2.tw17414271194069601105:True:=trivial
theorem hd2.tw10905018937949311775:True:=trivial
theorem hd2.tw5524305674342914610:True:=trivial
theorem hd2.tw4563063862021744988:True:=trivial
theorem hd2.tw16633211826121731172:True:=trivial
theorem hd2.tw13874339593932663290:True:=trivial
theorem hd2.tw10703380130156237404:True:=trivial
theorem hd2.tw5018383507687693982:True:=trivial
theorem hd2.tw17690794081459551350:True:=trivial
theorem hd2.tw1686081868800429584:True:=trivial
theorem hd2.tw7567016876032755827:True:=trivial
theorem hd2.tw10272772584803894524:True:=trivial
theorem hd2.tw13507579669612370178:True:=trivial
theorem hd2.tw13768875234911871128:True:=trivial
theorem hd2.tw3367576524875659688:True:=trivial
theorem hd2.tw3502989392171735418:True:=trivial
theorem hd2.tw8435538589820232700:True:=trivial
theorem hd2.tw18418512666878738487:True:=trivial
theorem hd2.tw13948321209307596347:True:=trivial
theorem hd2.tw12763764424270198577:True:=trivial
theorem hd2.tw7010516460443940295:True:=trivial
theorem hd2.tw13061873611917540826:True:=trivial
theorem hd2.tw10533107972697636804:True:=trivial
theorem hd2.tw6360799348238518018:True:=trivial
theorem hd2.tw4047575660166857361:True:=trivial
theorem hd2.tw4080911265041974390:True:=trivial
theorem hd2.tw6727789753133388713:True:=trivial
theorem hd2.tw14521410870882814254:True:=trivial
theorem hd2.tw2164801795699636843:True:=trivial
theorem hd2.tw2331008334238325607:True:=trivial
theorem hd2.tw3786290236359867107:True:=trivial
theorem hd2.tw14273107555417637312:True:=trivial
theorem hd2.tw3047423576518684788:True:=trivial
theorem hd2.tw6686078306103431042:True:=trivial
theorem hd2.tw2998908863845618366:True:=trivial
theorem hd2.tw8667247941962200066:True:=trivial
theorem hd2.tw17237646537067781763:True:=trivial
theorem hd2.tw7235931902288160564:True:=trivial
theorem hd2.tw15352490148716938460:True:=trivial
theorem hd2.tw1196108307587243228:True:=trivial
theorem hd2.tw5521143679866273701:True:=trivial
theorem hd2.tw401881018233993473:True:=trivial
theorem hd2.tw4208630012958610394:True:=trivial
theorem hd2.tw4346409662881557102:True:=trivial
theorem hd2.tw13116479308923629230:True:=trivial
theorem hd2.tw17048861347830081487:True:=trivial
theorem hd2.tw13170595746660695564:True:=trivial
theorem hd2.tw6815210391746928124:True:=trivial
theorem hd2.tw11886118393436536228:True:=trivial
theorem hd2.tw4128767988726417249:True:=trivial
theorem hd2.tw17039020653511099826:True:=trivial
theorem hd2.tw18248147197437350449:True:=trivial
theorem hd2.tw6335107781196790513:True:=trivial
theorem hd2.tw16097522423330317400:True:=trivial
theorem hd2.tw6442998482030438663:True:=trivial
theorem hd2.tw10188748099632924578:True:=trivial
theorem hd2.tw3122970029111052557:True:=trivial
theorem hd2.tw18416032972735143976:True:=trivial
theorem hd2.tw332627713378957678:True:=trivial
theorem hd2.tw5221819983072792899:True:=trivial
theorem hd2.tw1595972307316097103:True:=trivial
theorem hd2.tw15644325043196869005:True:=trivial
theorem hd2.tw16457211209562306832:True:=trivial
theorem hd2.tw11564645500747994937:True:=trivial
theorem hd2.tw8108540578436229937:True:=trivial
theorem hd2.tw767523161667480977:True:=trivial
theorem hd2.tw12751814530280855791:True:=trivial
theorem hd2.tw8398703261778151150:True:=trivial
theorem hd2.tw17729420277734569955:True:=trivial
theorem hd2.tw18121077527062402413:True:=trivial
theorem hd2.tw16224822230647373906:True:=trivial
theorem hd2.tw87145970435450675:True:=trivial
theorem hd2.tw18141258880019740379:True:=trivial
theorem hd2.tw17434558074447078469:True:=trivial
theorem hd2.tw5113211338630201030:True:=trivial
theorem hd2.tw13695168601640147472:True:=trivial
theorem hd2.tw3486723893036766803:True:=trivial
theorem hd2.tw12466773587236661786:True:=trivial
theorem hd2.tw11979136065424681370:True:=trivial
theorem hd2.tw3428949384659299139:True:=trivial
theorem hd2.tw18376440725419151620:True:=trivial
theorem hd2.tw7128966471238075169:True:=trivial
theorem hd2.tw13818045471477145132:True:=trivial
theorem hd2.tw14472753914779276088:True:=trivial
theorem hd2.tw5626584828201687806:True:=trivial
theorem hd2.tw8199764985606647887:True:=trivial
theorem hd2.tw16253987971922178028:True:=trivial
theorem hd2.tw16715680138880398560:True:=trivial
theorem hd2.tw21574547610721987:True:=trivial
theorem hd2.tw1435591422723803084:True:=trivial
theorem hd2.tw15409490714596824324:True:=trivial
theorem hd2.tw12800997404657656192:True:=trivial
theorem hd2.tw14396293657529361391:True:=trivial
theorem hd2.tw175109583173815259:True:=trivial
theorem hd2.tw5296060203790821902:True:=trivial
theorem hd2.tw10118509117330703962:True:=trivial
theorem hd2.tw6236451197060791999:True:=trivial
theorem hd2.tw2108963761862365243:True:=trivial
theorem hd2.tw17122416369250961311:True:=trivial
theorem hd2.tw992009045571396808:True:=trivial
theorem hd2.tw11387425415538479326:True:=trivial
theorem hd2.tw14163117343867048754:True:=trivial
theorem hd2.tw4272443717928200365:True:=trivial
theorem hd2.tw13177813741639216242:True:=trivial
theorem hd2.tw16916649635783214691:True:=trivial
theorem hd2.tw1909785642558140098:True:=trivial
theorem hd2.tw8844539425579231078:True:=trivial
theorem hd2.tw10945553382814038100:True:=trivial
theorem hd2.tw16686898776239975625:True:=trivial
theorem hd2.tw4431069293143485328:True:=trivial
theorem hd2.tw9456819424216790232:True:=trivial
theorem hd2.tw622305421618594425:True:=trivial
theorem hd2.tw10599195360925122940:True:=trivial
theorem hd2.tw5909614296626568523:True:=trivial
theorem hd2.tw9874975876783469125:True:=trivial
theorem hd2.tw9001575777495838784:True:=trivial
theorem hd2.tw18019478846407220815:True:=trivial
theorem hd2.tw11636861072522841108:True:=trivial
theorem hd2.tw71533331695246426:True:=trivial
theorem hd2.tw3231304084998413415:True:=trivial
theorem hd2.tw9250895064746319272:True:=trivial
theorem hd2.tw8018312643286630970:True:=trivial
theorem hd2.tw17081775300665929400:True:=trivial
theorem hd2.tw4020321512730744655:True:=trivial
theorem hd2.tw14342148964104363333:True:=trivial
theorem hd2.tw1860114071392357742:True:=trivial
theorem hd2.tw1230165769213727595:True:=trivial
theorem hd2.tw6222138239097249262:True:=trivial
theorem hd2.tw11970665417900345971:True:=trivial
theorem hd2.tw13366119217861580157:True:=trivial
theorem hd2.tw5034723987699173382:True:=trivial
theorem hd2.tw18417741203989945379:True:=trivial
theorem hd2.tw11174228389967080086:True:=trivial
theorem hd2.tw1505970067136714487:True:=trivial
theorem hd2.tw6654425124794004566:True:=trivial
theorem hd2.tw3202660704905915197:True:=trivial
theorem hd2.tw1915632612733649517:True:=trivial
theorem hd2.tw18005265497134895539:True:=trivial
theorem hd2.tw10360535843966251840:True:=trivial
theorem hd2.tw10191696753133945466:True:=trivial
theorem hd2.tw1032505069526019670:True:=trivial
theorem hd2.tw7357430904608827199:True:=trivial
theorem hd2.tw521047591097249419:True:=trivial
theorem hd2.tw7628335523113821788:True:=trivial
theorem hd2.tw16891520828879567593:True:=trivial
theorem hd2.tw14747932260711156607:True:=trivial
theorem hd2.tw5542873789161101442:True:=trivial
theorem hd2.tw12397336453873556141:True:=trivial
theorem hd2.tw7731060619895641366:True:=trivial
theorem hd2.tw3571847127490814351:True:=trivial
theorem hd2.tw12887476875452498069:True:=trivial
theorem hd2.tw17442912257199536875:True:=trivial
theorem hd2.tw15717762271390065686:True:=trivial
theorem hd2.tw3154296723918424043:True:=trivial
theorem hd2.tw9119293857461180547:True:=trivial
theorem hd2.tw14821936039021965399:True:=trivial
theorem hd2.tw6523880012763818166:True:=trivial
theorem hd2.tw16259318733414842982:True:=trivial
theorem hd2.tw17149979933336599690:True:=trivial
theorem hd2.tw11237372735114035931:True:=trivial
theorem hd2.tw6368226021125579375:True:=trivial
theorem hd2.tw17146770199489380769:True:=trivial
theorem hd2.tw1386277679703014416:True:=trivial
theorem hd2.tw10628401907142525191:True:=trivial
theorem hd2.tw17971443411627580558:True:=trivial
theorem hd2.tw13175543063059372526:True:=trivial
theorem hd2.tw5158208639234804763:True:=trivial
theorem hd2.tw6355366842176592239:True:=trivial
theorem hd2.tw15719296428168962565:True:=trivial
theorem hd2.tw15215235494914212502:True:=trivial
theorem hd2.tw2235074827555887178:True:=trivial
theorem hd2.tw2129821099330906877:True:=trivial
theorem hd2.tw4138052882804363771:True:=trivial
theorem hd2.tw7369966113030148815:True:=trivial
theorem hd2.tw17142955953045606057:True:=trivial
theorem hd2.tw13121207220110486336:True:=trivial
theorem hd2.tw6676478726720251381:True:=trivial
theorem hd2.tw4877783700938437086:True:=trivial
theorem hd2.tw9749753934752944884:True:=trivial
theorem hd2.tw8808935482714438731:True:=trivial
theorem hd2.tw2878530497415329576:True:=trivial
theorem hd2.tw7422703064994039397:True:=trivial
theorem hd2.tw6671275844181521660:True:=trivial
theorem hd2.tw6718111456414773483:True:=trivial
theorem hd2.tw5938086500499771950:True:=trivial
theorem hd2.tw10392855127027845396:True:=trivial
theorem hd2.tw2087716684499464581:True:=trivial
theorem hd2.tw9745169078473251068:True:=trivial
theorem hd2.tw17696548171621591989:True:=trivial
theorem hd2.tw8779171860619232142:True:=trivial
theorem hd2.tw7875540786070732152:True:=trivial
theorem hd2.tw10263914928000536134:True:=trivial
theorem hd2.tw11129188869610538314:True:=trivial
theorem hd2.tw5894657894921262582:True:=trivial
theorem hd2.tw8077335385857423075:True:=trivial
theorem hd2.tw12225221494049422591:True:=trivial
set_option Elab.async true in
set_option maxRecDepth 100000 in
set_option maxHeartbeats 8000000 in
theorem hd2 : PySem.Challenge.rw_xm0992_01.Holds := by
 w_on; o_law; k_head; (case hw => w_witness2)
 w_strict (
  k_go0
  all_goals (try k_fold)
  rename Frag.In _ _ => KX
  rename Top _ _ _ _ _ _ => TT
  rename Fr _ _ _ _ => FF
  rename News _ _ _ _ => NN
  rename CellsAre _ _ _ => XX
  rename IntsAre _ _ => II
  rename Well _ _ _ _ => WW
  rename ¬ _ < _ => hlen
  rename Heap.IsList _ _ _ => LL
  rename _ = #[] => hgens
  have sm : ∃ o, Heap.get? _ sysModules = some o := let ⟨mm, ⟨o, _, _, e, _⟩, _⟩ := (TT.seer (by kernel_rfl)).mods; ⟨o, e⟩
  refine wpAny_mono (law_body KX (by constructor <;> (try intros) <;> kernel_rfl) TT.nolimit sm ⟨_, _, TT.g, TT.b, TT.builtins⟩ (plain_of WW LL) II (by lia) FF NN XX (by kernel_rfl) rfl (by kernel_rfl) rfl (by kernel_rfl) (cellsFrom_apart _ _ _ .nil (fun _ h => nomatch h))) ?ok ?err
  case err => exact fun _ _ h => h.elim
  case ok =>
   rintro f s' ⟨rfl, hk, hos, hg⟩
   refine ⟨.inl ⟨.bool true, .bool true, [], rfl, fun _ => ?_, .bool _, ?_, ?_⟩, hk, hos, hg.trans hgens⟩
   ·kernel_rfl
   ·kernel_rfl
   ·exact fun _ => ⟨.nil, fun _ h => nomatch h⟩)
end Mine
end

theorem PySem.Challenge.cw_xm0992_01_holds : PySem.Challenge.rw_xm0992_01.Holds := by
  exact Mine.hd2
