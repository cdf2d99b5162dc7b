import PyProof.Rows.All
import Wide.All
import OpenK.AllK
import Wide.FinOn
import PySem.Challenge.RW_ov0058_01
set_option Elab.async false
set_option maxRecDepth 100000
set_option linter.unusedVariables false
set_option linter.unusedSimpArgs false
set_option genSizeOfSpec false
set_option genInjectivity false
namespace Mine
open PySem PySem.W PySem.Calls PyProof.Rows PySem.Spec

abbrev HKeep (h h' : Heap) : Prop := ∀ a o, h.get? a = some o → h'.get? a = some o
noncomputable def nE : Value → Shared → Prop := fun _ _ => False

theorem lk_ne {β : Type} {y x : Str} {d : β} {l : List (Str × β)} (h : y ≠ x) : List.lookup y ((x, d) :: l) = List.lookup y l := by
  rw [List.lookup_cons, show (y == x) = false from beq_eq_false_iff_ne.mpr h]

/-! memberships, one by one -/
theorem fm0 {α : Type} {P : α → Prop} : ∀ x ∈ ([] : List α), P x := fun _ m => nomatch m
theorem fm {α : Type} {P : α → Prop} {a : α} {l : List α} (h : P a) (t : ∀ x ∈ l, P x) : ∀ x ∈ a :: l, P x := List.forall_mem_cons.mpr ⟨h, t⟩
theorem fp0 {α β : Type} {P : α → β → Prop} : ∀ x y, (x, y) ∈ ([] : List (α × β)) → P x y := fun _ _ m => nomatch m
theorem fp {α β : Type} {P : α → β → Prop} {a : α} {b : β} {l : List (α × β)} (h : P a b) (t : ∀ x y, (x, y) ∈ l → P x y) : ∀ x y, (x, y) ∈ (a, b) :: l → P x y := fun x y m =>
  (List.mem_cons.mp m).elim (fun e => (congrArg (fun p : α × β => P p.1 p.2) e).mpr h) (t x y)
theorem m1 {α : Type} {a b : α} {l : List α} : b ∈ a :: b :: l := .tail _ (.head _)
theorem m2 {α : Type} {a b c : α} {l : List α} : c ∈ a :: b :: c :: l := .tail _ m1
theorem m3 {α : Type} {a b c d : α} {l : List α} : d ∈ a :: b :: c :: d :: l := .tail _ m2
theorem m4 {α : Type} {a b c d e : α} {l : List α} : e ∈ a :: b :: c :: d :: e :: l := .tail _ m3

/-! ## values read as pure data, apart from the addresses W -/
mutual
inductive Rv (W : List Addr) (h : Heap) : Value → PyData → Prop
  | none : Rv W h .none .none
  | bool (b : Bool) : Rv W h (.bool b) (.bool b)
  | int (i : Int) (t : Tok) : Rv W h (.int i t) (.int i)
  | str (x : Str) (t : Tok) : Rv W h (.str x t) (.str x)
  | list {a : Addr} {o : Obj} {vs : Array Value} {n : Nat} {ds : List PyData} : h.get? a = some o → o.cls = .type "list" → o.data = .seq vs n → a ∉ W → Rvs W h vs.toList ds → Rv W h (.ref a) (.list ds)
  | tuple {a : Addr} {o : Obj} {vs : Array Value} {n : Nat} {ds : List PyData} : h.get? a = some o → o.cls = .type "tuple" → o.data = .seq vs n → a ∉ W → Rvs W h vs.toList ds → Rv W h (.ref a) (.tuple ds)
inductive Rvs (W : List Addr) (h : Heap) : List Value → List PyData → Prop
  | nil : Rvs W h [] []
  | cons {v : Value} {vs : List Value} {d : PyData} {ds : List PyData} : Rv W h v d → Rvs W h vs ds → Rvs W h (v :: vs) (d :: ds)
end

theorem Rvs.ind {W : List Addr} {h : Heap} {P : List Value → List PyData → Prop} (n : P [] []) (c : ∀ {v : Value} {vs : List Value} {d : PyData} {ds : List PyData}, Rv W h v d → Rvs W h vs ds → P vs ds → P (v :: vs) (d :: ds)) {vs : List Value} {ds : List PyData} (r : Rvs W h vs ds) : P vs ds :=
  Rvs.rec (motive_1 := fun _ _ _ => True) (motive_2 := fun vs ds _ => P vs ds) trivial (fun _ => trivial) (fun _ _ => trivial) (fun _ _ => trivial) (fun _ _ _ _ _ _ => trivial) (fun _ _ _ _ _ _ => trivial) n (fun r rs _ ih => c r rs ih) r
theorem Rv.toS {W W' : List Addr} {h h' : Heap} (k : ∀ a o vs n, a ∉ W → h.get? a = some o → o.data = .seq vs n → a ∉ W' ∧ h'.get? a = some o) {v : Value} {d : PyData} (r : Rv W h v d) : Rv W' h' v d :=
  Rv.rec (motive_1 := fun v d _ => Rv W' h' v d) (motive_2 := fun vs ds _ => Rvs W' h' vs ds) .none .bool .int .str (fun e c q n _ r => .list (k _ _ _ _ n e q).2 c q (k _ _ _ _ n e q).1 r) (fun e c q n _ r => .tuple (k _ _ _ _ n e q).2 c q (k _ _ _ _ n e q).1 r) .nil (fun _ _ r rs => .cons r rs) r
theorem Rvs.toS {W W' : List Addr} {h h' : Heap} (k : ∀ a o vs n, a ∉ W → h.get? a = some o → o.data = .seq vs n → a ∉ W' ∧ h'.get? a = some o) {vs : List Value} {ds : List PyData} (r : Rvs W h vs ds) : Rvs W' h' vs ds := r.ind (P := fun vs ds => Rvs W' h' vs ds) .nil fun r _ ih => .cons (r.toS k) ih
theorem Rv.to {W W' : List Addr} {h h' : Heap} (k : ∀ a o, a ∉ W → h.get? a = some o → a ∉ W' ∧ h'.get? a = some o) {v : Value} {d : PyData} (r : Rv W h v d) : Rv W' h' v d := r.toS fun a o _ _ n e _ => k a o n e
theorem Rvs.to {W W' : List Addr} {h h' : Heap} (k : ∀ a o, a ∉ W → h.get? a = some o → a ∉ W' ∧ h'.get? a = some o) {vs : List Value} {ds : List PyData} (r : Rvs W h vs ds) : Rvs W' h' vs ds := r.toS fun a o _ _ n e _ => k a o n e

theorem Rv.reads {W : List Addr} {h : Heap} {v : Value} {d : PyData} (r : Rv W h v d) : ∃ as, Reads h v d as :=
  Rv.rec (motive_1 := fun v d _ => ∃ as, Reads h v d as) (motive_2 := fun vs ds _ => ∃ as, ReadsAll h vs ds as) ⟨_, .none⟩ (fun b => ⟨_, .bool b⟩) (fun i t => ⟨_, .int i t⟩) (fun x t => ⟨_, .str x t⟩) (fun e c q _ _ r => r.elim fun _ x => ⟨_, .list e c q x⟩) (fun e c q _ _ r => r.elim fun _ x => ⟨_, .tuple e c q x⟩) ⟨_, .nil⟩ (fun _ _ r rs => r.elim fun _ x => rs.elim fun _ y => ⟨_, .cons x y⟩) r
theorem Rvs.reads {W : List Addr} {h : Heap} {vs : List Value} {ds : List PyData} (r : Rvs W h vs ds) : ∃ as, ReadsAll h vs ds as :=
  r.ind (P := fun vs ds => ∃ as, ReadsAll h vs ds as) ⟨_, .nil⟩ fun r _ ih => r.reads.elim fun _ x => ih.elim fun _ y => ⟨_, .cons x y⟩

section
variable {W : List Addr} {h : Heap} {vs : List Value} {ds : List PyData}
theorem Rvs.length (r : Rvs W h vs ds) : vs.length = ds.length := r.ind (P := fun vs ds => vs.length = ds.length) rfl fun _ _ ih => congrArg Nat.succ ih
theorem Rvs.both (r : Rvs W h vs ds) : ∀ i : Nat, (vs[i]? = none ∧ ds[i]? = none) ∨ ∃ v d, vs[i]? = some v ∧ ds[i]? = some d ∧ Rv W h v d :=
  r.ind (P := fun vs ds => ∀ i : Nat, (vs[i]? = none ∧ ds[i]? = none) ∨ ∃ v d, vs[i]? = some v ∧ ds[i]? = some d ∧ Rv W h v d) (fun _ => .inl ⟨rfl, rfl⟩) fun r _ ih i => Nat.casesOn i (.inr ⟨_, _, rfl, rfl, r⟩) ih
theorem Rvs.at (r : Rvs W h vs ds) {i : Nat} {d : PyData} (e : ds[i]? = some d) : ∃ v, vs[i]? = some v ∧ Rv W h v d :=
  (r.both i).elim (fun q => nomatch q.2.symm.trans e) fun ⟨v, d', a, b, q⟩ => ⟨v, a, Option.some.inj (b.symm.trans e) ▸ q⟩
theorem Rvs.at' (r : Rvs W h vs ds) {i : Nat} {v : Value} (e : vs[i]? = some v) : ∃ d, ds[i]? = some d ∧ Rv W h v d :=
  (r.both i).elim (fun q => nomatch q.1.symm.trans e) fun ⟨v', d, a, b, q⟩ => ⟨d, b, Option.some.inj (a.symm.trans e) ▸ q⟩
theorem Rvs.app {us : List Value} {es : List PyData} (r : Rvs W h vs ds) (y : Rvs W h us es) : Rvs W h (vs ++ us) (ds ++ es) :=
  r.ind (P := fun vs ds => Rvs W h (vs ++ us) (ds ++ es)) y fun r _ ih => .cons r ih
theorem Rvs.set {v : Value} {d : PyData} (r : Rv W h v d) (rs : Rvs W h vs ds) : ∀ i : Nat, Rvs W h (vs.set i v) (ds.set i d) :=
  rs.ind (P := fun vs ds => ∀ i : Nat, Rvs W h (vs.set i v) (ds.set i d)) (fun _ => .nil) fun q rs ih i => Nat.casesOn i (.cons r rs) fun i => .cons q (ih i)
theorem Rvs.drop (rs : Rvs W h vs ds) : ∀ n : Nat, Rvs W h (vs.drop n) (ds.drop n) :=
  rs.ind (P := fun vs ds => ∀ n : Nat, Rvs W h (vs.drop n) (ds.drop n)) (fun n => Nat.casesOn n .nil fun _ => .nil) fun r rs ih n => Nat.casesOn n (.cons r rs) ih
theorem Rvs.take (rs : Rvs W h vs ds) : ∀ n : Nat, Rvs W h (vs.take n) (ds.take n) :=
  rs.ind (P := fun vs ds => ∀ n : Nat, Rvs W h (vs.take n) (ds.take n)) (fun n => Nat.casesOn n .nil fun _ => .nil) fun r _ ih n => Nat.casesOn n .nil fun n => .cons r (ih n)
theorem Rvs.rev (rs : Rvs W h vs ds) : Rvs W h vs.reverse ds.reverse :=
  rs.ind (P := fun vs ds => Rvs W h vs.reverse ds.reverse) .nil fun r _ ih => by rw [List.reverse_cons, List.reverse_cons]; exact ih.app (.cons r .nil)
end

/-- what stands behind a value read so -/
noncomputable def RvI (W : List Addr) (h : Heap) (v : Value) : PyData → Prop
  | .none => v = .none
  | .bool b => v = .bool b
  | .int i => ∃ t, v = .int i t
  | .list ds => ∃ a vs, v = .ref a ∧ h.IsList a vs ∧ a ∉ W ∧ Rvs W h vs.toList ds
  | .tuple ds => ∃ a vs, v = .ref a ∧ IsTup h a vs ∧ a ∉ W ∧ Rvs W h vs.toList ds
  | _ => True
theorem Rv.view {W : List Addr} {h : Heap} {v : Value} {d : PyData} (r : Rv W h v d) : RvI W h v d :=
  Rv.casesOn (motive_1 := fun v d _ => RvI W h v d) r rfl (fun _ => rfl) (fun _ t => ⟨t, rfl⟩) (fun _ _ => trivial) (fun e c q n r => ⟨_, _, rfl, ⟨_, e, c, _, q⟩, n, r⟩) (fun e c q n r => ⟨_, _, rfl, ⟨_, e, c, _, q⟩, n, r⟩)
section
variable {W : List Addr} {h : Heap} {v : Value}
theorem Rv.list_inv {ds : List PyData} (r : Rv W h v (.list ds)) : ∃ a vs, v = .ref a ∧ h.IsList a vs ∧ a ∉ W ∧ Rvs W h vs.toList ds := r.view
theorem Rv.tuple_inv {ds : List PyData} (r : Rv W h v (.tuple ds)) : ∃ a vs, v = .ref a ∧ IsTup h a vs ∧ a ∉ W ∧ Rvs W h vs.toList ds := r.view
theorem Rv.int_inv {i : Int} (r : Rv W h v (.int i)) : ∃ t, v = .int i t := r.view
theorem Rv.bool_inv {b : Bool} (r : Rv W h v (.bool b)) : v = .bool b := r.view
theorem Rv.none_inv (r : Rv W h v .none) : v = .none := r.view
end

/-! ## the values of the rules: data, one written address, a fitted object -/
set_option genInjectivity true in
inductive V where
  | d (p : PyData)
  | at (a : Addr)
  | val (v : Value)
  | ob (fs : List (Str × PyData))

structure Cx where
  prog : Program
  w : World
  K : Frag
  C : Addr
  cd : ClassData
  gv : Str → Option Value
  base : Addr
  tree : prog.given.tree = none
  cls : clsIn K C = some cd
  hasDict : cd.hasDict = true
  getat : findIn K (.ref C) "__getattribute__" = some (some (.builtin "object.__getattribute__"))
  setat : findIn K (.ref C) "__setattr__" = some (some (.builtin "object.__setattr__"))
  plain : plainOver K C = true

/-- an object of the class C with its fields -/
noncomputable def IsOb (c : Cx) (W : List Addr) (h : Heap) (v : Value) (fs : List (Str × PyData)) : Prop :=
  ∃ a dd m, v = .ref a ∧ a ∉ W ∧ h.get? a = some (instObj c.C dd) ∧ dd ∉ W ∧ h.Ns dd m ∧ ∀ x p, fs.lookup x = some p → ∃ u, m x = some u ∧ Rv W h u p

noncomputable def Rw (c : Cx) (W : List Addr) (h : Heap) (v : Value) : V → Prop
  | .d p => Rv W h v p
  | .at a => v = .ref a
  | .val u => v = u
  | .ob fs => IsOb c W h v fs

theorem Rw.to {c : Cx} {W W' : List Addr} {h h' : Heap} (k : ∀ a o, a ∉ W → h.get? a = some o → a ∉ W' ∧ h'.get? a = some o) {v : Value} {d : V} (r : Rw c W h v d) : Rw c W' h' v d := by
  cases d with
  | d p => exact Rv.to k r
  | «at» a => exact r
  | val u => exact r
  | ob fs =>
    obtain ⟨a, dd, m, rfl, na, ha, nd, hn, hf⟩ := r
    obtain ⟨o, es, ep, ho, r'⟩ := hn
    exact ⟨a, dd, m, rfl, (k _ _ na ha).1, (k _ _ na ha).2, (k _ _ nd ho).1, ⟨o, es, ep, (k _ _ nd ho).2, r'⟩, fun x p e => let ⟨u, e1, e2⟩ := hf x p e; ⟨u, e1, Rv.to k e2⟩⟩
theorem Rw.keep {c : Cx} {W : List Addr} {h h' : Heap} (k : HKeep h h') {v : Value} {d : V} (r : Rw c W h v d) : Rw c W h' v d := r.to fun a o n e => ⟨n, k a o e⟩
theorem Rv.keep {W : List Addr} {h h' : Heap} (k : HKeep h h') {v : Value} {d : PyData} (r : Rv W h v d) : Rv W h' v d := r.to fun a o n e => ⟨n, k a o e⟩
theorem Rvs.keep {W : List Addr} {h h' : Heap} (k : HKeep h h') {v : List Value} {d : List PyData} (r : Rvs W h v d) : Rvs W h' v d := r.to fun a o n e => ⟨n, k a o e⟩

inductive Rws (c : Cx) (W : List Addr) (h : Heap) : List Value → List V → Prop
  | nil : Rws c W h [] []
  | cons {v : Value} {vs : List Value} {d : V} {ds : List V} : Rw c W h v d → Rws c W h vs ds → Rws c W h (v :: vs) (d :: ds)
theorem Rws.to {c : Cx} {W W' : List Addr} {h h' : Heap} (k : ∀ a o, a ∉ W → h.get? a = some o → a ∉ W' ∧ h'.get? a = some o) {vs : List Value} {ds : List V} (r : Rws c W h vs ds) : Rws c W' h' vs ds :=
  Rws.rec (motive := fun vs ds _ => Rws c W' h' vs ds) .nil (fun r _ ih => .cons (Rw.to k r) ih) r
theorem Rws.app {c : Cx} {W : List Addr} {h : Heap} {vs us : List Value} {ds es : List V} (r : Rws c W h vs ds) (y : Rws c W h us es) : Rws c W h (vs ++ us) (ds ++ es) :=
  Rws.rec (motive := fun vs ds _ => Rws c W h (vs ++ us) (ds ++ es)) y (fun r _ ih => .cons r ih) r
theorem Rws.keep {c : Cx} {W : List Addr} {h h' : Heap} (k : HKeep h h') {vs : List Value} {ds : List V} (r : Rws c W h vs ds) : Rws c W h' vs ds := r.to fun a o n e => ⟨n, k a o e⟩
theorem Rws.length {c : Cx} {W : List Addr} {h : Heap} {vs : List Value} {ds : List V} (r : Rws c W h vs ds) : vs.length = ds.length :=
  Rws.rec (motive := fun vs ds _ => vs.length = ds.length) rfl (fun _ _ ih => congrArg Nat.succ ih) r

section
variable {c : Cx} {W : List Addr} {h : Heap} {vs : List Value}
noncomputable def RwsI (c : Cx) (W : List Addr) (h : Heap) (vs : List Value) : List V → Prop
  | [] => vs = []
  | d :: ds => ∃ v us, vs = v :: us ∧ Rw c W h v d ∧ Rws c W h us ds
theorem Rws.view {ds : List V} (r : Rws c W h vs ds) : RwsI c W h vs ds := Rws.casesOn (motive := fun vs ds _ => RwsI c W h vs ds) r rfl fun r rs => ⟨_, _, rfl, r, rs⟩
theorem Rws.none (r : Rws c W h vs []) : vs = [] := r.view
theorem Rws.one {d : V} (r : Rws c W h vs [d]) : ∃ v, vs = [v] ∧ Rw c W h v d :=
  r.view.elim fun v x => x.elim fun _ x => ⟨v, x.1.trans (congrArg (List.cons v) x.2.2.none), x.2.1⟩
theorem Rws.two {d d₂ : V} (r : Rws c W h vs [d, d₂]) : ∃ v v₂, vs = [v, v₂] ∧ Rw c W h v d ∧ Rw c W h v₂ d₂ :=
  r.view.elim fun v x => x.elim fun _ x => x.2.2.one.elim fun u y => ⟨v, u, x.1.trans (congrArg (List.cons v) y.1), x.2.1, y.2⟩
theorem Rws.three {d d₂ d₃ : V} (r : Rws c W h vs [d, d₂, d₃]) : ∃ v v₂ v₃, vs = [v, v₂, v₃] ∧ Rw c W h v d ∧ Rw c W h v₂ d₂ ∧ Rw c W h v₃ d₃ :=
  r.view.elim fun v x => x.elim fun _ x => x.2.2.two.elim fun u y => y.elim fun w y => ⟨v, u, w, x.1.trans (congrArg (List.cons v) y.1), x.2.1, y.2⟩
theorem Rws.data {ds : List PyData} : ∀ {vs : List Value}, Rws c W h vs (ds.map V.d) → Rvs W h vs ds :=
  List.rec (motive := fun ds => ∀ {vs : List Value}, Rws c W h vs (ds.map V.d) → Rvs W h vs ds) (fun r => r.none ▸ .nil) (fun d ds ih vs r => (Rws.view r : RwsI c W h vs (.d d :: ds.map V.d)).elim fun _ x => x.elim fun _ x => x.1 ▸ .cons x.2.1 (ih x.2.2)) ds
end

/-! ## the world: what stands and stays -/
noncomputable def Gv (h : Heap) (x : Str) (v : Value) : Prop := ∃ mg mb, h.Ns mainGlobals mg ∧ h.Ns builtinsNs mb ∧ (mg x = some v ∨ (mg x = none ∧ mb x = some v))
structure Wd (c : Cx) (h : Heap) : Prop where
  K : c.K.In h
  nolim : h.NoLimit
  noseer : h.NoSeer
  gv : ∀ x v, c.gv x = some v → Gv h x v
  base : ∃ o, h.get? c.base = some o
theorem Wd.keep {c : Cx} {h h' : Heap} (x : Wd c h) (k : HKeep h h') : Wd c h' :=
  ⟨x.K.keeps k, x.nolim.keeps k, x.noseer.keeps k, fun y v e => let ⟨mg, mb, a, b, r⟩ := x.gv y v e; ⟨mg, mb, a.keeps k, b.keeps k, r⟩, let ⟨o, e⟩ := x.base; ⟨o, k _ _ e⟩⟩

noncomputable def Alive (h : Heap) (a : Addr) : Prop := ∃ o, h.get? a = some o
theorem Alive.keep {h h' : Heap} {a : Addr} (x : Alive h a) (k : HKeep h h') : Alive h' a := let ⟨o, e⟩ := x; ⟨o, k _ _ e⟩
theorem Alive.lt {h : Heap} {a : Addr} (x : Alive h a) : a < h.objs.size := let ⟨_, e⟩ := x; Heap.lt_size e
theorem HKeep.refl (h : Heap) : HKeep h h := fun _ _ e => e
theorem HKeep.trans {h h₁ h₂ : Heap} (a : HKeep h h₁) (b : HKeep h₁ h₂) : HKeep h h₂ := fun x o e => b x o (a x o e)
theorem HKeep.dead {h h' : Heap} (k : HKeep h h') {a : Addr} (e : h'.get? a = none) : h.get? a = none := by
  cases q : h.get? a with
  | none => rfl
  | some o => exact nomatch e.symm.trans (k a o q)
theorem HKeep.push (h : Heap) (o : Obj) : HKeep h (h.push o) := fun _ _ e => Heap.get?_push_of_some _ e

/-- the same machine but for heap and tokens -/
noncomputable def Sm (s s' : Shared) : Prop := ∃ h tk, s' = { s with heap := h, toks := tk }
theorem Sm.refl (s : Shared) : Sm s s := ⟨s.heap, s.toks, rfl⟩
theorem Sm.trans {s s₁ s₂ : Shared} (a : Sm s s₁) (b : Sm s₁ s₂) : Sm s s₂ := by obtain ⟨h, t, rfl⟩ := a; obtain ⟨h', t', rfl⟩ := b; exact ⟨h', t', rfl⟩

structure Fm where
  env : Env
  s0 : Shared
  W : List Addr
  M : List Addr
  T : Heap → Prop
  fp : List Addr
  G : List (Value × V)

/-- what the frame turns besides its names: lists, objects -/
structure Res where
  ls : List (Addr × List PyData) := []
  os : List (Addr × Addr × List (Str × V)) := []

abbrev Rho := List (Str × V)

noncomputable def own (g : Fm) : List Addr := g.env.locals :: g.env.cells.map (·.2)

noncomputable def Slot' (g : Fm) (h : Heap) (x : Str) (v : Value) : Prop :=
  (g.env.kindOf x = some .local ∧ ∃ m, h.Ns g.env.locals m ∧ m x = some v) ∨
  ((g.env.kindOf x = some .cell ∨ g.env.kindOf x = some .free) ∧ ∃ c, g.env.cells.lookup x = some c ∧ h.IsCell c (some v))

/-- a namespace of at most z keys -/
noncomputable def NsZ (h : Heap) (a : Addr) (m : Str → Option Value) (z : Nat) : Prop := h.Ns1 a m ∧ ∃ l : List Str, l.length ≤ z ∧ Within m l
theorem NsZ.ns {h : Heap} {a : Addr} {m : Str → Option Value} {z : Nat} (x : NsZ h a m z) : h.Ns a m := x.1.ns
theorem NsZ.to {h h' : Heap} {a : Addr} {m : Str → Option Value} {z : Nat} (x : NsZ h a m z) (k : ∀ o, h.get? a = some o → h'.get? a = some o) : NsZ h' a m z := ⟨x.1.at k, x.2⟩
theorem NsZ.le {h : Heap} {a : Addr} {m : Str → Option Value} {z z' : Nat} (x : NsZ h a m z) (k : z ≤ z') : NsZ h a m z' := let ⟨p, l, q, r⟩ := x; ⟨p, l, Nat.le_trans q k, r⟩
noncomputable def IsObj (c : Cx) (W : List Addr) (h : Heap) (a dd : Addr) (fs : List (Str × V)) : Prop :=
  h.get? a = some (instObj c.C dd) ∧ ∃ m, NsZ h dd m fs.length ∧ ∀ x d, fs.lookup x = some d → ∃ u, m x = some u ∧ Rw c W h u d
noncomputable def Lst (W : List Addr) (h : Heap) (a : Addr) (ds : List PyData) : Prop := ∃ vs, h.PlainList a vs ∧ Rvs W h vs.toList ds

structure ResOk (c : Cx) (g : Fm) (X : Res) (h : Heap) : Prop where
  ls : ∀ a ds, (a, ds) ∈ X.ls → a ∈ g.M ∧ Lst g.W h a ds
  os : ∀ a dd fs, (a, dd, fs) ∈ X.os → dd ∈ g.M ∧ a ∉ g.W ∧ IsObj c g.W h a dd fs
  apart : (X.ls.map (·.1) ++ X.os.map (·.2.1)).Nodup

structure StE (c : Cx) (sc : Scope) (g : Fm) (ρ : Rho) (X : Res) (s : Shared) : Prop where
  scp : g.env.scope = sc
  kind : sc.kind = .function
  glb : g.env.globals = mainGlobals
  blt : g.env.builtins = builtinsNs
  same : Sm g.s0 s
  keep : HKeep g.s0.heap s.heap
  wd : Wd c g.s0.heap
  ns : ∃ m, s.heap.Ns g.env.locals m
  cell : ∀ x a, (x, a) ∈ g.env.cells → ∃ v, s.heap.IsCell a v
  apart : g.env.cells.Pairwise fun x y => x.2 ≠ y.2
  cells : ∀ y, sc.names.lookup y = some .cell → (g.env.cells.lookup y).isSome = true
  ownW : ∀ a ∈ own g, a ∈ g.W ∧ a ∉ g.M
  memW : ∀ a ∈ g.M, a ∈ g.W
  newW : ∀ a ∈ own g, g.s0.heap.get? a = none
  newM : ∀ a ∈ g.M, g.s0.heap.get? a = none
  alive : ∀ a ∈ g.W, Alive s.heap a ∧ c.base < a
  vars : ∀ x d, ρ.lookup x = some d → ∃ v, Slot' g s.heap x v ∧ Rw c g.W s.heap v d
  res : ResOk c g X s.heap
  tmp : g.T s.heap
  tmpSt : ∀ h h', g.T h → (∀ b ∈ g.fp, ∀ o, h.get? b = some o → h'.get? b = some o) → g.T h'
  tmpW : ∀ b ∈ g.fp, b ∉ own g ∧ b ∉ g.M ∧ Alive s.heap b
  gho : ∀ p ∈ g.G, Rw c g.W s.heap p.1 p.2

section
variable {c : Cx} {sc : Scope} {g : Fm} {ρ : Rho} {X : Res} {s s' : Shared}

theorem Slot'.keep {h h' : Heap} {x : Str} {v : Value} (r : Slot' g h x v) (k : ∀ a ∈ own g, ∀ o, h.get? a = some o → h'.get? a = some o) : Slot' g h' x v := by
  rcases r with ⟨a, m, b, e⟩ | ⟨a, q, b, e⟩
  · exact .inl ⟨a, m, b.at' (k _ (.head _)), e⟩
  · refine .inr ⟨a, q, b, ?_⟩
    obtain ⟨o, ho, hd⟩ := e
    exact ⟨o, k q (List.mem_cons_of_mem _ (List.mem_map.mpr ⟨(x, q), mem_of_lookup b, rfl⟩)) o ho, hd⟩

theorem Lst.to {W W' : List Addr} {h h' : Heap} {a : Addr} {ds : List PyData} (k : ∀ a o, a ∉ W → h.get? a = some o → a ∉ W' ∧ h'.get? a = some o) (ka : ∀ o, h.get? a = some o → h'.get? a = some o) (x : Lst W h a ds) : Lst W' h' a ds :=
  let ⟨vs, p, r⟩ := x; ⟨vs, p.at ka, r.to k⟩
theorem IsObj.to {W W' : List Addr} {h h' : Heap} {a dd : Addr} {fs : List (Str × V)} (k : ∀ a o, a ∉ W → h.get? a = some o → a ∉ W' ∧ h'.get? a = some o) (ka : ∀ o, h.get? a = some o → h'.get? a = some o) (kd : ∀ o, h.get? dd = some o → h'.get? dd = some o)
    (x : IsObj c W h a dd fs) : IsObj c W' h' a dd fs :=
  let ⟨p, m, n, r⟩ := x; ⟨ka _ p, m, n.to kd, fun y d e => let ⟨u, e1, e2⟩ := r y d e; ⟨u, e1, e2.to k⟩⟩

/-- a change of the heap at places that are neither the frame's nor what it turns -/
theorem StE.noise (x : StE c sc g ρ X s) (hs : Sm s s') {N : List Addr} (hN : ∀ a ∈ N, a ∈ g.W ∧ a ∉ own g ∧ a ∉ g.M ∧ a ∉ g.fp ∧ g.s0.heap.get? a = none)
    (k : ∀ a o, a ∉ N → s.heap.get? a = some o → s'.heap.get? a = some o) (kN : ∀ a ∈ N, Alive s'.heap a) : StE c sc g ρ X s' := by
  have kW : ∀ a o, a ∉ g.W → s.heap.get? a = some o → a ∉ g.W ∧ s'.heap.get? a = some o := fun a o n e => ⟨n, k a o (fun m => n (hN a m).1) e⟩
  have kO : ∀ a ∈ own g, ∀ o, s.heap.get? a = some o → s'.heap.get? a = some o := fun a m o e => k a o (fun q => (hN a q).2.1 m) e
  have kM : ∀ a ∈ g.M, ∀ o, s.heap.get? a = some o → s'.heap.get? a = some o := fun a m o e => k a o (fun q => (hN a q).2.2.1 m) e
  exact {
    scp := x.scp, kind := x.kind, glb := x.glb, blt := x.blt, same := x.same.trans hs
    keep := fun a o e => k a o (fun q => by have := (hN a q).2.2.2.2; rw [e] at this; cases this) (x.keep a o e)
    wd := x.wd
    ns := let ⟨m, e⟩ := x.ns; ⟨m, e.at' (kO _ (.head _))⟩
    cell := fun n a e => let ⟨v, o, h1, h2⟩ := x.cell n a e; ⟨v, o, kO a (List.mem_cons_of_mem _ (List.mem_map.mpr ⟨(n, a), e, rfl⟩)) o h1, h2⟩
    apart := x.apart, cells := x.cells, ownW := x.ownW, memW := x.memW, newW := x.newW, newM := x.newM
    alive := fun a e => by
      by_cases q : a ∈ N
      · exact ⟨kN a q, (x.alive a e).2⟩
      · obtain ⟨⟨o, h⟩, b⟩ := x.alive a e
        exact ⟨⟨o, k a o q h⟩, b⟩
    vars := fun n d e => let ⟨v, a, b⟩ := x.vars n d e; ⟨v, a.keep kO, b.to kW⟩
    res := ⟨fun a ds m => ⟨(x.res.ls a ds m).1, (x.res.ls a ds m).2.to kW (kM a (x.res.ls a ds m).1)⟩,
      fun a dd fs m => let ⟨h1, h2, h5⟩ := x.res.os a dd fs m; ⟨h1, h2, h5.to kW (fun o e => (kW a o h2 e).2) (kM dd h1)⟩, x.res.apart⟩
    tmp := x.tmpSt _ _ x.tmp fun b m o e => k b o (fun q => (hN b q).2.2.2.1 m) e
    tmpSt := x.tmpSt
    tmpW := fun b m => ⟨(x.tmpW b m).1, (x.tmpW b m).2.1, let ⟨o, e⟩ := (x.tmpW b m).2.2; ⟨o, k b o (fun q => (hN b q).2.2.2.1 m) e⟩⟩
    gho := fun p m => (x.gho p m).to kW }
theorem StE.ext (x : StE c sc g ρ X s) (hs : Sm s s') (k : HKeep s.heap s'.heap) : StE c sc g ρ X s' :=
  x.noise hs (N := []) (fun _ m => nomatch m) (fun a o _ e => k a o e) fun _ m => nomatch m
theorem StE.wd' (x : StE c sc g ρ X s) : Wd c s.heap := x.wd.keep x.keep
theorem StE.live (x : StE c sc g ρ X s) {a : Addr} (h : a ∈ g.W) : a < s.heap.objs.size := (x.alive a h).1.lt
theorem StE.fresh (x : StE c sc g ρ X s) : s.heap.objs.size ∉ g.W := fun m => Nat.lt_irrefl _ (x.live m)

/-- fewer names, other order -/
noncomputable def Sub (ρ' ρ : Rho) : Prop := ∀ x d, ρ'.lookup x = some d → ρ.lookup x = some d
theorem Sub.nil {ρ : Rho} : Sub [] ρ := fun _ _ e => by simp at e
theorem Sub.cons {x : Str} {d : V} {ρ' ρ : Rho} (h : ρ.lookup x = some d) (hs : Sub ρ' ρ) : Sub ((x, d) :: ρ') ρ := fun y e q => by
  rw [List.lookup_cons] at q
  cases hy : y == x with
  | true => rw [hy] at q; cases q; rw [beq_iff_eq.mp hy]; exact h
  | false => rw [hy] at q; exact hs y e q
theorem StE.sub {ρ' : Rho} (x : StE c sc g ρ X s) (h : Sub ρ' ρ) : StE c sc g ρ' X s := { x with vars := fun n d e => x.vars n d (h n d e) }

/-- nothing that stands is turned -/
noncomputable def Kp (s s' : Shared) : Prop := ∃ h' tk, s' = { s with heap := h', toks := tk } ∧ HKeep s.heap h'
theorem keeps_sm {s s' : Shared} (k : Kp s s') : Sm s s' ∧ HKeep s.heap s'.heap := by
  obtain ⟨h', tk, rfl, k⟩ := k; exact ⟨⟨_, _, rfl⟩, k⟩
end
section
variable {c : Cx} {sc : Scope} {g : Fm} {ρ : Rho} {X : Res} {s s' : Shared}
theorem StE.exk (x : StE c sc g ρ X s) (k : Kp s s') : StE c sc g ρ X s' := x.ext (keeps_sm k).1 (keeps_sm k).2
end

theorem Kp.rf (s : Shared) : Kp s s := ⟨s.heap, s.toks, rfl, fun _ _ e => e⟩
theorem Kp.tr {s s₁ s₂ : Shared} (a : Kp s s₁) (b : Kp s₁ s₂) : Kp s s₂ := by
  obtain ⟨h, t, rfl, k⟩ := a; obtain ⟨h', t', rfl, k'⟩ := b
  exact ⟨h', t', rfl, fun x o e => k' x o (k x o e)⟩
theorem Kp.tok (s : Shared) (t : Nat) : Kp s { s with toks := t } := ⟨s.heap, t, rfl, fun _ _ e => e⟩
theorem Kp.push (s : Shared) (o : Obj) (t : Nat) : Kp s { s with heap := s.heap.push o, toks := t } := ⟨_, t, rfl, fun _ _ e => Heap.get?_push_of_some _ e⟩

end Mine

namespace Mine
open PySem PySem.W PySem.Calls PyProof.Rows PySem.Spec

structure RoomC (A : Around) (n : Nat) : Prop where
  hd : A.handled = none
  dp : A.depth + n + Builtin.pylongFrames < recursionLimit
  un : A.units + 10 * n + 200 < cLine
  fr : ∃ l, A.frames = some l
structure RoomE (A : Around) (n : Nat) : Prop where
  c : RoomC A n
  top : ∃ e l, A.frames = some (e :: l) ∧ e.scope.isGenerator = false ∧ e.scope.isCoroutine = false ∧ e.builtins = builtinsNs ∧ e.globals = mainGlobals

theorem RoomC.le {A : Around} {n m : Nat} (r : RoomC A n) (h : m ≤ n) : RoomC A m := ⟨r.hd, by have := r.dp; (first | lia | omega), by have := r.un; (first | lia | omega), r.fr⟩
theorem RoomE.le {A : Around} {n m : Nat} (r : RoomE A n) (h : m ≤ n) : RoomE A m := ⟨r.c.le h, r.top⟩
theorem RoomC.enter {A : Around} {n : Nat} {env : Env} (r : RoomC A (n + 1)) (h1 : env.scope.isGenerator = false) (h2 : env.scope.isCoroutine = false) (h3 : env.builtins = builtinsNs) (h4 : env.globals = mainGlobals) : RoomE (A.deeper env) n := by
  obtain ⟨l, hl⟩ := r.fr
  have e : (A.deeper env).frames = some (env :: l) := by show A.frames.map _ = _; rw [hl]; rfl
  refine ⟨⟨r.hd, ?_, ?_, ⟨_, e⟩⟩, ⟨env, l, e, h1, h2, h3, h4⟩⟩
  · have := r.dp; show A.depth + 1 + n + _ < _; (first | lia | omega)
  · have := r.un; show A.units + 3 + 10 * n + 200 < _; (first | lia | omega)

noncomputable def EV (c : Cx) (sc : Scope) (X : Res) (n : Nat) (ρ : Rho) (e : Expr) (d : V) : Prop :=
  ∀ A g s, RoomE A n → StE c sc g ρ X s → wpAny (model c.prog c.w) A (eval e g.env) (fun v s' => Kp s s' ∧ Rw c g.W s'.heap v d) nE s
noncomputable def EVs (c : Cx) (sc : Scope) (X : Res) (n : Nat) (ρ : Rho) (es : List Expr) (ds : List V) : Prop :=
  ∀ A g s pos, RoomE A n → StE c sc g ρ X s → wpAny (model c.prog c.w) A (spliced (backTo pos (starEach es g.env))) (fun vs s' => Kp s s' ∧ Rws c g.W s'.heap vs ds) nE s
noncomputable def TV (c : Cx) (sc : Scope) (X : Res) (n : Nat) (ρ : Rho) (e : Expr) (b : Bool) : Prop :=
  ∀ A g s, RoomE A n → StE c sc g ρ X s → wpAny (model c.prog c.w) A (isTrue e g.env (eval e g.env)) (fun r s' => Kp s s' ∧ r = b) nE s

section
variable {c : Cx} {sc : Scope} {X : Res} {n : Nat} {ρ : Rho}

theorem EV.use {e : Expr} {d : V} (x : EV c sc X n ρ e d) {A : Around} {g : Fm} {s : Shared} (R : RoomE A n) (S : StE c sc g ρ X s) {Q : Value → Shared → Prop}
    (k : ∀ v s', Kp s s' → StE c sc g ρ X s' → Rw c g.W s'.heap v d → Q v s') : wpAny (model c.prog c.w) A (eval e g.env) Q nE s :=
  wpAny_mono (x A g s R S) (fun v s' h => k v s' h.1 (S.exk h.1) h.2) fun _ _ h => h
theorem EVs.use {es : List Expr} {ds : List V} (x : EVs c sc X n ρ es ds) {A : Around} {g : Fm} {s : Shared} {pos : Pos} (R : RoomE A n) (S : StE c sc g ρ X s) {Q : List Value → Shared → Prop}
    (k : ∀ vs s', Kp s s' → StE c sc g ρ X s' → Rws c g.W s'.heap vs ds → Q vs s') : wpAny (model c.prog c.w) A (spliced (backTo pos (starEach es g.env))) Q nE s :=
  wpAny_mono (x A g s pos R S) (fun v s' h => k v s' h.1 (S.exk h.1) h.2) fun _ _ h => h
theorem TV.use {e : Expr} {b : Bool} (x : TV c sc X n ρ e b) {A : Around} {g : Fm} {s : Shared} (R : RoomE A n) (S : StE c sc g ρ X s) {Q : Bool → Shared → Prop}
    (k : ∀ s', Kp s s' → StE c sc g ρ X s' → Q b s') : wpAny (model c.prog c.w) A (isTrue e g.env (eval e g.env)) Q nE s :=
  wpAny_mono (x A g s R S) (fun v s' h => by rw [h.2]; exact k s' h.1 (S.exk h.1)) fun _ _ h => h

theorem EVs.nil : EVs c sc X n ρ [] [] := fun _ _ s _ _ _ => wpAny_pure ⟨Kp.rf s, .nil⟩
theorem EVs.cons {e : Expr} {es : List Expr} {d : V} {ds : List V} (h : EV c sc X n ρ e d) (hs : EVs c sc X n ρ es ds) (he : ∀ rest env, starEach (e :: rest) env = (false, eval e env) :: starEach rest env := by intro _ _; rfl) : EVs c sc X n ρ (e :: es) (d :: ds) := by
  intro A g s pos R S
  refine wpAny_items_cons (h.use R S fun v s₁ k₁ S₁ r₁ => hs.use R S₁ fun vs s₂ k₂ S₂ r₂ => ⟨k₁.tr k₂, .cons (r₁.keep (keeps_sm k₂).2) r₂⟩) (he _ _)


/-! names and constants -/
theorem EV.name {x : Str} {pos : Pos} {d : V} (hρ : ρ.lookup x = some d := by rfl) (hd : (x == ("__debug__" : Str)) = false := by rfl) (hn : (x == ("__classdict__" : Str)) = false := by rfl) : EV c sc X n ρ (.Name x pos) d := by
  intro A g s R S
  obtain ⟨v, hv, r⟩ := S.vars x d hρ
  refine wpAny_Name ?_ hd
  have hk : g.env.scope.kind = .function := by rw [S.scp]; exact S.kind
  rcases hv with ⟨hl, m, hn, hm⟩ | ⟨hl | hl, a, hc, hi⟩
  · exact wpAny_loadName_local hk hl hn hm ⟨Kp.rf s, r⟩
  · exact wpAny_loadName_cell hk hl hc hi ⟨Kp.rf s, r⟩
  · exact wpAny_loadName_free hk hl hc hi ⟨Kp.rf s, r⟩ hn
theorem StE.kindOf {g : Fm} {s : Shared} (S : StE c sc g ρ X s) {x : Str} {k : NameKind} (h : sc.names.lookup x = some k) : g.env.kindOf x = some k := by
  show g.env.scope.names.lookup x = some k
  rw [S.scp]; exact h
theorem StE.fnk {g : Fm} {s : Shared} (S : StE c sc g ρ X s) : g.env.scope.kind = .function := by rw [S.scp]; exact S.kind
theorem EV.glob {x : Str} {pos : Pos} {v : Value} (hg : c.gv x = some v) (hk : sc.names.lookup x = some .globalImplicit := by rfl) (hd : (x == ("__debug__" : Str)) = false := by rfl) : EV c sc X n ρ (.Name x pos) (.val v) := by
  intro A g s R S
  obtain ⟨mg, mb, ng, nb, hv⟩ := S.wd'.gv x v hg
  refine Name_function_global S.fnk (S.kindOf hk) ?_ hd
  rw [← S.glb] at ng
  rw [← S.blt] at nb
  rcases hv with hv | ⟨h1, h2⟩
  · exact loadGlobal_global ng hv ⟨Kp.rf s, rfl⟩
  · exact loadGlobal_builtin ng h1 nb h2 ⟨Kp.rf s, rfl⟩
theorem EV.globD {x : Str} {pos : Pos} {v : Value} {p : PyData} (hg : c.gv x = some v) (hr : ∀ h W, (∀ a ∈ W, c.base < a) → Wd c h → Rv W h v p) (hk : sc.names.lookup x = some .globalImplicit := by rfl) (hd : (x == ("__debug__" : Str)) = false := by rfl) : EV c sc X n ρ (.Name x pos) (.d p) := by
  intro A g s R S
  refine wpAny_mono (EV.glob hg hk hd A g s R S) (fun v' s' h => ⟨h.1, ?_⟩) fun _ _ h => h
  obtain rfl : v' = v := h.2
  have S' := S.exk h.1
  exact hr _ _ (fun a m => (S'.alive a m).2) S'.wd'
theorem EV.cint {i : Int} {k : Nat} {pos : Pos} : EV c sc X n ρ (.Constant (.int i) k pos) (.d (.int i)) := fun _ _ s _ _ => wpAny_Constant_int ⟨Kp.tok s _, .int _ _⟩
theorem EV.cstr {x : Str} {k : Nat} {pos : Pos} : EV c sc X n ρ (.Constant (.str x) k pos) (.d (.str x)) := fun _ _ s _ _ => wpAny_Constant_str ⟨Kp.tok s _, .str _ _⟩
theorem EV.cnone {k : Nat} {pos : Pos} : EV c sc X n ρ (.Constant .none k pos) (.d .none) := fun _ _ s _ _ => wpAny_Constant_none ⟨Kp.rf s, .none⟩
theorem EV.cbool {b : Bool} {k : Nat} {pos : Pos} : EV c sc X n ρ (.Constant (.bool b) k pos) (.d (.bool b)) := fun _ _ s _ _ => wpAny_Constant_bool ⟨Kp.rf s, .bool _⟩

/-! displays -/
noncomputable def ofData : List PyData → List V := fun l => l.map V.d
theorem EV.tuple {es : List Expr} {k : Nat} {pos : Pos} {ds : List PyData} (h : EVs c sc X n ρ es (ofData ds)) (hz : ds.length ≤ 1000 := by simp only [List.length_cons, List.length_nil]; (first | lia | omega)) : EV c sc X n ρ (.Tuple es k pos) (.d (.tuple ds)) := by
  intro A g s R S
  refine wpAny_Tuple (h.use R S fun vs s₁ k₁ S₁ r₁ => ?_)
  have r := Rws.data r₁
  have hl := r.length
  refine ⟨by rw [sizeLine_eq]; (first | lia | omega), k₁.tr (Kp.push s₁ _ _), ?_⟩
  refine .tuple (Heap.get?_push_size _ rfl) rfl rfl (fun m => Nat.lt_irrefl _ (S₁.alive _ m).1.lt) (r.keep (HKeep.push _ _))
theorem EV.list {es : List Expr} {pos : Pos} {ds : List PyData} (h : EVs c sc X n ρ es (ofData ds)) (hz : ds.length ≤ 1000 := by simp only [List.length_cons, List.length_nil]; (first | lia | omega)) : EV c sc X n ρ (.List es pos) (.d (.list ds)) := by
  intro A g s R S
  refine wpAny_List (h.use R S fun vs s₁ k₁ S₁ r₁ => ?_)
  have r := Rws.data r₁
  have hl := r.length
  refine ⟨by rw [sizeLine_eq]; (first | lia | omega), k₁.tr (Kp.push s₁ _ _), ?_⟩
  refine .list (Heap.get?_push_size _ rfl) rfl rfl (fun m => Nat.lt_irrefl _ (S₁.alive _ m).1.lt) (r.keep (HKeep.push _ _))

/-! operators on ints -/
theorem EV.bin {op : Operator} {a b : Expr} {pos : Pos} {x y : Int} {d : V} (ha : EV c sc X n ρ a (.d (.int x))) (hb : EV c sc X n ρ b (.d (.int y)))
    (h : ∀ A g s t u, RoomE A n → StE c sc g ρ X s → wpAny (model c.prog c.w) A (binaryOp op (.int x t) (.int y u)) (fun v s' => Kp s s' ∧ Rw c g.W s'.heap v d) nE s) : EV c sc X n ρ (.BinOp a op b pos) d := by
  intro A g s R S
  refine wpAny_BinOp (ha.use R S fun v s₁ k₁ S₁ r₁ => hb.use R S₁ fun v' s₂ k₂ S₂ r₂ => ?_)
  obtain ⟨t, rfl⟩ := Rv.int_inv r₁
  obtain ⟨u, rfl⟩ := Rv.int_inv r₂
  exact wpAny_mono (h A g s₂ t u R S₂) (fun v s' h => ⟨(k₁.tr k₂).tr h.1, h.2⟩) fun _ _ h => h
theorem EV.add {a b : Expr} {pos : Pos} {x y : Int} (ha : EV c sc X n ρ a (.d (.int x))) (hb : EV c sc X n ρ b (.d (.int y))) : EV c sc X n ρ (.BinOp a .Add b pos) (.d (.int (x + y))) :=
  EV.bin ha hb fun _ _ s _ _ _ _ => PyProof.Rows.add_int ⟨Kp.tok s _, .int _ _⟩
theorem EV.sub {a b : Expr} {pos : Pos} {x y : Int} (ha : EV c sc X n ρ a (.d (.int x))) (hb : EV c sc X n ρ b (.d (.int y))) : EV c sc X n ρ (.BinOp a .Sub b pos) (.d (.int (x - y))) :=
  EV.bin ha hb fun _ _ s _ _ _ _ => PyProof.Rows.sub_int ⟨Kp.tok s _, .int _ _⟩
theorem EV.mul {a b : Expr} {pos : Pos} {x y : Int} (ha : EV c sc X n ρ a (.d (.int x))) (hb : EV c sc X n ρ b (.d (.int y))) (hm : IntMulOk x y) : EV c sc X n ρ (.BinOp a .Mult b pos) (.d (.int (x * y))) :=
  EV.bin ha hb fun _ _ s _ _ _ _ => PyProof.Rows.mul_int ⟨Kp.tok s _, .int _ _⟩ hm
theorem EV.mod {a b : Expr} {pos : Pos} {x y : Int} (ha : EV c sc X n ρ a (.d (.int x))) (hb : EV c sc X n ρ b (.d (.int y))) (hy : y ≠ 0) : EV c sc X n ρ (.BinOp a .Mod b pos) (.d (.int (x.fmod y))) :=
  EV.bin ha hb fun _ _ s _ _ _ _ => PyProof.Rows.mod_int hy ⟨Kp.tok s _, .int _ _⟩
theorem EV.fdiv {a b : Expr} {pos : Pos} {x y : Int} (ha : EV c sc X n ρ a (.d (.int x))) (hb : EV c sc X n ρ b (.d (.int y))) (hy : y ≠ 0) : EV c sc X n ρ (.BinOp a .FloorDiv b pos) (.d (.int (x.fdiv y))) :=
  EV.bin ha hb fun A g s _ _ R S => by
    obtain ⟨e, l, hf, h1, h2, h3, h4⟩ := R.top
    refine PyProof.Rows.floordiv_int hy ⟨Kp.tok s _, .int _ _⟩ (.inr (PylongRoom.of S.wd'.nolim ?_ (SeerAt.of S.wd'.noseer c.tree hf h1 h2 h3 h4)))
    have := R.c.dp; (first | lia | omega)
theorem EV.neg {a : Expr} {pos : Pos} {x : Int} (ha : EV c sc X n ρ a (.d (.int x))) : EV c sc X n ρ (.UnaryOp .USub a pos) (.d (.int (-x))) := by
  intro A g s R S
  refine wpAny_UnaryOp (ha.use R S fun v s₁ k₁ S₁ r₁ => ?_)
  obtain ⟨t, rfl⟩ := Rv.int_inv r₁
  exact PyProof.Rows.neg_int ⟨k₁.tr (Kp.tok s₁ _), .int _ _⟩

/-! items -/
theorem EV.item {a i : Expr} {pos : Pos} {ds : List PyData} {k : Int} {p : PyData} (ha : EV c sc X n ρ a (.d (.list ds))) (hi : EV c sc X n ρ i (.d (.int k))) (h0 : 0 ≤ k := by decide) (hk : k < 2 ^ 62 := by decide) (hx : ds[k.toNat]? = some p := by rfl)
    (hs : ∀ l u, subscripted i false (.ref l) (.int k u) = operate [.ref l, .int k u] (getItem (.ref l) (.int k u)) := by intro _ _; with_unfolding_all rfl) : EV c sc X n ρ (.Subscript a i pos) (.d p) := by
  intro A g s R S
  refine Subscript_ (ha.use R S fun v s₁ k₁ S₁ r₁ => hi.use R S₁ fun v' s₂ k₂ S₂ r₂ => ?_)
  obtain ⟨u, rfl⟩ := Rv.int_inv r₂
  obtain ⟨l, vs, rfl, hl, hn, rs⟩ := Rv.list_inv (r₁.keep (keeps_sm k₂).2)
  obtain ⟨x, hx', rx⟩ := rs.at hx
  exact tail_any hl.typeIs slot_list_getitem.lookup (wpAny_getItem_list hl h0 (by (first | lia | omega)) (by simpa using hx') ⟨k₁.tr k₂, rx⟩) (hs _ _)
theorem EV.itemT {a i : Expr} {pos : Pos} {ds : List PyData} {k : Int} {p : PyData} (ha : EV c sc X n ρ a (.d (.tuple ds))) (hi : EV c sc X n ρ i (.d (.int k))) (h0 : 0 ≤ k := by decide) (hk : k < 2 ^ 62 := by decide) (hx : ds[k.toNat]? = some p := by rfl)
    (hs : ∀ l u, subscripted i false (.ref l) (.int k u) = operate [.ref l, .int k u] (getItem (.ref l) (.int k u)) := by intro _ _; with_unfolding_all rfl) : EV c sc X n ρ (.Subscript a i pos) (.d p) := by
  intro A g s R S
  refine Subscript_ (ha.use R S fun v s₁ k₁ S₁ r₁ => hi.use R S₁ fun v' s₂ k₂ S₂ r₂ => ?_)
  obtain ⟨u, rfl⟩ := Rv.int_inv r₂
  obtain ⟨l, vs, rfl, hl, hn, rs⟩ := Rv.tuple_inv (r₁.keep (keeps_sm k₂).2)
  obtain ⟨x, hx', rx⟩ := rs.at hx
  have hlt : k.toNat < vs.size := by
    have := (List.getElem?_eq_some_iff.mp hx').1
    simpa using this
  refine tail_any hl.typeIs slot_tuple_getitem.lookup (getItem_tuple (j := k.toNat) hl (by (first | lia | omega)) (by (first | lia | omega)) ?_ (by simpa using hx') ⟨k₁.tr k₂, rx⟩) (hs _ _)
  unfold seqIndex?
  have h1 : ¬ k < 0 := by (first | lia | omega)
  have h2 : (decide (0 ≤ k) && decide (k < (vs.size : Int))) = true := by rw [Bool.and_eq_true]; exact ⟨decide_eq_true h0, decide_eq_true (by (first | lia | omega))⟩
  simp only [h1, if_false, h2, if_true]

/-! comparisons -/
theorem EV.cmp {op : CmpOp} {a b : Expr} {pos : Pos} {d e : V} {r : Bool} (ha : EV c sc X n ρ a d) (hb : EV c sc X n ρ b e)
    (h : ∀ A g s v u, RoomE A n → StE c sc g ρ X s → Rw c g.W s.heap v d → Rw c g.W s.heap u e → ∀ Q : Value → Shared → Prop, (∀ s', Kp s s' → Q (.bool r) s') → wpAny (model c.prog c.w) A (compareOp op v u) Q nE s)
    (hm : behindInMarks op b = false := by with_unfolding_all rfl) : EV c sc X n ρ (.Compare a [op] [b] pos) (.d (.bool r)) := by
  intro A g s R S
  refine wpAny_Compare1 (ha.use R S fun v s₁ k₁ S₁ r₁ => hb.use R S₁ fun v' s₂ k₂ S₂ r₂ => ?_) hm
  exact h A g s₂ v v' R S₂ (r₁.keep (keeps_sm k₂).2) r₂ _ fun s' k => ⟨(k₁.tr k₂).tr k, .bool _⟩
theorem TV.cmp {op : CmpOp} {a b : Expr} {pos : Pos} {d e : V} {r : Bool} (ha : EV c sc X n ρ a d) (hb : EV c sc X n ρ b e)
    (h : ∀ A g s v u, RoomE A n → StE c sc g ρ X s → Rw c g.W s.heap v d → Rw c g.W s.heap u e → ∀ Q : Value → Shared → Prop, (∀ s', Kp s s' → Q (.bool r) s') → wpAny (model c.prog c.w) A (compareOp op v u) Q nE s)
    (hm : behindInMarks op b = false := by with_unfolding_all rfl) : TV c sc X n ρ (.Compare a [op] [b] pos) r := by
  intro A g s R S
  refine wpAny_isTrue_Compare1 (ha.use R S fun v s₁ k₁ S₁ r₁ => hb.use R S₁ fun v' s₂ k₂ S₂ r₂ => ?_) hm
  exact h A g s₂ v v' R S₂ (r₁.keep (keeps_sm k₂).2) r₂ _ fun s' k => wpAny_truthy_bool ⟨(k₁.tr k₂).tr k, rfl⟩
/-- how two values compare -/
noncomputable def CmpOk (c : Cx) (n : Nat) (op : CmpOp) (d e : V) (r : Bool) : Prop :=
  ∀ A W (s : Shared) v u, RoomC A n → Rw c W s.heap v d → Rw c W s.heap u e → ∀ Q : Value → Shared → Prop, (∀ s', Kp s s' → Q (.bool r) s') → wpAny (model c.prog c.w) A (compareOp op v u) Q nE s
theorem EV.cmpO {op : CmpOp} {a b : Expr} {pos : Pos} {d e : V} {r : Bool} (ha : EV c sc X n ρ a d) (hb : EV c sc X n ρ b e) (h : CmpOk c n op d e r)
    (hm : behindInMarks op b = false := by with_unfolding_all rfl) : EV c sc X n ρ (.Compare a [op] [b] pos) (.d (.bool r)) := EV.cmp ha hb (fun A g s v u R _ r1 r2 => h A g.W s v u R.c r1 r2) hm
theorem TV.cmpO {op : CmpOp} {a b : Expr} {pos : Pos} {d e : V} {r : Bool} (ha : EV c sc X n ρ a d) (hb : EV c sc X n ρ b e) (h : CmpOk c n op d e r)
    (hm : behindInMarks op b = false := by with_unfolding_all rfl) : TV c sc X n ρ (.Compare a [op] [b] pos) r := TV.cmp ha hb (fun A g s v u R _ r1 r2 => h A g.W s v u R.c r1 r2) hm

theorem CmpOk.ints {op : CmpOp} {x y : Int} {r : Bool} (h : ∀ A s t u (Q : Value → Shared → Prop), (Q (.bool r) s) → wpAny (model c.prog c.w) A (compareOp op (.int x t) (.int y u)) Q nE s) : CmpOk c n op (.d (.int x)) (.d (.int y)) r := by
  intro A W s v u R r1 r2 Q q
  obtain ⟨t, rfl⟩ := Rv.int_inv r1
  obtain ⟨t', rfl⟩ := Rv.int_inv r2
  exact h A s t t' Q (q s (Kp.rf s))
theorem CmpOk.eq {x y : Int} : CmpOk c n .Eq (.d (.int x)) (.d (.int y)) (x == y) := .ints fun _ _ _ _ _ q => PyProof.Rows.eq_int q
theorem CmpOk.ne {x y : Int} : CmpOk c n .NotEq (.d (.int x)) (.d (.int y)) (x != y) := .ints fun _ _ _ _ _ q => PyProof.Rows.ne_int q
theorem CmpOk.lt {x y : Int} : CmpOk c n .Lt (.d (.int x)) (.d (.int y)) (decide (x < y)) := .ints fun _ _ _ _ _ q => PyProof.Rows.lt_int q
theorem CmpOk.gt {x y : Int} : CmpOk c n .Gt (.d (.int x)) (.d (.int y)) (decide (y < x)) := .ints fun _ _ _ _ _ q => PyProof.Rows.gt_int q
theorem CmpOk.ge {x y : Int} : CmpOk c n .GtE (.d (.int x)) (.d (.int y)) (decide (y ≤ x)) := .ints fun _ _ _ _ _ q => PyProof.Rows.ge_int q
noncomputable def isNone : PyData → Bool
  | .none => true
  | _ => false
theorem Rv.isNone {W : List Addr} {h : Heap} {v : Value} {p : PyData} (r : Rv W h v p) : (v == .none) = isNone p := by cases r <;> rfl
theorem CmpOk.isN {p : PyData} : CmpOk c n .Is (.d p) (.d .none) (isNone p) := by
  intro A W s v u R r1 r2 Q q
  obtain rfl := Rv.none_inv r2
  exact is_none (by rw [Rv.isNone r1]; exact q s (Kp.rf s))
theorem CmpOk.isNotN {p : PyData} : CmpOk c n .IsNot (.d p) (.d .none) (!isNone p) := by
  intro A W s v u R r1 r2 Q q
  obtain rfl := Rv.none_inv r2
  exact isNot_none (by rw [Rv.isNone r1]; exact q s (Kp.rf s))
open PySem.SeqAt in
theorem CmpOk.eqD {p q : PyData} (h1 : shaped p = true) (h2 : shaped q = true) : CmpOk c n .Eq (.d p) (.d q) (PyData.eqv p q) := by
  intro A W s v u R r1 r2 Q k
  obtain ⟨as, ra⟩ := Rv.reads r1
  obtain ⟨bs, rb⟩ := Rv.reads r2
  exact eq_dataH ra rb h1 h2 (by have := R.un; (first | lia | omega)) (k s (Kp.rf s))
open PySem.SeqAt in
theorem CmpOk.neD {p q : PyData} (h1 : shaped p = true) (h2 : shaped q = true) : CmpOk c n .NotEq (.d p) (.d q) (!PyData.eqv p q) := by
  intro A W s v u R r1 r2 Q k
  obtain ⟨as, ra⟩ := Rv.reads r1
  obtain ⟨bs, rb⟩ := Rv.reads r2
  exact ne_dataH ra rb h1 h2 (by have := R.un; (first | lia | omega)) (k s (Kp.rf s))
theorem any_ints (x : Int) : ∀ xs : List Int, (xs.map PyData.int).any (fun y => PyData.eqv y (.int x)) = xs.contains x
  | [] => rfl
  | a :: r => by
    rw [List.map_cons, List.any_cons, any_ints x r, List.contains_cons]
    congr 1
    show (a == x) = (x == a)
    exact Bool.beq_comm
theorem CmpOk.inL {x : Int} {xs : List Int} : CmpOk c n .In (.d (.int x)) (.d (.list (xs.map .int))) (xs.contains x) := by
  intro A W s v u R r1 r2 Q k
  obtain ⟨as, ra⟩ := Rv.reads r1
  obtain ⟨bs, rb⟩ := Rv.reads r2
  have hc : ∀ xs : List Int, PyData.canLayAll0 (xs.map .int) = true := fun xs => by induction xs with | nil => rfl | cons a r ih => simpa [PyData.canLayAll0, PyData.canLay0] using ih
  refine SeqAt.in_list_reads rb ra (hc xs) rfl (by have := R.un; have : min (PyData.depthAll (xs.map .int)) (PyData.depth (.int x)) ≤ PyData.depth (.int x) := Nat.min_le_right _ _; have e : PyData.depth (.int x) = 0 := rfl; (first | lia | omega)) ?_
  rw [any_ints]; exact k s (Kp.rf s)

/-! truth -/
theorem TV.ofBool {e : Expr} {b : Bool} (h : EV c sc X n ρ e (.d (.bool b))) (he : ∀ env whole, isTrue e env whole = (do let v ← whole; standAt e.pos; holding [v] (truthy v)) := by intro _ _; rfl) : TV c sc X n ρ e b := by
  intro A g s R S
  refine wpAny_isTrue_value (h.use R S fun v s₁ k₁ S₁ r₁ => ?_) (he _ _)
  obtain rfl := Rv.bool_inv r₁
  exact wpAny_truthy_bool ⟨k₁, rfl⟩
theorem TV.not {e : Expr} {b : Bool} {pos : Pos} (h : TV c sc X n ρ e b) : TV c sc X n ρ (.UnaryOp .Not e pos) (!b) := by
  intro A g s R S
  exact wpAny_isTrue_Not (h.use R S fun s₁ k₁ S₁ => ⟨k₁, rfl⟩)
theorem TV.andF {e : Expr} {es : List Expr} {pos : Pos} (h : TV c sc X n ρ e false) : TV c sc X n ρ (.BoolOp .And (e :: es) pos) false := by
  intro A g s R S
  exact isTrue_and (h.use R S fun s₁ k₁ S₁ => ⟨k₁, rfl⟩)
theorem TV.andT {e : Expr} {es : List Expr} {pos : Pos} {b : Bool} (h : TV c sc X n ρ e true) (hs : TV c sc X n ρ (.BoolOp .And es pos) b) : TV c sc X n ρ (.BoolOp .And (e :: es) pos) b := by
  intro A g s R S
  exact isTrue_and (h.use R S fun s₁ k₁ S₁ => wpAny_mono (hs A g s₁ R S₁) (fun r s' h => ⟨k₁.tr h.1, h.2⟩) fun _ _ h => h)
theorem TV.and0 {pos : Pos} : TV c sc X n ρ (.BoolOp .And [] pos) true := fun _ _ s _ _ => isTrue_and_nil ⟨Kp.rf s, rfl⟩
theorem TV.orT {e : Expr} {es : List Expr} {pos : Pos} (h : TV c sc X n ρ e true) : TV c sc X n ρ (.BoolOp .Or (e :: es) pos) true := by
  intro A g s R S
  exact isTrue_or (h.use R S fun s₁ k₁ S₁ => ⟨k₁, rfl⟩)
theorem TV.orF {e : Expr} {es : List Expr} {pos : Pos} {b : Bool} (h : TV c sc X n ρ e false) (hs : TV c sc X n ρ (.BoolOp .Or es pos) b) : TV c sc X n ρ (.BoolOp .Or (e :: es) pos) b := by
  intro A g s R S
  exact isTrue_or (h.use R S fun s₁ k₁ S₁ => wpAny_mono (hs A g s₁ R S₁) (fun r s' h => ⟨k₁.tr h.1, h.2⟩) fun _ _ h => h)
theorem TV.or0 {pos : Pos} : TV c sc X n ρ (.BoolOp .Or [] pos) false := fun _ _ s _ _ => isTrue_or_nil ⟨Kp.rf s, rfl⟩

/-! values of BoolOp over bools, IfExp -/
theorem EV.boolOne {op : BoolOp} {e : Expr} {pos : Pos} {d : V} (h : EV c sc X n ρ e d) : EV c sc X n ρ (.BoolOp op [e] pos) d := fun A g s R S => BoolOp_one (h A g s R S)
theorem EV.orT {e e₂ : Expr} {es : List Expr} {pos : Pos} (h : EV c sc X n ρ e (.d (.bool true))) : EV c sc X n ρ (.BoolOp .Or (e :: e₂ :: es) pos) (.d (.bool true)) := by
  intro A g s R S
  refine BoolOp_or (h.use R S fun v s₁ k₁ S₁ r₁ => ?_)
  obtain rfl := Rv.bool_inv r₁
  exact wpAny_truthy_bool ⟨k₁, .bool _⟩
theorem EV.orF {e e₂ : Expr} {es : List Expr} {pos : Pos} {d : V} (h : EV c sc X n ρ e (.d (.bool false))) (hs : EV c sc X n ρ (.BoolOp .Or (e₂ :: es) pos) d) : EV c sc X n ρ (.BoolOp .Or (e :: e₂ :: es) pos) d := by
  intro A g s R S
  refine BoolOp_or (h.use R S fun v s₁ k₁ S₁ r₁ => ?_)
  obtain rfl := Rv.bool_inv r₁
  exact wpAny_truthy_bool (wpAny_mono (hs A g s₁ R S₁) (fun r s' h => ⟨k₁.tr h.1, h.2⟩) fun _ _ h => h)
theorem EV.andF {e e₂ : Expr} {es : List Expr} {pos : Pos} (h : EV c sc X n ρ e (.d (.bool false))) : EV c sc X n ρ (.BoolOp .And (e :: e₂ :: es) pos) (.d (.bool false)) := by
  intro A g s R S
  refine BoolOp_and (h.use R S fun v s₁ k₁ S₁ r₁ => ?_)
  obtain rfl := Rv.bool_inv r₁
  exact wpAny_truthy_bool ⟨k₁, .bool _⟩
theorem EV.andT {e e₂ : Expr} {es : List Expr} {pos : Pos} {d : V} (h : EV c sc X n ρ e (.d (.bool true))) (hs : EV c sc X n ρ (.BoolOp .And (e₂ :: es) pos) d) : EV c sc X n ρ (.BoolOp .And (e :: e₂ :: es) pos) d := by
  intro A g s R S
  refine BoolOp_and (h.use R S fun v s₁ k₁ S₁ r₁ => ?_)
  obtain rfl := Rv.bool_inv r₁
  exact wpAny_truthy_bool (wpAny_mono (hs A g s₁ R S₁) (fun r s' h => ⟨k₁.tr h.1, h.2⟩) fun _ _ h => h)
theorem EV.ifT {t a b : Expr} {pos : Pos} {d : V} (ht : TV c sc X n ρ t true) (ha : EV c sc X n ρ a d) : EV c sc X n ρ (.IfExp t a b pos) d := by
  intro A g s R S
  exact wpAny_IfExp (ht.use R S fun s₁ k₁ S₁ => wpAny_mono (ha A g s₁ R S₁) (fun r s' h => ⟨k₁.tr h.1, h.2⟩) fun _ _ h => h)
theorem EV.ifF {t a b : Expr} {pos : Pos} {d : V} (ht : TV c sc X n ρ t false) (hb : EV c sc X n ρ b d) : EV c sc X n ρ (.IfExp t a b pos) d := by
  intro A g s R S
  exact wpAny_IfExp (ht.use R S fun s₁ k₁ S₁ => wpAny_mono (hb A g s₁ R S₁) (fun r s' h => ⟨k₁.tr h.1, h.2⟩) fun _ _ h => h)
end
end Mine

namespace Mine
open PySem PySem.W PySem.Calls PyProof.Rows PySem.Spec

/-- what a call of f with these arguments gives back -/
structure FnOk (c : Cx) (n : Nat) (f : Addr) (args : List V) (r : V) : Prop where
  fn : ∀ h, Wd c h → ∃ o fd, h.get? f = some o ∧ o.data = .func fd
  run : ∀ A (s : Shared) W vs (Q : Value → Shared → Prop), RoomC A n → Wd c s.heap → (∀ a ∈ W, Alive s.heap a ∧ c.base < a) → Rws c W s.heap vs args →
    (∀ v s', Kp s s' → Rw c W s'.heap v r → Q v s') → wpAny (model c.prog c.w) A (call (.ref f) vs) Q nE s

section
variable {c : Cx} {sc : Scope} {X : Res} {n : Nat} {ρ : Rho}

theorem EV.call {x : Str} {px pos : Pos} {f : Addr} {e : Expr} {es : List Expr} {ds : List V} {r : V} {m : Nat} (hf : FnOk c m f ds r) (ha : EVs c sc X n ρ (e :: es) ds) (hg : c.gv x = some (.ref f)) (hm : m ≤ n)
    (hk : sc.names.lookup x = some .globalImplicit := by rfl) (hd : (x == ("__debug__" : Str)) = false := by rfl)
    (he : ∀ rest env, starEach (e :: rest) env = (false, eval e env) :: starEach rest env := by intro _ _; rfl) : EV c sc X n ρ (.Call (.Name x px) (e :: es) [] pos) r := by
  intro A g s R S
  refine wpAny_Call_NameR ((EV.glob hg hk hd).use R S fun v s₁ k₁ S₁ r₁ => ?_)
  obtain rfl : v = .ref f := r₁
  obtain ⟨o, fd, ho, hfd⟩ := hf.fn _ S₁.wd'
  have main := ha.use (pos := pos) R S₁ (Q := fun vs s₂ => (s₂.heap.get? f = some o ∧ o.data = .func fd) ∧ wpAny (model c.prog c.w) A (PySem.call (.ref f) vs) (fun v s' => Kp s s' ∧ Rw c g.W s'.heap v r) nE s₂) fun vs s₂ k₂ S₂ r₂ =>
    ⟨⟨(keeps_sm k₂).2 _ _ ho, hfd⟩, hf.run A s₂ g.W vs _ (R.c.le hm) S₂.wd' S₂.alive r₂ fun v s₃ k₃ r₃ => ⟨(k₁.tr k₂).tr k₃, r₃⟩⟩
  rw [he] at main ⊢
  exact callWith_function (o := o) (fd := fd) (evalArgs_plain main)

/-! built-ins -/
theorem EV.blt {x : Str} {px pos : Pos} {id : String} {e : Expr} {d r : V} (ha : EV c sc X n ρ e d) (hg : c.gv x = some (.builtin id))
    (h : ∀ A g s v, RoomE A n → StE c sc g ρ X s → Rw c g.W s.heap v d → ∀ Q : Value → Shared → Prop, (∀ u s', Kp s s' → Rw c g.W s'.heap u r → Q u s') → wpAny (model c.prog c.w) A (PySem.call (.builtin id) [v]) Q nE s)
    (hk : sc.names.lookup x = some .globalImplicit := by rfl) (hd : (x == ("__debug__" : Str)) = false := by rfl)
    (he : ∀ rest env, starEach (e :: rest) env = (false, eval e env) :: starEach rest env := by intro _ _; rfl) : EV c sc X n ρ (.Call (.Name x px) [e] [] pos) r := by
  intro A g s R S
  refine wpAny_Call_NameR ((EV.glob hg hk hd).use R S fun v s₁ k₁ S₁ r₁ => ?_)
  obtain rfl : v = .builtin id := r₁
  have main := (EVs.cons ha EVs.nil he).use (pos := pos) R S₁ (Q := fun vs s₂ => wpAny (model c.prog c.w) A (PySem.call (.builtin id) vs) (fun v s' => Kp s s' ∧ Rw c g.W s'.heap v r) nE s₂) fun vs s₂ k₂ S₂ r₂ => by
    replace r₂ := r₂.one
    obtain ⟨_, rfl, r₂⟩ := r₂
    exact h A g s₂ _ R S₂ r₂ _ fun u s₃ k₃ r₃ => ⟨(k₁.tr k₂).tr k₃, r₃⟩
  rw [he] at main ⊢
  exact callWith_builtin rfl (evalArgs_plain main)
theorem EV.abs {px pos : Pos} {e : Expr} {i : Int} (ha : EV c sc X n ρ e (.d (.int i))) (hg : c.gv "abs" = some (.builtin "abs")) (hk : sc.names.lookup ("abs" : Str) = some .globalImplicit := by rfl)
    (he : ∀ rest env, starEach (e :: rest) env = (false, eval e env) :: starEach rest env := by intro _ _; rfl) : EV c sc X n ρ (.Call (.Name "abs" px) [e] [] pos) (.d (.int (if i < 0 then -i else i))) :=
  EV.blt ha hg (fun A g s v R S r Q q => by
    obtain ⟨t, rfl⟩ := Rv.int_inv r
    exact call_abs_int fun u tk => q _ _ (Kp.tok s tk) (.int _ _)) hk (by rfl) he
theorem EV.len {px pos : Pos} {e : Expr} {ds : List PyData} (ha : EV c sc X n ρ e (.d (.list ds))) (hg : c.gv "len" = some (.builtin "len")) (hz : ds.length < 2 ^ 62) (hk : sc.names.lookup ("len" : Str) = some .globalImplicit := by rfl)
    (he : ∀ rest env, starEach (e :: rest) env = (false, eval e env) :: starEach rest env := by intro _ _; rfl) : EV c sc X n ρ (.Call (.Name "len" px) [e] [] pos) (.d (.int ds.length)) :=
  EV.blt ha hg (fun A g s v R S r Q q => by
    obtain ⟨l, vs, rfl, hl, hn, rs⟩ := Rv.list_inv r
    have e : vs.size = ds.length := rs.length
    refine len_list hl (by (first | lia | omega)) (q _ _ (Kp.tok s _) ?_)
    rw [e]; exact .int _ _) hk (by rfl) he
/-- a call of a built-in type -/
theorem EV.typ {x : Str} {px pos : Pos} {T : String} {e : Expr} {es : List Expr} {ds : List V} {r : V} (ha : EVs c sc X n ρ (e :: es) ds) (hg : c.gv x = some (.type T))
    (h : ∀ A g s vs, RoomE A n → StE c sc g ρ X s → Rws c g.W s.heap vs ds → ∀ Q : Value → Shared → Prop, (∀ u s', Kp s s' → Rw c g.W s'.heap u r → Q u s') → wpAny (model c.prog c.w) A (PySem.call (.type T) vs) Q nE s)
    (hk : sc.names.lookup x = some .globalImplicit := by rfl) (hd : (x == ("__debug__" : Str)) = false := by rfl)
    (he : ∀ rest env, starEach (e :: rest) env = (false, eval e env) :: starEach rest env := by intro _ _; rfl)
    (hp : ∀ pos env, (backTo pos (starEach es env)).any (·.1) = false := by intro _ _; rfl) : EV c sc X n ρ (.Call (.Name x px) (e :: es) [] pos) r := by
  intro A g s R S
  refine wpAny_Call_NameR ((EV.glob hg hk hd).use R S fun v s₁ k₁ S₁ r₁ => ?_)
  obtain rfl : v = .type T := r₁
  have main := ha.use (pos := pos) R S₁ (Q := fun vs s₂ => wpAny (model c.prog c.w) A (PySem.call (.type T) vs) (fun v s' => Kp s s' ∧ Rw c g.W s'.heap v r) nE s₂) fun vs s₂ k₂ S₂ r₂ =>
    h A g s₂ _ R S₂ r₂ _ fun u s₃ k₃ r₃ => ⟨(k₁.tr k₂).tr k₃, r₃⟩
  rw [he] at main ⊢
  exact PyProof.Rows.callWith_type (by show (false || (backTo pos (starEach es g.env)).any (·.1)) = false; rw [hp]; rfl) (evalArgs_plain main)
theorem EV.listOf {px pos : Pos} {e : Expr} {ds : List PyData} (ha : EV c sc X n ρ e (.d (.list ds))) (hg : c.gv "list" = some (.type "list")) (hz : ds.length ≤ 2 ^ 20) (hk : sc.names.lookup ("list" : Str) = some .globalImplicit := by rfl)
    (he : ∀ rest env, starEach (e :: rest) env = (false, eval e env) :: starEach rest env := by intro _ _; rfl) : EV c sc X n ρ (.Call (.Name "list" px) [e] [] pos) (.d (.list ds)) :=
  EV.typ (ds := [.d (.list ds)]) (EVs.cons ha EVs.nil he) hg (fun A g s vs R S r Q q => by
    replace r := r.one
    obtain ⟨_, rfl, r⟩ := r
    obtain ⟨l, us, rfl, ⟨o, ho, hc, k, hd⟩, hn, rs⟩ := Rv.list_inv r
    have e : us.size = ds.length := rs.length
    refine call_list_seq l (.inl rfl) ho hc hd (fun h' c' kp hnew => q _ _ ⟨h', s.toks, rfl, kp⟩ ?_) (by rw [sizeLine_eq]; (first | lia | omega))
    exact .list hnew rfl rfl (fun m => Nat.lt_irrefl _ (S.alive _ m).1.lt) (rs.keep kp)) hk (by rfl) he

/-! lists: +, *, slices -/
theorem EV.addL {a b : Expr} {pos : Pos} {ds es : List PyData} (ha : EV c sc X n ρ a (.d (.list ds))) (hb : EV c sc X n ρ b (.d (.list es))) (hz : ds.length + es.length ≤ 2 ^ 20) : EV c sc X n ρ (.BinOp a .Add b pos) (.d (.list (ds ++ es))) := by
  intro A g s R S
  refine wpAny_BinOp (ha.use R S fun v s₁ k₁ S₁ r₁ => hb.use R S₁ fun v' s₂ k₂ S₂ r₂ => ?_)
  obtain ⟨l, vs, rfl, ⟨⟨cl, dd, dat, sl⟩, ho, hc, k, hd⟩, hn, rs⟩ := Rv.list_inv (r₁.keep (keeps_sm k₂).2)
  obtain ⟨l', us, rfl, ⟨⟨cl', dd', dat', sl'⟩, ho', hc', k', hd'⟩, hn', rs'⟩ := Rv.list_inv r₂
  simp only at hc hd hc' hd'
  subst hc hd hc' hd'
  have e1 : vs.size = ds.length := rs.length
  have e2 : us.size = es.length := rs'.length
  refine concat_meets ⟨_, ho, rfl⟩ ⟨_, ho', rfl⟩ noFill_list_add seq_list_add PySem.F.slot_list_add PySem.F.entry_list_add (PySem.F.args_list_add_2 _ _) (list_addW l l' vs us k k' dd dd' sl sl' (by rw [sizeLine_eq]; (first | lia | omega))) ⟨ho, ho', ?_⟩
  refine ⟨(k₁.tr k₂).tr (Kp.push s₂ _ _), ?_⟩
  refine .list (Heap.get?_push_size _ rfl) rfl rfl (fun m => Nat.lt_irrefl _ (S₂.alive _ m).1.lt) ?_
  have := (rs.app rs').keep (HKeep.push s₂.heap { cls := .type "list", data := .seq (vs ++ us) })
  simpa using this

theorem rep_flat {α : Type} (d : α) : ∀ k : Nat, (List.replicate k [d]).flatten = List.replicate k d
  | 0 => rfl
  | k + 1 => by simp [List.replicate_succ, rep_flat d k]
theorem Rvs.rep {W : List Addr} {h : Heap} {v : Value} {d : PyData} (r : Rv W h v d) : ∀ k : Nat, Rvs W h (List.replicate k v) (List.replicate k d)
  | 0 => .nil
  | k + 1 => .cons r (Rvs.rep r k)
theorem rep_c1 {m x : Nat} (h1 : m = 1) (hz : x ≤ 2 ^ 20) : ¬m * x > (2 ^ 63 - 1) / 8 := by
  have e : (2 : Nat) ^ 20 = 1048576 := by decide
  have e2 : (2 ^ 63 - 1) / 8 = 1152921504606846975 := by decide
  rw [e] at hz
  rw [e2, h1, Nat.one_mul]
  (first | lia | omega)
theorem rep_c2 {m x : Nat} (h1 : m = 1) (hz : x ≤ 2 ^ 20) : ¬Builtin.List.listTooLong (m * x) = true := by
  have e : (2 : Nat) ^ 20 = 1048576 := by decide
  rw [e] at hz
  rw [h1, Nat.one_mul]
  simp only [Builtin.List.listTooLong, sizeLine_eq, decide_eq_true_eq]
  (first | lia | omega)
theorem rep_c0 {x : Int} (h0 : 0 ≤ x) (hz : x.toNat ≤ 2 ^ 20) : ¬(!Builtin.List.listFitsIndex x) = true := by
  have e : (2 : Nat) ^ 20 = 1048576 := by decide
  rw [e] at hz
  simp only [Builtin.List.listFitsIndex, Bool.not_eq_true', Bool.not_eq_false, Bool.and_eq_true, decide_eq_true_eq]
  constructor <;> (first | lia | omega)
theorem mul_list1 {prog : Program} {w : World} {A : Around} {E : Value → Shared → Prop} {s : Shared} {l : Addr} {items : Array Value} {x : Int} {u : Tok} {Q : Value → Shared → Prop}
    (hl : s.heap.get? l = some { cls := .type "list", dict := none, data := .seq items 0, slots := #[] }) (h1 : items.size = 1) (h0 : 0 ≤ x) (hz : x.toNat ≤ 2 ^ 20)
    (h : ∀ its : Array Value, its.toList = (List.replicate x.toNat items.toList).flatten → Q (.ref s.heap.objs.size) { s with heap := s.heap.push { cls := .type "list", data := .seq its } }) :
    wpAny (model prog w) A (binaryOp .Mult (.ref l) (.int x u)) Q E s := by
  refine wpAny_binaryOp_repeat_ref (T := "list") (U := "int") (by decide) ⟨_, hl, rfl⟩ (fun s' => typeIs_int s' x u) noFill_list_mul PySem.F.fills_int_mul PySem.F.slot_int_rmul repeat_list PySem.F.slot_int_index.lookup
    (call_meets PySem.F.slot_int_rmul (typeIs_int s x u) PySem.F.entry_int_rmul (PySem.F.args_int_rmul_2 _ _) (int___rmul___int_list x u l items 0)
      ⟨hl, rfl, ⟨_, hl, rfl⟩, call_meets PySem.F.slot_list_mul ⟨_, hl, rfl⟩ PySem.F.entry_list_mul (PySem.F.args_list_mul_2 _ _)
        (AutoListH.list___mul___list_int_3 l items 0 x u (rep_c0 h0 hz) (rep_c1 h1 hz) (rep_c2 h1 hz)) ⟨hl, ?_⟩⟩)
  refine h _ ?_
  have hne : ¬ (items.isEmpty = true) := by intro e; rw [Array.isEmpty_iff] at e; rw [e] at h1; cases h1
  rw [if_neg hne, PyProof.Rows.listMul_foldl]
  simp
theorem EV.repL {a b : Expr} {pos pos' : Pos} {d : PyData} {k : Nat} (ha : EV c sc X n ρ a (.d d)) (hb : EV c sc X n ρ b (.d (.int k))) (hz : k ≤ 2 ^ 20)
    (he : ∀ rest env, starEach (a :: rest) env = (false, eval a env) :: starEach rest env := by intro _ _; rfl) : EV c sc X n ρ (.BinOp (.List [a] pos) .Mult b pos') (.d (.list (List.replicate k d))) := by
  intro A g s R S
  refine wpAny_BinOp (wpAny_List ((EVs.cons ha EVs.nil he).use R S fun vs s₁ k₁ S₁ r₁ => ?_))
  replace r₁ := r₁.one
  obtain ⟨v, rfl, r₁⟩ := r₁
  refine ⟨by rw [sizeLine_eq]; simp, ?_⟩
  have kp : Kp s₁ { s₁ with heap := s₁.heap.push { cls := .type "list", data := .seq ([v] : List Value).toArray } } := Kp.push s₁ _ s₁.toks
  have hl : (s₁.heap.push { cls := .type "list", data := .seq ([v] : List Value).toArray }).get? s₁.heap.objs.size = some { cls := .type "list", data := .seq ([v] : List Value).toArray } := Heap.get?_push_size _ rfl
  refine hb.use R (S₁.exk kp) fun v' s₂ k₂ S₂ r₂ => ?_
  obtain ⟨t, rfl⟩ := Rv.int_inv r₂
  have hl₂ := (keeps_sm k₂).2 _ _ hl
  refine mul_list1 hl₂ rfl (by (first | lia | omega)) (by simpa using hz) fun its hi => ?_
  have kq : Kp s₂ { s₂ with heap := s₂.heap.push { cls := .type "list", data := .seq its } } := Kp.push s₂ _ s₂.toks
  refine ⟨((k₁.tr kp).tr k₂).tr kq, ?_⟩
  refine .list (Heap.get?_push_size _ rfl) rfl rfl (fun m => Nat.lt_irrefl _ (S₂.alive _ m).1.lt) ?_
  rw [hi, Int.toNat_natCast]
  have r := Rvs.rep (r₁.keep (keeps_sm ((kp.tr k₂).tr kq)).2) k
  rw [← rep_flat v k] at r
  exact r
theorem EV.slice {a : Expr} {lo hi : Option Expr} {p pos : Pos} {ds : List PyData} {l u : Option Int} {r : PyData} (ha : EV c sc X n ρ a (.d (.list ds)))
    (hl : ∀ A g s, RoomE A n → StE c sc g ρ X s → ∀ Q : Value → Shared → Prop, (∀ v s', Kp s s' → StE c sc g ρ X s' → IsPart v l → Q v s') → wpAny (model c.prog c.w) A (evalPart lo g.env) Q nE s)
    (hu : ∀ A g s, RoomE A n → StE c sc g ρ X s → ∀ Q : Value → Shared → Prop, (∀ v s', Kp s s' → StE c sc g ρ X s' → IsPart v u → Q v s') → wpAny (model c.prog c.w) A (evalPart hi g.env) Q nE s)
    (hz : ds.length ≤ 2 ^ 20)
    (hr : ∀ W h (vs : Array Value), Rvs W h vs.toList ds → ∃ rs, r = .list rs ∧ Rvs W h (slicePick vs l u none).toList rs) : EV c sc X n ρ (.Subscript a (.Slice lo hi none p) pos) (.d r) := by
  intro A g s R S
  refine Subscript_ (ha.use R S fun v s₁ k₁ S₁ r₁ => wpAny_Slice (hl A g s₁ R S₁ _ fun vl s₂ k₂ S₂ p₂ => hu A g s₂ R S₂ _ fun vu s₃ k₃ S₃ p₃ => ?_))
  rw [evalPart_none]
  refine wpAny_pure ?_
  obtain ⟨x, vs, rfl, hx, hn, rs⟩ := Rv.list_inv (r₁.keep (keeps_sm (k₂.tr k₃)).2)
  have e1 : vs.size = ds.length := rs.length
  obtain ⟨rr, rfl, hrr⟩ := hr _ _ _ rs
  have kk : Kp s₃ { s₃ with heap := (s₃.heap.push { cls := .type "slice", data := .fields #[vl, vu, .none] }).push { cls := .type "list", data := .seq (slicePick vs l u none) } } := (Kp.push s₃ _ s₃.toks).tr (Kp.push _ _ s₃.toks)
  refine tail_any (hx.push _).typeIs list_getitem_lookup (wpAny_getItem_list_slice (hx.push _) (Heap.IsSliceOf.new ..) p₂ p₃ .none (by simp) ?_ (by rw [sizeLine_eq]; (first | lia | omega))) (by with_unfolding_all rfl)
  refine ⟨((k₁.tr k₂).tr k₃).tr kk, ?_⟩
  rw [Heap.size_push]
  have hsz : ((s₃.heap.push { cls := .type "slice", data := .fields #[vl, vu, .none] })).objs.size = s₃.heap.objs.size + 1 := Heap.size_push ..
  refine .list (a := s₃.heap.objs.size + 1) (hsz ▸ Heap.get?_push_size _ rfl) rfl rfl (fun m => ?_) (hrr.keep (keeps_sm kk).2)
  exact absurd (S₃.alive _ m).1.lt (Nat.not_lt.mpr (Nat.le_succ _))
theorem slice_none {A : Around} {g : Fm} {s : Shared} (S : StE c sc g ρ X s) (Q : Value → Shared → Prop) (h : ∀ v s', Kp s s' → StE c sc g ρ X s' → IsPart v none → Q v s') : wpAny (model c.prog c.w) A (evalPart none g.env) Q nE s := by
  rw [evalPart_none]; exact wpAny_pure (h _ _ (Kp.rf s) S .none)
theorem slice_some {e : Expr} {i : Int} (he : EV c sc X n ρ e (.d (.int i))) {A : Around} {g : Fm} {s : Shared} (R : RoomE A n) (S : StE c sc g ρ X s) (Q : Value → Shared → Prop) (h : ∀ v s', Kp s s' → StE c sc g ρ X s' → IsPart v (some i) → Q v s') : wpAny (model c.prog c.w) A (evalPart (some e) g.env) Q nE s := by
  rw [evalPart_some]
  refine he.use R S fun v s₁ k₁ S₁ r₁ => ?_
  obtain ⟨t, rfl⟩ := Rv.int_inv r₁
  exact h _ _ k₁ S₁ (.int i t)
theorem cast_min (a b : Nat) : ((min a b : Nat) : Int) = min (a : Int) b := by (first | lia | omega)
/-- a[:i] -/
theorem EV.sliceTo {a e : Expr} {p pos : Pos} {ds : List PyData} {i : Nat} {ii : Int} (ha : EV c sc X n ρ a (.d (.list ds))) (he' : EV c sc X n ρ e (.d (.int ii))) (hii : ii = i) (hz : ds.length ≤ 2 ^ 20) : EV c sc X n ρ (.Subscript a (.Slice none (some e) none p) pos) (.d (.list (ds.take i))) := by
  have he := hii ▸ he'
  refine EV.slice (l := none) (u := some (i : Int)) ha (fun A g s R S Q h => slice_none S Q h) (fun A g s R S Q h => slice_some he R S Q h) hz (fun W h vs rs => ⟨_, rfl, ?_⟩)
  have hm : slicePick vs none (some (i : Int)) none = (vs.toList.take i).toArray := by
    have h1 : slicePick vs none (some (i : Int)) none = slicePick vs (some ((0 : Nat) : Int)) (some ((min i vs.size : Nat) : Int)) none := by
      unfold slicePick
      congr 1
      have : sliceBounds none (some (i : Int)) none vs.size = sliceBounds (some ((0 : Nat) : Int)) (some ((min i vs.size : Nat) : Int)) none vs.size := by
        simp only [sliceBounds, Option.getD_none, show (1 : Int) > 0 by decide, if_true]
        rw [if_neg (Int.not_lt.mpr (Int.natCast_nonneg i)), if_neg (Int.not_lt.mpr (Int.natCast_nonneg (min i vs.size))), if_neg (Int.not_lt.mpr (Int.natCast_nonneg 0)), cast_min, Int.min_assoc, Int.min_self, show min (((0 : Nat) : Int)) (vs.size : Int) = 0 from Int.min_eq_left (Int.natCast_nonneg _)]
        rfl
      rw [this]
    rw [h1, slicePick_run vs 0 (min i vs.size) (Nat.min_le_right _ _) (Nat.zero_le _)]
    simp only [List.drop_zero, Nat.sub_zero]
    congr 1
    rw [show vs.size = vs.toList.length by simp]
    exact List.take_eq_take_min.symm
  rw [hm]
  exact rs.take i
/-- a[i:] -/
theorem EV.sliceFrom {a e : Expr} {p pos : Pos} {ds : List PyData} {i : Nat} {ii : Int} (ha : EV c sc X n ρ a (.d (.list ds))) (he' : EV c sc X n ρ e (.d (.int ii))) (hii : ii = i) (hz : ds.length ≤ 2 ^ 20) (hi : i ≤ ds.length) : EV c sc X n ρ (.Subscript a (.Slice (some e) none none p) pos) (.d (.list (ds.drop i))) := by
  have he := hii ▸ he'
  refine EV.slice (l := some (i : Int)) (u := none) ha (fun A g s R S Q h => slice_some he R S Q h) (fun A g s R S Q h => slice_none S Q h) hz (fun W h vs rs => ⟨_, rfl, ?_⟩)
  have e1 : vs.size = ds.length := rs.length
  have hm : slicePick vs (some (i : Int)) none none = (vs.toList.drop i).toArray := by
    have h1 : slicePick vs (some (i : Int)) none none = slicePick vs (some (i : Int)) (some ((vs.size : Nat) : Int)) none := by
      unfold slicePick
      congr 1
      have : sliceBounds (some (i : Int)) none none vs.size = sliceBounds (some (i : Int)) (some ((vs.size : Nat) : Int)) none vs.size := by
        simp only [sliceBounds, Option.getD_none, show (1 : Int) > 0 by decide, if_true]
        rw [if_neg (Int.not_lt.mpr (Int.natCast_nonneg vs.size)), Int.min_self, Int.max_eq_right (Int.natCast_nonneg vs.size)]
      rw [this]
    rw [h1, slicePick_run vs i vs.size (Nat.le_refl _) (by (first | lia | omega))]
    congr 1
    apply List.take_of_length_le
    simp
  rw [hm]
  exact rs.drop i

/-- a[::-1] -/
theorem EV.sliceRev {a e : Expr} {p pos : Pos} {ds : List PyData} (ha : EV c sc X n ρ a (.d (.list ds))) (he : EV c sc X n ρ e (.d (.int (-1)))) (hz : ds.length ≤ 2 ^ 20) : EV c sc X n ρ (.Subscript a (.Slice none none (some e) p) pos) (.d (.list ds.reverse)) := by
  intro A g s R S
  refine Subscript_ (ha.use R S fun v s₁ k₁ S₁ r₁ => wpAny_Slice ?_)
  refine slice_none S₁ _ fun vl s₂ k₂ S₂ p₂ => slice_none S₂ _ fun vu s₃ k₃ S₃ p₃ => slice_some he R S₃ _ fun vst s₄ k₄ S₄ p₄ => ?_
  have k14 : Kp s₁ s₄ := (k₂.tr k₃).tr k₄
  obtain ⟨x, vs, rfl, hx, hn, rs⟩ := Rv.list_inv (r₁.keep (keeps_sm k14).2)
  have e1 : vs.size = ds.length := rs.length
  have kp : Kp s₄ { s₄ with heap := s₄.heap.push { cls := .type "slice", data := .fields #[vl, vu, vst] } } := Kp.push s₄ _ s₄.toks
  refine tail_any (hx.push _).typeIs list_getitem_lookup (wpAny_getItem_list_slice (hx.push _) (Heap.IsSliceOf.new ..) p₂ p₃ p₄ (by decide) ?_ (by rw [sizeLine_eq]; (first | lia | omega))) (by with_unfolding_all rfl)
  refine ⟨((k₁.tr k14).tr kp).tr (Kp.push _ _ s₄.toks), ?_⟩
  have S₅ := S₄.exk kp
  refine .list (Heap.get?_push_size _ rfl) rfl rfl (fun m => Nat.lt_irrefl _ (S₅.alive _ m).1.lt) ?_
  rw [krv_pick]
  simpa using (rs.keep (HKeep.trans (keeps_sm kp).2 (HKeep.push _ _))).rev
end
end Mine

namespace Mine
open PySem PySem.W PySem.Calls PyProof.Rows PySem.Spec

/-- a def of the text, as it stands -/
structure FnDef (c : Cx) (f : Addr) (ps : List Str) (dv : List Value) (body : List Stmt) (sc : Scope) : Prop where
  here : ∀ h, c.K.In h → ∃ o fd, h.get? f = some o ∧ o.data = .func fd ∧ fd.body = .stmts body ∧ fd.scope = sc ∧ fd.closure = [] ∧ fd.globals = mainGlobals ∧ fd.builtins = builtinsNs ∧ h.CodeRec fd.code fd.qualname ∧
    ∀ (s : Shared) vals, s.heap = h → vals.length + dv.length = ps.length → BindsTo s fd ⟨vals, []⟩ (ps.zip (vals ++ dv))

noncomputable def RetOk (c : Cx) (g : Fm) (r : V) (fl : Flow) (s' : Shared) : Prop := ∃ v, (fl = .ret v ∨ fl = .next ∧ v = .none) ∧ Sm g.s0 s' ∧ HKeep g.s0.heap s'.heap ∧ Rw c g.W s'.heap v r

theorem Rws.lookup {c : Cx} {W : List Addr} {h : Heap} {x : Str} {d : V} {ps : List Str} {vs : List Value} {ds : List V} (r : Rws c W h vs ds) (e : (ps.zip ds).lookup x = some d) : ∃ v, (ps.zip vs).lookup x = some v ∧ Rw c W h v d :=
  Rws.rec (motive := fun vs ds _ => ∀ (ps : List Str), (ps.zip ds).lookup x = some d → ∃ v, (ps.zip vs).lookup x = some v ∧ Rw c W h v d) (fun ps e => by rw [List.zip_nil_right] at e; cases e) (fun {v vs d' ds} r rs ih ps => List.casesOn ps (fun e => nomatch e) fun p ps e => by
    by_cases q : x = p
    · exact ⟨v, q ▸ List.lookup_cons_self, Option.some.inj ((q ▸ List.lookup_cons_self : ((p, d') :: ps.zip ds).lookup x = some d').symm.trans e) ▸ r⟩
    · exact (ih ps ((lk_ne q).symm.trans e)).elim fun u y => ⟨u, (lk_ne q).trans y.1, y.2⟩) r ps e

/-- binding after binding -/
theorem bindL_both {k : Str → Option NameKind} {x : Str} {v : Value} (bs : List (Str × Value)) : ∀ (m : Str → Option Value), (x ∉ bs.map (·.1) → bindL k bs m x = m x) ∧ (k x = some .local → (bs.map (·.1)).Nodup → bs.lookup x = some v → bindL k bs m x = some v) :=
  List.rec (motive := fun bs => ∀ (m : Str → Option Value), (x ∉ bs.map (·.1) → bindL k bs m x = m x) ∧ (k x = some .local → (bs.map (·.1)).Nodup → bs.lookup x = some v → bindL k bs m x = some v)) (fun _ => ⟨fun _ => rfl, fun _ _ e => nomatch e⟩) (fun p r ih m => by
    have ih := ih (if k p.1 = some .local then fun y => if y = p.1 then some p.2 else m y else m)
    refine ⟨fun h => (ih.1 fun q => h (.tail _ q)).trans ?_, fun hk hn e => ?_⟩
    · split
      · exact if_neg (c := x = p.1) fun q => h (q ▸ .head _)
      · rfl
    · by_cases q : x = p.1
      · refine (ih.1 (q ▸ (List.nodup_cons.mp hn).1)).trans ?_
        rw [← q, if_pos hk, if_pos rfl]
        exact (q ▸ List.lookup_cons_self : (p :: r).lookup x = some p.2).symm.trans e
      · exact ih.2 hk (List.nodup_cons.mp hn).2 ((lk_ne (d := p.2) q).symm.trans e)) bs
theorem bindL_at {k : Str → Option NameKind} {x : Str} {v : Value} (hk : k x = some .local) {bs : List (Str × Value)} {m : Str → Option Value} (hn : (bs.map (·.1)).Nodup) (e : bs.lookup x = some v) : bindL k bs m x = some v := (bindL_both bs m).2 hk hn e
theorem bindC_both {k : Str → Option NameKind} {x : Str} {v : Value} (bs : List (Str × Value)) : ∀ (m : Str → Option Value), (x ∉ bs.map (·.1) → bindC k bs m x = m x) ∧ (k x ≠ some .local → (bs.map (·.1)).Nodup → bs.lookup x = some v → bindC k bs m x = some v) :=
  List.rec (motive := fun bs => ∀ (m : Str → Option Value), (x ∉ bs.map (·.1) → bindC k bs m x = m x) ∧ (k x ≠ some .local → (bs.map (·.1)).Nodup → bs.lookup x = some v → bindC k bs m x = some v)) (fun _ => ⟨fun _ => rfl, fun _ _ e => nomatch e⟩) (fun p r ih m => by
    have ih := ih (if k p.1 = some .local then m else fun y => if y = p.1 then some p.2 else m y)
    refine ⟨fun h => (ih.1 fun q => h (.tail _ q)).trans ?_, fun hk hn e => ?_⟩
    · split
      · rfl
      · exact if_neg (c := x = p.1) fun q => h (q ▸ .head _)
    · by_cases q : x = p.1
      · refine (ih.1 (q ▸ (List.nodup_cons.mp hn).1)).trans ?_
        rw [← q, if_neg hk, if_pos rfl]
        exact (q ▸ List.lookup_cons_self : (p :: r).lookup x = some p.2).symm.trans e
      · exact ih.2 hk (List.nodup_cons.mp hn).2 ((lk_ne (d := p.2) q).symm.trans e)) bs
theorem bindC_at {k : Str → Option NameKind} {x : Str} {v : Value} (hk : k x ≠ some .local) {bs : List (Str × Value)} {m : Str → Option Value} (hn : (bs.map (·.1)).Nodup) (e : bs.lookup x = some v) : bindC k bs m x = some v := (bindC_both bs m).2 hk hn e
theorem zip_fst {α β : Type} (ps : List α) (vs : List β) (h : ps.length = vs.length) : (ps.zip vs).map (·.1) = ps := List.map_fst_zip (Nat.le_of_eq h)

noncomputable def okParams (sc : Scope) (ps : List Str) : Bool := ps.all fun y => sc.names.lookup y == some .local || sc.names.lookup y == some .cell

/-- into the body of a def -/
theorem enter {c : Cx} {f : Addr} {ps : List Str} {dv : List Value} {body : List Stmt} {sc : Scope} {n : Nat} {args dvs : List V} (D : FnDef c f ps dv body sc)
    (hlen : args.length + dv.length = ps.length) (hdv : ∀ W h, Rws c W h dv dvs) {A : Around} {s : Shared} {W : List Addr} {vs : List Value} {R' : Result → Shared → Prop} (R : RoomC A (n + 1)) (wd : Wd c s.heap) (al : ∀ a ∈ W, Alive s.heap a ∧ c.base < a) (rs : Rws c W s.heap vs args)
    (hbody : ∀ A g s', RoomE A n → StE c sc g (ps.zip (args ++ dvs)) {} s' → g.s0 = s → g.W = own g ++ W → g.M = [] → g.fp = [] → g.G = [] → wpAny (model c.prog c.w) A (execs body g.env) (fun fl s'' => ∃ v, (fl = .ret v ∨ fl = .next ∧ v = .none) ∧ R' (.ok (.ret v)) s'') nE s')
    (hk : sc.kind = .function := by rfl) (hgen : sc.isGenerator = false := by rfl) (hco : sc.isCoroutine = false := by rfl) (hnd : ps.Nodup := by decide) (hok : okParams sc ps = true := by rfl) (hcn : ((cellsFrom 0 sc.names []).map (·.1)).Nodup := by decide) : codeAny (model c.prog c.w) A (.call (.ref f) ⟨vs, []⟩) R' s := by
    obtain ⟨o, fd, z⟩ := D.here _ wd.K
    have ho := z.1
    have hd := z.2.1
    have hb := z.2.2.1
    have hsc := z.2.2.2.1
    have hcl := z.2.2.2.2.1
    have hgl := z.2.2.2.2.2.1
    have hbl := z.2.2.2.2.2.2.1
    have hcr := z.2.2.2.2.2.2.2.1
    have hbind := z.2.2.2.2.2.2.2.2
    have hl : vs.length = args.length := rs.length
    have hbt := hbind s vs rfl (by (first | lia | omega))
    have hlz : ps.length = (vs ++ dv).length := by simp; (first | lia | omega)
    have hfst := zip_fst ps (vs ++ dv) hlz
    refine codeAny_call_function (by have := R.dp; (first | lia | omega)) ho hd (by rw [hsc]; exact hco) (by rw [hsc]; exact hgen) hb hcr (hbt _ _ _ _ ?_)
    rw [hcl]
    have hkinds : ∀ x ∈ ps.zip (vs ++ dv), fd.scope.names.lookup x.1 = some .local ∨ (fd.scope.names.lookup x.1 = some .cell ∧ ((cellsFrom (s.heap.objs.size + 1) fd.scope.names []).lookup x.1).isSome = true) := by
      refine kindsX (List.all_eq_true.mpr fun y hy => ?_) _
      have hm : y.1 ∈ ps := by rw [← hfst]; exact List.mem_map_of_mem hy
      rw [hsc]
      exact List.all_eq_true.mp hok _ hm
    refine wpAny_newFunctionEnv_cells (by rw [hsc]; exact hk) hkinds fun env he s' x => ?_
    have hloc : env.locals = s.heap.objs.size := by rw [he]; rfl
    have hsc' : env.scope = sc := by rw [he]; exact hsc
    have hgl' : env.globals = mainGlobals := by rw [he]; exact hgl
    have hbl' : env.builtins = builtinsNs := by rw [he]; exact hbl
    have hcells : ∀ n a, (n, a) ∈ env.cells → s.heap.objs.size < a := fun n a m => hloc ▸ x.above n a m
    have hSm : Sm s s' := x.toInCall.same
    have hKp : HKeep s.heap s'.heap := x.toInCall.keep
    let g : Fm := ⟨env, s, (env.locals :: env.cells.map (·.2)) ++ W, [], fun _ => True, [], []⟩
    have hnew : ∀ a ∈ own g, s.heap.objs.size ≤ a := by
      intro a ha
      rcases List.mem_cons.mp ha with rfl | ha
      · exact Nat.le_of_eq hloc.symm
      · obtain ⟨p, hp, rfl⟩ := List.mem_map.mp ha
        exact Nat.le_of_lt (hcells p.1 p.2 hp)
    have hdead : ∀ a, s.heap.objs.size ≤ a → s.heap.get? a = none := fun a ha => by
      cases e : s.heap.get? a with
      | none => rfl
      | some o' => exact absurd (Heap.lt_size e) (Nat.not_lt.mpr ha)
    have rg : Rws c g.W s'.heap (vs ++ dv) (args ++ dvs) :=
      ((rs.to fun a o na e => ⟨fun m => (List.mem_append.mp m).elim (fun m => absurd (Heap.lt_size e) (Nat.not_lt.mpr (hnew a m))) na, e⟩).app (hdv _ _)).keep hKp
    have hcs : env.cells = cellsFrom (s.heap.objs.size + 1) sc.names [] := by rw [he, ← hsc]; rfl
    have hnames : (env.cells.map (·.1)).Nodup := by rw [hcs, cellsFrom_names sc.names (s.heap.objs.size + 1) 0 [] [] rfl]; exact hcn
    have hcell : ∀ y a, (y, a) ∈ env.cells → ∃ v, s'.heap.IsCell a v := fun y a e => ⟨_, x.cell y a (lookup_of_mem_nodup hnames e)⟩
    have hko : ∀ y, env.kindOf y = sc.names.lookup y := fun y => by show env.scope.names.lookup y = _; rw [hsc']
    have hbs : c.base < s.heap.objs.size := wd.base.elim fun _ e => Heap.lt_size e
    have hal : ∀ a ∈ g.W, Alive s'.heap a ∧ c.base < a := by
      intro a ha
      rcases List.mem_append.mp ha with ha | ha
      · rcases List.mem_cons.mp ha with rfl | ha
        · obtain ⟨o', _, _, e, _⟩ := x.toInCall.ns
          exact ⟨⟨o', e⟩, Nat.lt_of_lt_of_le hbs (hnew _ (.head _))⟩
        · have q := hnew a (List.mem_cons_of_mem _ ha)
          obtain ⟨p, hp, rfl⟩ := List.mem_map.mp ha
          obtain ⟨v, o', e, _⟩ := hcell p.1 p.2 hp
          exact ⟨⟨o', e⟩, Nat.lt_of_lt_of_le hbs q⟩
      · exact ⟨(al a ha).1.keep hKp, (al a ha).2⟩
    have hvars : ∀ y d, (ps.zip (args ++ dvs)).lookup y = some d → ∃ v, Slot' g s'.heap y v ∧ Rw c g.W s'.heap v d := by
      intro y d e
      obtain ⟨v, e', r'⟩ := rg.lookup e
      refine ⟨v, ?_, r'⟩
      have hb : (y, v) ∈ ps.zip (vs ++ dv) := mem_of_lookup e'
      have hnd' : ((ps.zip (vs ++ dv)).map (·.1)).Nodup := by rw [hfst]; exact hnd
      rcases hkinds _ hb with q | ⟨q, q2⟩
      · have q' : env.kindOf y = some .local := by rw [hko, ← hsc]; exact q
        exact .inl ⟨q', _, x.toInCall.ns, bindL_at q' hnd' e'⟩
      · have q' : env.kindOf y = some .cell := by rw [hko, ← hsc]; exact q
        obtain ⟨a, ha⟩ := Option.isSome_iff_exists.mp q2
        rw [hsc, ← hcs] at ha
        refine .inr ⟨.inl q', a, ha, ?_⟩
        have := x.cell y a ha
        rwa [bindC_at (by rw [q']; decide) hnd' e'] at this
    have S : StE c sc g (ps.zip (args ++ dvs)) {} s' :=
      { scp := hsc', kind := hk, glb := hgl', blt := hbl', same := hSm, keep := hKp, wd := wd, ns := ⟨_, x.toInCall.ns⟩,
        cell := hcell, apart := x.apart, cells := fun y h => by rw [hcs]; exact cellsFrom_some _ _ _ (.inl h), ownW := fun a ha => ⟨List.mem_append_left _ ha, fun q => (nomatch q)⟩, memW := fun a ha => (nomatch ha), newM := fun a ha => (nomatch ha), newW := fun a ha => hdead a (hnew a ha),
        alive := hal, vars := hvars, res := ⟨fun _ _ h => (nomatch h), fun _ _ _ h => (nomatch h), List.nodup_nil⟩, tmp := trivial, tmpSt := fun _ _ _ _ => trivial, tmpW := fun b hb => (nomatch hb), gho := fun p hp => (nomatch hp) }
    refine ⟨wd.nolim.keeps hKp, codeAny_func ?_⟩
    have R₁ : RoomE (A.deeper env) n := R.enter (by rw [hsc']; exact hgen) (by rw [hsc']; exact hco) hbl' hgl'
    refine wpAny_mono (hbody _ g s' R₁ S rfl rfl rfl rfl rfl) (fun fl s'' h => ?_) fun _ _ h => h.elim
    obtain ⟨v, hfl, q⟩ := h
    rcases hfl with rfl | ⟨rfl, rfl⟩
    · exact q
    · exact q

theorem FnOk.of {c : Cx} {f : Addr} {ps : List Str} {dv : List Value} {body : List Stmt} {sc : Scope} {n : Nat} {args dvs : List V} {r : V} (D : FnDef c f ps dv body sc)
    (hlen : args.length + dv.length = ps.length) (hdv : ∀ W h, Rws c W h dv dvs)
    (hbody : ∀ A g s, RoomE A n → StE c sc g (ps.zip (args ++ dvs)) {} s → wpAny (model c.prog c.w) A (execs body g.env) (RetOk c g r) nE s)
    (hk : sc.kind = .function := by rfl) (hgen : sc.isGenerator = false := by rfl) (hco : sc.isCoroutine = false := by rfl) (hnd : ps.Nodup := by decide) (hok : okParams sc ps = true := by rfl) (hcn : ((cellsFrom 0 sc.names []).map (·.1)).Nodup := by decide) : FnOk c (n + 1) f args r where
  fn := fun h w => (D.here h w.K).imp fun o x => x.imp fun fd y => ⟨y.1, y.2.1⟩
  run := by
    intro A s W vs Q R wd al rs hQ
    refine wpAny_call (enter (n := n) (dvs := dvs) D hlen hdv R wd al rs (fun A g s' R' S h0 hW _ _ _ => ?_) hk hgen hco hnd hok hcn)
    refine wpAny_mono (hbody _ g s' R' S) (fun fl s'' h => ?_) fun _ _ h => h.elim
    obtain ⟨v, hfl, ⟨h', tk, e⟩, kp, rr⟩ := h
    refine ⟨v, hfl, ?_⟩
    subst h0
    exact hQ v s'' ⟨h', tk, e, by rw [e] at kp; exact kp⟩ (rr.to fun a o na e => ⟨fun m => na (hW ▸ List.mem_append_right _ m), e⟩)
end Mine

namespace Mine
open PySem PySem.W PySem.Calls PyProof.Rows PySem.Spec

section
variable {c : Cx} {sc : Scope} {g : Fm} {ρ : Rho} {X : Res} {s s' : Shared} {n : Nat} {A : Around}

theorem ns_ne_cell {h : Heap} {a b : Addr} {m : Str → Option Value} {v : Option Value} (x : h.Ns a m) (y : h.IsCell b v) : a ≠ b := by
  rintro rfl
  obtain ⟨o, es, ep, e, d, _⟩ := x
  obtain ⟨o', e', d'⟩ := y
  rw [e] at e'; cases e'
  rw [d] at d'; cases d'

/-- a change of the frame's own names -/
theorem StE.write (x : StE c sc g ρ X s) (hs : Sm s s') {ρ' : Rho} (k : ∀ a o, a ∉ own g → s.heap.get? a = some o → s'.heap.get? a = some o)
    (hns : ∃ m, s'.heap.Ns g.env.locals m) (hcell : ∀ y a, (y, a) ∈ g.env.cells → ∃ v, s'.heap.IsCell a v)
    (hvars : ∀ y d, ρ'.lookup y = some d → ∃ v, Slot' g s'.heap y v ∧ Rw c g.W s'.heap v d) : StE c sc g ρ' X s' := by
  have kW : ∀ a o, a ∉ g.W → s.heap.get? a = some o → a ∉ g.W ∧ s'.heap.get? a = some o := fun a o n e => ⟨n, k a o (fun m => n (x.ownW a m).1) e⟩
  have kM : ∀ a ∈ g.M, ∀ o, s.heap.get? a = some o → s'.heap.get? a = some o := fun a m o e => k a o (fun q => (x.ownW a q).2 m) e
  exact {
    scp := x.scp, kind := x.kind, glb := x.glb, blt := x.blt, same := x.same.trans hs
    keep := fun a o e => k a o (fun q => by rw [x.newW a q] at e; cases e) (x.keep a o e)
    wd := x.wd, ns := hns, cell := hcell, apart := x.apart, cells := x.cells, ownW := x.ownW, memW := x.memW, newW := x.newW, newM := x.newM
    alive := fun a e => by
      refine ⟨?_, (x.alive a e).2⟩
      by_cases q : a ∈ own g
      · rcases List.mem_cons.mp q with rfl | q
        · obtain ⟨m, o, _, _, e, _⟩ := hns; exact ⟨o, e⟩
        · obtain ⟨p, hp, rfl⟩ := List.mem_map.mp q
          obtain ⟨v, o, e, _⟩ := hcell p.1 p.2 hp; exact ⟨o, e⟩
      · obtain ⟨⟨o, h⟩, b⟩ := x.alive a e
        exact ⟨o, k a o q h⟩
    vars := hvars
    res := ⟨fun a ds m => ⟨(x.res.ls a ds m).1, (x.res.ls a ds m).2.to kW (kM a (x.res.ls a ds m).1)⟩,
      fun a dd fs m => let ⟨h1, h2, h5⟩ := x.res.os a dd fs m; ⟨h1, h2, h5.to kW (fun o e => (kW a o h2 e).2) (kM dd h1)⟩, x.res.apart⟩
    tmp := x.tmpSt _ _ x.tmp fun b m o e => k b o (x.tmpW b m).1 e
    tmpSt := x.tmpSt
    tmpW := fun b m => ⟨(x.tmpW b m).1, (x.tmpW b m).2.1, let ⟨o, e⟩ := (x.tmpW b m).2.2; ⟨o, k b o (x.tmpW b m).1 e⟩⟩
    gho := fun p m => (x.gho p m).to kW }

theorem lookup_cons_ne {y x : Str} {d : V} {ρ : Rho} (h : y ≠ x) : List.lookup y ((x, d) :: ρ) = List.lookup y ρ := by
  rw [List.lookup_cons, show (y == x) = false from beq_eq_false_iff_ne.mpr h]
theorem lookup_cons_eq {x : Str} {d : V} {ρ : Rho} : List.lookup x ((x, d) :: ρ) = some d := by
  rw [List.lookup_cons, show (x == x) = true from beq_self_eq_true x]

/-- storing under a name of the frame -/
theorem StE.store (x : StE c sc g ρ X s) {y : Str} {v : Value} {d : V} (r : Rw c g.W s.heap v d) (hk : sc.names.lookup y = some .local ∨ sc.names.lookup y = some .cell) {Q : Unit → Shared → Prop}
    (h : ∀ s', StE c sc g ((y, d) :: ρ) X s' → (∀ u e, Rw c g.W s.heap u e → Rw c g.W s'.heap u e) → (∀ a o, a ∉ own g → s.heap.get? a = some o → s'.heap.get? a = some o) → Q () s') : wpAny (model c.prog c.w) A (storeName g.env y v) Q nE s := by
  have hkf := x.fnk
  rcases hk with hk | hk
  · obtain ⟨m, hn⟩ := x.ns
    refine wpAny_storeName_local (x.kindOf hk) hn (fun h' hn' hs => ?_) (by rw [hkf]; rfl)
    have kb : ∀ a o, a ∉ own g → s.heap.get? a = some o → h'.get? a = some o := fun a o na e => hs.extBut a o (fun q => na (q ▸ .head _)) e
    have kW : ∀ a o, a ∉ g.W → s.heap.get? a = some o → a ∉ g.W ∧ h'.get? a = some o := fun a o na e => ⟨na, kb a o (fun m => na (x.ownW a m).1) e⟩
    have cellk : ∀ y a v, (y, a) ∈ g.env.cells → s.heap.IsCell a v → h'.IsCell a v := fun y a v hm hc => hc.sameBut hs (Ne.symm (ns_ne_cell hn hc))
    refine h _ ?_ (fun u e r => r.to kW) kb
    refine x.write (s' := { s with heap := h', toks := s.toks + 1 }) ⟨h', _, rfl⟩ kb ⟨_, hn'⟩ (fun z a e => let ⟨v, q⟩ := x.cell z a e; ⟨v, cellk z a v e q⟩) fun z e hz => ?_
    by_cases hzy : z = y
    · subst hzy
      rw [lookup_cons_eq] at hz; cases hz
      exact ⟨v, .inl ⟨x.kindOf hk, _, hn', if_pos rfl⟩, r.to kW⟩
    · rw [lookup_cons_ne hzy] at hz
      obtain ⟨u, hu, ru⟩ := x.vars z e hz
      refine ⟨u, ?_, ru.to kW⟩
      rcases hu with ⟨q, m', hm', e'⟩ | ⟨q, a, ha, hc⟩
      · refine .inl ⟨q, _, hn', ?_⟩
        show (if z = y then some v else m z) = some u
        rw [if_neg hzy]
        have : m z = m' z := by
          obtain ⟨o, es, ep, ho, hd, _, hf⟩ := hn
          obtain ⟨o', es', ep', ho', hd', _, hf'⟩ := hm'
          rw [ho] at ho'; cases ho'
          rw [hd] at hd'; cases hd'
          rw [← hf, ← hf']
        rw [this]; exact e'
      · exact .inr ⟨q, a, ha, cellk z a _ (mem_of_lookup ha) hc⟩
  · obtain ⟨a, ha⟩ := Option.isSome_iff_exists.mp (x.cells y hk)
    obtain ⟨m, hn⟩ := x.ns
    obtain ⟨v₀, hc⟩ := x.cell y a (mem_of_lookup ha)
    refine wpAny_storeName_cell hkf (x.kindOf hk) ha hc fun h' hc' hs => ?_
    have hown : a ∈ own g := List.mem_cons_of_mem _ (List.mem_map.mpr ⟨(y, a), mem_of_lookup ha, rfl⟩)
    have kb : ∀ b o, b ∉ own g → s.heap.get? b = some o → h'.get? b = some o := fun b o na e => hs.extBut b o (fun q => na (q ▸ hown)) e
    have kW : ∀ a o, a ∉ g.W → s.heap.get? a = some o → a ∉ g.W ∧ h'.get? a = some o := fun a o na e => ⟨na, kb a o (fun m => na (x.ownW a m).1) e⟩
    have hn' : h'.Ns g.env.locals m := hn.sameBut hs (ns_ne_cell hn hc)
    have cellk : ∀ z b v, (z, b) ∈ g.env.cells → z ≠ y → s.heap.IsCell b v → h'.IsCell b v := fun z b v hm hzy hcz => hcz.sameBut hs fun e => hzy (name_of_addr x.apart hm (e ▸ mem_of_lookup ha))
    refine h _ ?_ (fun u e r => r.to kW) kb
    refine x.write (s' := { s with heap := h' }) ⟨h', s.toks, rfl⟩ kb ⟨_, hn'⟩ (fun z b e => ?_) fun z e hz => ?_
    · by_cases hzb : b = a
      · subst hzb; exact ⟨_, hc'⟩
      · obtain ⟨v, q⟩ := x.cell z b e
        exact ⟨v, q.sameBut hs hzb⟩
    · by_cases hzy : z = y
      · subst hzy
        rw [lookup_cons_eq] at hz; cases hz
        exact ⟨v, .inr ⟨.inl (x.kindOf hk), a, ha, hc'⟩, r.to kW⟩
      · rw [lookup_cons_ne hzy] at hz
        obtain ⟨u, hu, ru⟩ := x.vars z e hz
        refine ⟨u, ?_, ru.to kW⟩
        rcases hu with ⟨q, m', hm', e'⟩ | ⟨q, b, hb, hcb⟩
        · exact .inl ⟨q, m', hm'.sameBut hs (ns_ne_cell hm' hc), e'⟩
        · exact .inr ⟨q, b, hb, cellk z b _ (mem_of_lookup hb) hzy hcb⟩

/-! statements -/
theorem x_nil {Q : Flow → Shared → Prop} (h : Q .next s) : wpAny (model c.prog c.w) A (execs [] g.env) Q nE s := wpAny_execs_nil h
/-- the name can be stored to -/
noncomputable def canStore (sc : Scope) (y : Str) : Prop := sc.names.lookup y = some .local ∨ sc.names.lookup y = some .cell
theorem x_asg {y : Str} {px pos : Pos} {e : Expr} {rest : List Stmt} {d : V} {Q : Flow → Shared → Prop} (he : EV c sc X n ρ e d) (R : RoomE A n) (x : StE c sc g ρ X s) (hk : canStore sc y)
    (h : ∀ s', StE c sc g ((y, d) :: ρ) X s' → wpAny (model c.prog c.w) A (execs rest g.env) Q nE s')
    (hs : ∀ env : Env, env.scope = sc → swapsWith e (some (.Name y px)) pos.line env = pure false := by intro _ _; rfl) : wpAny (model c.prog c.w) A (execs (.Assign [.Name y px] e pos :: rest) g.env) Q nE s :=
  wpAny_execs_cons (wpAny_Assign_Name (he.use R x fun v s₁ k₁ S₁ r₁ => S₁.store r₁ hk fun s₂ S₂ _ _ => h s₂ S₂) (hs _ x.scp))
theorem x_ret {pos : Pos} {e : Expr} {rest : List Stmt} {d : V} {Q : Flow → Shared → Prop} (he : EV c sc X n ρ e d) (R : RoomE A n) (x : StE c sc g ρ X s)
    (h : ∀ v s', StE c sc g ρ X s' → Rw c g.W s'.heap v d → Q (.ret v) s') : wpAny (model c.prog c.w) A (execs (.Return (some e) pos :: rest) g.env) Q nE s :=
  wpAny_execs_cons (wpAny_Return_some (he.use R x fun v s₁ k₁ S₁ r₁ => h v s₁ S₁ r₁))
theorem RetOk.mk {v : Value} {r : V} (x : StE c sc g ρ X s) (rr : Rw c g.W s.heap v r) : RetOk c g r (.ret v) s := ⟨v, .inl rfl, x.same, x.keep, rr⟩
theorem RetOk.fall (x : StE c sc g ρ X s) : RetOk c g (.d .none) .next s := ⟨.none, .inr ⟨rfl, rfl⟩, x.same, x.keep, .none⟩
theorem x_retOk {pos : Pos} {e : Expr} {rest : List Stmt} {d : V} (he : EV c sc X n ρ e d) (R : RoomE A n) (x : StE c sc g ρ X s) : wpAny (model c.prog c.w) A (execs (.Return (some e) pos :: rest) g.env) (RetOk c g d) nE s :=
  x_ret he R x fun _ _ S r => .mk S r
theorem x_ifT {t : Expr} {body els rest : List Stmt} {pos : Pos} {Q : Flow → Shared → Prop} (ht : TV c sc X n ρ t true) (R : RoomE A n) (x : StE c sc g ρ X s)
    (h : ∀ s', StE c sc g ρ X s' → wpAny (model c.prog c.w) A (execs body g.env) (fun f s' => match f with | .next => wpAny (model c.prog c.w) A (execs rest g.env) Q nE s' | f => Q f s') nE s') :
    wpAny (model c.prog c.w) A (execs (.If t body els pos :: rest) g.env) Q nE s :=
  wpAny_execs_cons (wpAny_If (ht.use R x fun s₁ k₁ S₁ => h s₁ S₁))
theorem x_ifF {t : Expr} {body els rest : List Stmt} {pos : Pos} {Q : Flow → Shared → Prop} (ht : TV c sc X n ρ t false) (R : RoomE A n) (x : StE c sc g ρ X s)
    (h : ∀ s', StE c sc g ρ X s' → wpAny (model c.prog c.w) A (execs els g.env) (fun f s' => match f with | .next => wpAny (model c.prog c.w) A (execs rest g.env) Q nE s' | f => Q f s') nE s') :
    wpAny (model c.prog c.w) A (execs (.If t body els pos :: rest) g.env) Q nE s :=
  wpAny_execs_cons (wpAny_If (ht.use R x fun s₁ k₁ S₁ => h s₁ S₁))

/-- a, b = (v, w) of two locals -/
theorem x_pair {a b : Str} {pa pb : Pos} {k k' : Nat} {tp vp pos : Pos} {e₁ e₂ : Expr} {rest : List Stmt} {d₁ d₂ : PyData} {Q : Flow → Shared → Prop} (h₁ : EV c sc X n ρ e₁ (.d d₁)) (h₂ : EV c sc X n ρ e₂ (.d d₂)) (R : RoomE A n) (x : StE c sc g ρ X s)
    (ka : canStore sc a) (kb : canStore sc b)
    (h : ∀ s', StE c sc g ((a, .d d₁) :: (b, .d d₂) :: ρ) X s' → wpAny (model c.prog c.w) A (execs rest g.env) Q nE s')
    (hw : ∀ env : Env, env.scope = sc → swappedStores [.Tuple [.Name a pa, .Name b pb] k tp] (.Tuple [e₁, e₂] k' vp) env = pure (some [a, b]))
    (hs : ∀ env : Env, swapsWithSole [.Tuple [.Name a pa, .Name b pb] k tp] (.Tuple [e₁, e₂] k' vp) pos.line env = pure false := by intro _; rfl)
    (he1 : ∀ rest env, starEach (e₁ :: rest) env = (false, eval e₁ env) :: starEach rest env := by intro _ _; rfl) (he2 : ∀ rest env, starEach (e₂ :: rest) env = (false, eval e₂ env) :: starEach rest env := by intro _ _; rfl) :
    wpAny (model c.prog c.w) A (execs (.Assign [.Tuple [.Name a pa, .Name b pb] k tp] (.Tuple [e₁, e₂] k' vp) pos :: rest) g.env) Q nE s := by
  refine wpAny_execs_cons (Assign_Tuple_swapped ?_ (hs _) (hw _ x.scp))
  refine (EV.tuple (ds := [d₁, d₂]) (EVs.cons h₁ (EVs.cons h₂ EVs.nil he2) he1)).use R x fun v s₁ k₁ S₁ r₁ => ?_
  obtain ⟨t, vs, rfl, ht, hn, rs⟩ := Rv.tuple_inv r₁
  have hsz : vs.size = 2 := rs.length
  show wpAny _ _ (unpackItems (.ref t) 2 none) _ _ _
  rw [← hsz]
  refine unpackItems_tuple R.c.hd ht fun h' kp => ?_
  have k2 : Kp s₁ { s₁ with heap := h' } := ⟨h', s₁.toks, rfl, fun a o e => kp a o (Nat.ne_of_lt (Heap.lt_size e)) e⟩
  have S₂ := S₁.exk k2
  obtain ⟨v₁, v₂, hv, r1, r2⟩ : ∃ v₁ v₂, vs.toList = [v₁, v₂] ∧ Rv g.W h' v₁ d₁ ∧ Rv g.W h' v₂ d₂ := by
    have rs' := rs.keep (keeps_sm k2).2
    generalize vs.toList = l at rs'
    cases rs' with
    | cons r1 r' => cases r' with
      | cons r2 r'' => cases r''; exact ⟨_, _, rfl, r1, r2⟩
  rw [hv]
  show wpAny _ _ (assignInOrder [bindName g.env b, bindName g.env a] [v₂, v₁]) _ _ _
  show wpAny _ _ (holding [v₁] (bindName g.env b v₂) >>= fun _ => assignInOrder [bindName g.env a] [v₁]) _ _ _
  refine wpAny_bind (wpAny_holding (wpAny_bindName (S₂.store (d := .d d₂) r2 kb fun s₃ S₃ q₃ _ => ?_)))
  show wpAny _ _ (holding [] (bindName g.env a v₁) >>= fun _ => assignInOrder [] []) _ _ _
  refine wpAny_bind (wpAny_holding (wpAny_bindName (S₃.store (d := .d d₁) (q₃ v₁ (.d d₁) r1) ka fun s₄ S₄ _ _ => ?_)))
  exact wpAny_pure (h s₄ S₄)
theorem x_while {t : Expr} {body rest : List Stmt} {pos : Pos} {Q : Flow → Shared → Prop} (μ : Nat) (R : RoomE A n) (I : Nat → Shared → Prop) (h0 : I μ s)
    (step : ∀ m s, I m s → wpAny (model c.prog c.w) A (isTrue t g.env (eval t g.env)) (fun b s₂ =>
        if b then wpAny (model c.prog c.w) A (execs body g.env) (fun f s₃ => f = .next ∧ ∃ m', m' < m ∧ I m' s₃) nE s₂
        else wpAny (model c.prog c.w) A (execs rest g.env) Q nE s₂) nE s) :
    wpAny (model c.prog c.w) A (execs (.While t body [] pos :: rest) g.env) Q nE s := by
  refine wpAny_execs_cons (wpAny_While (codeAny_whileLoop I (fun m s hI => wpAny_mono (step m s hI) (fun b s₂ h => ?_) fun _ _ h => h.elim) μ h0))
  cases b with
  | true =>
    simp only [if_true] at h ⊢
    exact wpAny_mono h (fun f s₃ h => by obtain ⟨rfl, h⟩ := h; exact h) fun _ _ h => h.elim
  | false =>
    simp only [Bool.false_eq_true, if_false] at h ⊢
    exact wpAny_execs_nil h
end
end Mine

namespace Mine
open PySem PySem.W PySem.Calls PyProof.Rows PySem.Spec

noncomputable def PIt (Gs : List (Value × V)) (ds : List PyData) (P : Nat → Value → Prop) : Prop := ∀ i v, i < ds.length → P i v → ∃ d, ds[i]? = some d ∧ ((v, V.d d) ∈ Gs ∨ ∃ k t, v = .int k t ∧ d = .int k)

structure ItOk (c : Cx) (A : Around) (g : Fm) (ds : List PyData) (s s₂ : Shared) (I : Addr) (fp wr : List Addr) (P : Nat → Value → Prop) (St : Nat → Heap → Prop) (Gs : List (Value × V)) : Prop where
  kp : Kp s s₂
  walks : Walks c.prog c.w A I fp wr ds.length P St
  st : St 0 s₂.heap
  fresh : ∀ b ∈ wr, s.heap.get? b = none ∧ c.base < b
  apart : ∀ b ∈ fp, b ∉ own g ∧ b ∉ g.M
  alive : ∀ i h, St i h → ∀ b ∈ fp, Alive h b
  gs : ∀ p ∈ Gs, Rw c (wr ++ g.W) s₂.heap p.1 p.2
  items : PIt Gs ds P

noncomputable def IT (c : Cx) (sc : Scope) (X : Res) (n : Nat) (ρ : Rho) (iter : Expr) (ds : List PyData) : Prop :=
  ∀ A g s, RoomE A n → StE c sc g ρ X s → wpAny (model c.prog c.w) A (eval iter g.env) (fun xv s₁ => wpAny (model c.prog c.w) A (pyIter xv) (fun it s₂ => ∃ I fp wr P St Gs, it = .ref I ∧ ItOk c A g ds s s₂ I fp wr P St Gs) nE s₁) nE s

noncomputable def rng (a : Int) (c : Int) (k : Nat) : List PyData := (List.range k).map fun (i : Nat) => .int (a + (i : Int) * c)
theorem rng_len (a c : Int) (k : Nat) : (rng a c k).length = k := by simp [rng]
theorem rng_at {a c : Int} {k i : Nat} (h : i < k) : (rng a c k)[i]? = some (.int (a + (i : Int) * c)) := by simp [rng, h]

section
variable {c : Cx} {sc : Scope} {X : Res} {n : Nat} {ρ : Rho} {A : Around} {g : Fm} {s : Shared}

theorem zip_reads {W : List Addr} {h : Heap} {vs : List Value} {ds : List PyData} (r : Rvs W h vs ds) : ∀ p ∈ vs.zip (ds.map V.d), Rw c W h p.1 p.2 :=
  r.ind (P := fun vs ds => ∀ p ∈ vs.zip (ds.map V.d), Rw c W h p.1 p.2) fm0 fun {v vs d ds} r _ ih => fm (l := vs.zip (ds.map V.d)) (a := (v, V.d d)) r ih
theorem zip_mem {vs : List Value} {ds : List PyData} {i : Nat} {v : Value} {d : PyData} (h : vs[i]? = some v) (h' : ds[i]? = some d) : (v, V.d d) ∈ vs.zip (ds.map V.d) :=
  List.mem_of_getElem? (i := i) (by rw [List.getElem?_zip_eq_some]; exact ⟨h, by rw [List.getElem?_map, h']; rfl⟩)
theorem dead_at {h : Heap} {a : Addr} (ha : h.objs.size ≤ a) : h.get? a = none := by
  cases e : h.get? a with
  | none => rfl
  | some o' => exact absurd (Heap.lt_size e) (Nat.not_lt.mpr ha)
theorem fresh_at {s₁ : Shared} (S₁ : StE c sc g ρ X s₁) (k : Kp s s₁) : s.heap.get? s₁.heap.objs.size = none ∧ c.base < s₁.heap.objs.size := by
  constructor
  · cases e : s.heap.get? s₁.heap.objs.size with
    | none => rfl
    | some o' => exact absurd (Heap.lt_size ((keeps_sm k).2 _ _ e)) (Nat.lt_irrefl _)
  · obtain ⟨o, e⟩ := S₁.wd'.base
    exact Heap.lt_size e
theorem typ_call {x : Str} {px pos : Pos} {T : String} {e : Expr} {es : List Expr} {ds : List V} {Q : Value → Shared → Prop} (ha : EVs c sc X n ρ (e :: es) ds) (R : RoomE A n) (S : StE c sc g ρ X s) (hg : c.gv x = some (.type T))
    (h : ∀ s' vs, Kp s s' → StE c sc g ρ X s' → Rws c g.W s'.heap vs ds → wpAny (model c.prog c.w) A (PySem.call (.type T) vs) Q nE s')
    (hk : sc.names.lookup x = some .globalImplicit) (hd : (x == ("__debug__" : Str)) = false)
    (he : ∀ rest env, starEach (e :: rest) env = (false, eval e env) :: starEach rest env)
    (hp : ∀ pos env, (backTo pos (starEach es env)).any (·.1) = false) : wpAny (model c.prog c.w) A (eval (.Call (.Name x px) (e :: es) [] pos) g.env) Q nE s := by
  refine wpAny_Call_NameR ((EV.glob hg hk hd).use R S fun v s₁ k₁ S₁ r₁ => ?_)
  obtain rfl : v = .type T := r₁
  have main := ha.use (pos := pos) R S₁ (Q := fun vs s₂ => wpAny (model c.prog c.w) A (PySem.call (.type T) vs) Q nE s₂) fun vs s₂ k₂ S₂ r₂ => h s₂ vs (k₁.tr k₂) S₂ r₂
  rw [he] at main ⊢
  exact PyProof.Rows.callWith_type (by show (false || (backTo pos (starEach es g.env)).any (·.1)) = false; rw [hp]; rfl) (evalArgs_plain main)

theorem range_it {s₁ : Shared} {a b st : Int} {t u v : Tok} {r : Addr} {k : Nat} (R : RoomE A n) (k₁ : Kp s s₁) (S₁ : StE c sc g ρ X s₁) (hr : IsRange s₁.heap r a b st t u v) (hsm : Builtin.Range.small a b st = true) (hsz : Builtin.Range.rangeSize a b st = (k : Int)) :
    wpAny (model c.prog c.w) A (pyIter (.ref r)) (fun it s₂ => ∃ I fp wr P St Gs, it = .ref I ∧ ItOk c A g (rng a st k) s s₂ I fp wr P St Gs) nE s₁ := by
  refine wpAny_pyIter_range hr hsm ?_
  have kp : Kp s₁ { s₁ with heap := s₁.heap.push { cls := .type "range_iterator", data := .fields #[rawInt a, rawInt (Builtin.Range.rangeSize a b st), rawInt st] } } := Kp.push s₁ _ s₁.toks
  have W := Walks.range (prog := c.prog) (w := c.w) R.c.hd s₁.heap.objs.size a st k
  rw [← rng_len a st k] at W
  refine ⟨s₁.heap.objs.size, _, _, _, _, [], rfl, ⟨k₁.tr kp, W, ?_, ?_, ?_, ?_, fun p hp => (nomatch hp), ?_⟩⟩
  · have e1 : a + ((0 : Nat) : Int) * st = a := by simp
    have e2 : (((rng a st k).length : Nat) : Int) - ((0 : Nat) : Int) = Builtin.Range.rangeSize a b st := by rw [hsz, rng_len]; simp
    rw [e1, e2]
    exact Heap.get?_push_size _ rfl
  · intro b hb
    rw [List.mem_singleton.mp hb]
    exact fresh_at S₁ k₁
  · intro b hb
    rw [List.mem_singleton.mp hb]
    exact ⟨fun m => S₁.fresh (S₁.ownW _ m).1, fun m => S₁.fresh (S₁.memW _ m)⟩
  · intro i h st' b hb
    rw [List.mem_singleton.mp hb]
    exact ⟨_, st'⟩
  · rintro i v hi ⟨t, rfl⟩
    rw [rng_len] at hi
    exact ⟨_, rng_at hi, .inr ⟨_, t, rfl, rfl⟩⟩
theorem IT.list {e : Expr} {ds : List PyData} (h : EV c sc X n ρ e (.d (.list ds))) : IT c sc X n ρ e ds := by
  intro A g s R x
  refine h.use R x fun v s₁ k₁ S₁ r₁ => ?_
  obtain ⟨l, vs, rfl, hl, hn, rs⟩ := Rv.list_inv r₁
  have hsz : vs.size = ds.length := rs.length
  refine wpAny_pyIter_list hl ?_
  have kp : Kp s₁ { s₁ with heap := s₁.heap.push { cls := .type "list_iterator", data := .fields #[.ref l, .int 0 0] } } := Kp.push s₁ _ s₁.toks
  have hne : l ≠ s₁.heap.objs.size := by obtain ⟨o, ho, _⟩ := hl; exact Nat.ne_of_lt (Heap.lt_size ho)
  have W := Walks.list (prog := c.prog) (w := c.w) R.c.hd s₁.heap.objs.size l hne vs
  rw [hsz] at W
  refine ⟨s₁.heap.objs.size, _, _, _, _, vs.toList.zip (ds.map V.d), rfl, ⟨k₁.tr kp, W, ⟨⟨_, Heap.get?_push_size _ rfl, rfl, rfl⟩, hl.push _⟩, ?_, ?_, ?_, ?_, ?_⟩⟩
  · intro b hb
    rw [List.mem_singleton.mp hb]
    exact fresh_at S₁ k₁
  · exact fm ⟨fun m => S₁.fresh (S₁.ownW _ m).1, fun m => S₁.fresh (S₁.memW _ m)⟩ (fm ⟨fun m => hn (S₁.ownW _ m).1, fun m => hn (S₁.memW _ m)⟩ fm0)
  · exact fun i h st => fm (st.1.imp fun _ e => e.1) (fm (st.2.imp fun _ e => e.1) fm0)
  · have rs' : Rvs ([s₁.heap.objs.size] ++ g.W) s₁.heap vs.toList ds := rs.to fun a o na e => ⟨fun m => fm (l := g.W) (a := s₁.heap.objs.size) (P := fun b => b ≠ a) (Nat.ne_of_gt (Heap.lt_size e)) (fun b m q => na (q ▸ m)) a m rfl, e⟩
    exact fun p hp => zip_reads (rs'.keep (keeps_sm kp).2) p hp
  · intro i v _ hv
    have hv' : vs.toList[i]? = some v := by simpa using hv
    obtain ⟨d, hd, _⟩ := rs.at' hv'
    exact ⟨d, hd, .inl (zip_mem hv' hd)⟩

theorem size_up (k : Nat) : Builtin.Range.rangeSize 0 (k : Int) 1 = (k : Int) := by rw [rangeSize_one]; split <;> (first | lia | omega)
theorem size_up2 {a b : Int} {k : Nat} (h : k = (b - a).toNat) : Builtin.Range.rangeSize a b 1 = (k : Int) := by rw [rangeSize_one]; split <;> (first | lia | omega)
theorem small_up {a b : Int} (ha : 0 ≤ a) (ha' : a < 2 ^ 60) (hb : 0 ≤ b) (hb' : b < 2 ^ 60) : Builtin.Range.small a b 1 = true := small_one (by (first | lia | omega)) (by (first | lia | omega)) (by (first | lia | omega)) (by (first | lia | omega))
theorem range_small1 {b : Int} (h : b < 2 ^ 60) (h' : -(2 ^ 60) < b) : Builtin.Range.small 0 b 1 = true := small_one (by decide) (by decide) (by (first | lia | omega)) (by (first | lia | omega))
/-- range(e) -/
theorem IT.range1 {px pos : Pos} {e : Expr} {k : Nat} (h : EV c sc X n ρ e (.d (.int k))) (hz : k < 2 ^ 60) (hg : c.gv "range" = some (.type "range"))
    (hk : sc.names.lookup ("range" : Str) = some .globalImplicit := by rfl) (he : ∀ rest env, starEach (e :: rest) env = (false, eval e env) :: starEach rest env := by intro _ _; rfl) : IT c sc X n ρ (.Call (.Name "range" px) [e] [] pos) (rng 0 1 k) := by
  intro A g s R x
  refine typ_call (EVs.cons h EVs.nil he) R x hg (fun s₁ vs k₁ S₁ r₁ => ?_) hk (by rfl) he (by intro _ _; rfl)
  replace r₁ := r₁.one
  obtain ⟨_, rfl, r⟩ := r₁
  obtain ⟨t, rfl⟩ := Rv.int_inv r
  refine call_range_1 ?_
  have kp : Kp s₁ { s₁ with heap := s₁.heap.push { cls := .type "range", data := .fields #[.int 0 s₁.toks, .int k t, .int 1 (s₁.toks + 1)] }, toks := s₁.toks + 1 + 1 } := Kp.push s₁ _ _
  refine range_it R (k₁.tr kp) (S₁.exk kp) (IsRange.new ..) (range_small1 (Int.lt_of_lt_of_le (Int.ofNat_lt.mpr hz) (by decide)) (Int.lt_of_lt_of_le (by decide) (Int.natCast_nonneg k))) (size_up k)
/-- range(a, b) -/
theorem IT.range2 {px pos : Pos} {e e' : Expr} {a b : Int} {k : Nat} (h : EV c sc X n ρ e (.d (.int a))) (h' : EV c sc X n ρ e' (.d (.int b))) (ha : 0 ≤ a) (ha' : a < 2 ^ 60) (hb : 0 ≤ b) (hb' : b < 2 ^ 60) (hk' : k = (b - a).toNat) (hg : c.gv "range" = some (.type "range"))
    (hk : sc.names.lookup ("range" : Str) = some .globalImplicit := by rfl) (he : ∀ rest env, starEach (e :: rest) env = (false, eval e env) :: starEach rest env := by intro _ _; rfl) (he' : ∀ rest env, starEach (e' :: rest) env = (false, eval e' env) :: starEach rest env := by intro _ _; rfl)
    (hp : ∀ pos env, (backTo pos (starEach [e'] env)).any (·.1) = false := by intro _ _; rfl) : IT c sc X n ρ (.Call (.Name "range" px) [e, e'] [] pos) (rng a 1 k) := by
  intro A g s R x
  refine typ_call (EVs.cons h (EVs.cons h' EVs.nil he') he) R x hg (fun s₁ vs k₁ S₁ r₁ => ?_) hk (by rfl) he hp
  replace r₁ := r₁.two
  obtain ⟨_, _, rfl, r, r₂⟩ := r₁
  obtain ⟨t, rfl⟩ := Rv.int_inv r
  obtain ⟨u, rfl⟩ := Rv.int_inv r₂
  refine call_range_2 ?_
  have kp : Kp s₁ { s₁ with heap := s₁.heap.push { cls := .type "range", data := .fields #[.int a t, .int b u, .int 1 s₁.toks] }, toks := s₁.toks + 1 } := Kp.push s₁ _ _
  refine range_it R (k₁.tr kp) (S₁.exk kp) (IsRange.new ..) (small_up ha ha' hb hb') (size_up2 hk')
theorem size_down : ∀ k : Nat, k < 5 → Builtin.Range.rangeSize ((k : Int) - 1) (-1) (-1) = (k : Int) := by decide
theorem small_down : ∀ k : Nat, k < 5 → Builtin.Range.small ((k : Int) - 1) (-1) (-1) = true := by decide
/-- range(a, -1, -1) -/
theorem IT.rangeDown {px pos : Pos} {e e' e'' : Expr} {a : Int} {k : Nat} (h : EV c sc X n ρ e (.d (.int a))) (h' : EV c sc X n ρ e' (.d (.int (-1)))) (h'' : EV c sc X n ρ e'' (.d (.int (-1)))) (ha : a = (k : Int) - 1) (ha' : k < 5) (hg : c.gv "range" = some (.type "range"))
    (hk : sc.names.lookup ("range" : Str) = some .globalImplicit := by rfl) (he : ∀ rest env, starEach (e :: rest) env = (false, eval e env) :: starEach rest env := by intro _ _; rfl) (he' : ∀ rest env, starEach (e' :: rest) env = (false, eval e' env) :: starEach rest env := by intro _ _; rfl) (he'' : ∀ rest env, starEach (e'' :: rest) env = (false, eval e'' env) :: starEach rest env := by intro _ _; rfl)
    (hp : ∀ pos env, (backTo pos (starEach [e', e''] env)).any (·.1) = false := by intro _ _; rfl) : IT c sc X n ρ (.Call (.Name "range" px) [e, e', e''] [] pos) (rng a (-1) k) := by
  intro A g s R x
  refine typ_call (EVs.cons h (EVs.cons h' (EVs.cons h'' EVs.nil he'') he') he) R x hg (fun s₁ vs k₁ S₁ r₁ => ?_) hk (by rfl) he hp
  replace r₁ := r₁.three
  obtain ⟨_, _, _, rfl, r, r₂, r₃⟩ := r₁
  obtain ⟨t, rfl⟩ := Rv.int_inv r
  obtain ⟨u, rfl⟩ := Rv.int_inv r₂
  obtain ⟨v, rfl⟩ := Rv.int_inv r₃
  refine call_range_3 (by decide) ?_ (.inl (PyProof.noPylong_small (by decide)))
  have kp : Kp s₁ { s₁ with heap := s₁.heap.push { cls := .type "range", data := .fields #[.int a t, .int (-1) u, .int (-1) v] }, toks := s₁.toks } := Kp.push s₁ _ _
  refine range_it R (k₁.tr kp) (S₁.exk kp) (IsRange.new ..) (ha ▸ small_down k ha') (ha ▸ size_down k ha')

/-! the loop -/
noncomputable def gV (g : Fm) (wr : List Addr) (Gs : List (Value × V)) : Fm := { g with W := wr ++ g.W, G := Gs ++ g.G }
noncomputable def gT (g : Fm) (wr fp : List Addr) (St : Heap → Prop) (Gs : List (Value × V)) : Fm := { g with W := wr ++ g.W, T := fun h => g.T h ∧ St h, fp := fp ++ g.fp, G := Gs ++ g.G }

theorem Rw.less {W W' : List Addr} {h : Heap} {v : Value} {d : V} (r : Rw c W' h v d) (k : ∀ a ∈ W, a ∈ W') : Rw c W h v d := r.to fun a o n e => ⟨fun m => n (k a m), e⟩

/-- more places to keep clear of: new ones -/
theorem StE.widen {s₂ : Shared} (x : StE c sc g ρ X s) {wr : List Addr} {Gs : List (Value × V)} (k : Kp s s₂) (hfr : ∀ b ∈ wr, s.heap.get? b = none ∧ c.base < b) (hal : ∀ b ∈ wr, Alive s₂.heap b) (hG : ∀ p ∈ Gs, Rw c (wr ++ g.W) s₂.heap p.1 p.2) :
    StE c sc (gV g wr Gs) ρ X s₂ := by
  have y := x.exk k
  have kW : ∀ a o, a ∉ g.W → s.heap.get? a = some o → a ∉ wr ++ g.W ∧ s₂.heap.get? a = some o := fun a o na e => ⟨fun m => by
    rcases List.mem_append.mp m with m | m
    · rw [(hfr a m).1] at e; cases e
    · exact na m, (keeps_sm k).2 a o e⟩
  exact { scp := y.scp, kind := y.kind, glb := y.glb, blt := y.blt, same := y.same, keep := y.keep, wd := y.wd, ns := y.ns, cell := y.cell, apart := y.apart, cells := y.cells
          ownW := fun a m => ⟨List.mem_append_right _ (y.ownW a m).1, (y.ownW a m).2⟩
          memW := fun a m => List.mem_append_right _ (y.memW a m), newW := y.newW, newM := y.newM
          alive := fun a m => by
            rcases List.mem_append.mp m with m | m
            · exact ⟨hal a m, (hfr a m).2⟩
            · exact y.alive a m
          vars := fun z d e => let ⟨v, q, r⟩ := x.vars z d e; ⟨v, q.keep fun a _ o e => (keeps_sm k).2 a o e, r.to kW⟩
          res := ⟨fun a ds m => ⟨(x.res.ls a ds m).1, (x.res.ls a ds m).2.to kW fun o e => (keeps_sm k).2 a o e⟩,
            fun a dd fs m => let ⟨h1, h2, h5⟩ := x.res.os a dd fs m; ⟨h1, fun q => by
              rcases List.mem_append.mp q with q | q
              · have := (hfr a q).1; rw [h5.1] at this; cases this
              · exact h2 q, h5.to kW (fun o e => (keeps_sm k).2 a o e) fun o e => (keeps_sm k).2 dd o e⟩, x.res.apart⟩
          tmp := y.tmp, tmpSt := y.tmpSt, tmpW := y.tmpW
          gho := fun p m => by
            rcases List.mem_append.mp m with m | m
            · exact hG p m
            · exact (x.gho p m).to kW }
/-- fewer places to keep clear of -/
theorem StE.addT {wr fp : List Addr} {St : Heap → Prop} {Gs : List (Value × V)} (x : StE c sc (gV g wr Gs) ρ X s) (hap : ∀ b ∈ fp, b ∉ own g ∧ b ∉ g.M) (hal : ∀ b ∈ fp, Alive s.heap b) (hst : St s.heap)
    (hst' : ∀ h h', St h → (∀ b ∈ fp, ∀ o, h.get? b = some o → h'.get? b = some o) → St h') : StE c sc (gT g wr fp St Gs) ρ X s :=
  { scp := x.scp, kind := x.kind, glb := x.glb, blt := x.blt, same := x.same, keep := x.keep, wd := x.wd, ns := x.ns, cell := x.cell, apart := x.apart, cells := x.cells
    ownW := x.ownW, memW := x.memW, newW := x.newW, newM := x.newM, alive := x.alive, vars := x.vars
    res := ⟨x.res.ls, x.res.os, x.res.apart⟩
    tmp := ⟨x.tmp, hst⟩
    tmpSt := fun h h' t k => ⟨x.tmpSt h h' t.1 fun b m o e => k b (List.mem_append_right _ m) o e, hst' h h' t.2 fun b m o e => k b (List.mem_append_left _ m) o e⟩
    tmpW := fun b m => by
      rcases List.mem_append.mp m with m | m
      · exact ⟨(hap b m).1, (hap b m).2, hal b m⟩
      · exact x.tmpW b m
    gho := x.gho }
theorem StE.dropT {s₂ : Shared} (x₀ : StE c sc g ρ X s) {ρ' : Rho} {X' : Res} {wr fp : List Addr} {St : Heap → Prop} {Gs : List (Value × V)} (x : StE c sc (gT g wr fp St Gs) ρ' X' s₂) : StE c sc (gV g wr Gs) ρ' X' s₂ :=
  { scp := x.scp, kind := x.kind, glb := x.glb, blt := x.blt, same := x.same, keep := x.keep, wd := x.wd, ns := x.ns, cell := x.cell, apart := x.apart, cells := x.cells
    ownW := x.ownW, memW := x.memW, newW := x.newW, newM := x.newM, alive := x.alive, vars := x.vars
    res := ⟨x.res.ls, x.res.os, x.res.apart⟩
    tmp := x.tmp.1, tmpSt := x₀.tmpSt
    tmpW := fun b m => x.tmpW b (List.mem_append_right _ m)
    gho := x.gho }

/-- the loop's iterator is done with -/
theorem StE.leave {s₂ s₃ : Shared} (x₀ : StE c sc g ρ X s) {ρ' : Rho} {X' : Res} {wr : List Addr} {Gs : List (Value × V)} (x : StE c sc (gV g wr Gs) ρ' X' s₂) (hfr : ∀ b ∈ wr, s.heap.get? b = none) (hs : Sm s₂ s₃)
    (k : ∀ a o, a ∉ wr → s₂.heap.get? a = some o → s₃.heap.get? a = some o) : StE c sc g ρ' X' s₃ := by
  have kW : ∀ a o, a ∉ wr ++ g.W → s₂.heap.get? a = some o → a ∉ g.W ∧ s₃.heap.get? a = some o := fun a o n e => ⟨fun m => n (List.mem_append_right _ m), k a o (fun m => n (List.mem_append_left _ m)) e⟩
  have live : ∀ a, Alive s.heap a → a ∉ wr := fun a ⟨o, e⟩ m => by rw [hfr a m] at e; cases e
  have kO : ∀ a ∈ own g, ∀ o, s₂.heap.get? a = some o → s₃.heap.get? a = some o := fun a m o e => k a o (live a (x₀.alive a (x₀.ownW a m).1).1) e
  have kM : ∀ a ∈ g.M, ∀ o, s₂.heap.get? a = some o → s₃.heap.get? a = some o := fun a m o e => k a o (live a (x₀.alive a (x₀.memW a m)).1) e
  exact { scp := x.scp, kind := x.kind, glb := x.glb, blt := x.blt, same := x.same.trans hs
          keep := fun a o e => k a o (live a ⟨o, x₀.keep a o e⟩) (x.keep a o e)
          wd := x.wd
          ns := let ⟨m, e⟩ := x.ns; ⟨m, e.at' (kO _ (.head _))⟩
          cell := fun n a e => let ⟨v, o, h1, h2⟩ := x.cell n a e; ⟨v, o, kO a (List.mem_cons_of_mem _ (List.mem_map.mpr ⟨(n, a), e, rfl⟩)) o h1, h2⟩
          apart := x.apart, cells := x.cells, ownW := x₀.ownW, memW := x₀.memW, newW := x.newW, newM := x.newM
          alive := fun a m => by
            obtain ⟨⟨o, e⟩, b⟩ := x.alive a (List.mem_append_right _ m)
            exact ⟨⟨o, k a o (live a (x₀.alive a m).1) e⟩, b⟩
          vars := fun y d e => let ⟨v, a, b⟩ := x.vars y d e; ⟨v, Slot'.keep (g := g) a kO, b.to kW⟩
          res := ⟨fun a ds m => ⟨(x.res.ls a ds m).1, (x.res.ls a ds m).2.to kW (kM a (x.res.ls a ds m).1)⟩, fun a dd fs m => let ⟨h1, h2, h5⟩ := x.res.os a dd fs m; ⟨h1, fun q => h2 (List.mem_append_right _ q), h5.to kW (fun o e => (kW a o h2 e).2) (kM dd h1)⟩, x.res.apart⟩
          tmp := x.tmpSt _ _ x.tmp fun b m o e => k b o (live b (x₀.tmpW b m).2.2) e
          tmpSt := x.tmpSt
          tmpW := fun b m => ⟨(x₀.tmpW b m).1, (x₀.tmpW b m).2.1, let ⟨o, e⟩ := (x.tmpW b m).2.2; ⟨o, k b o (live b (x₀.tmpW b m).2.2) e⟩⟩
          gho := fun p m => (x.gho p (List.mem_append_right _ m)).to kW }

theorem x_for {y : Str} {py pos : Pos} {iter : Expr} {body rest : List Stmt} {ds : List PyData} {Q : Flow → Shared → Prop} (hit : IT c sc X n ρ iter ds) (R : RoomE A n) (x : StE c sc g ρ X s) (ky : canStore sc y)
    (ρ' : Nat → Rho) (X' : Nat → Res) (h0 : Sub (ρ' 0) ρ) (hX : X' 0 = X)
    (step : ∀ i d, ds[i]? = some d → ∀ g' s', g'.env = g.env → g'.s0 = g.s0 → g'.M = g.M → (∀ a ∈ g.W, a ∈ g'.W) → StE c sc g' ((y, .d d) :: ρ' i) (X' i) s' →
      wpAny (model c.prog c.w) A (execs body g'.env) (fun f s'' => f = .next ∧ StE c sc g' (ρ' (i + 1)) (X' (i + 1)) s'') nE s')
    (after : ∀ s', StE c sc g (ρ' ds.length) (X' ds.length) s' → wpAny (model c.prog c.w) A (execs rest g.env) Q nE s')
    (hs : ∀ env x, foldedSetIterable iter env x = pure x := by intro _ _; rfl) : wpAny (model c.prog c.w) A (execs (.For (.Name y py) iter body [] pos :: rest) g.env) Q nE s := by
  refine wpAny_execs_cons (wpAny_For (wpAny_mono (hit A g s R x) (fun xv s₁ h₁ => wpAny_mono h₁ (fun it s₂ h₂ => ?_) fun _ _ h => h.elim) fun _ _ h => h.elim) (hs _))
  obtain ⟨I, fp, wr, P, St, Gs, rfl, z⟩ := h₂
  have hwf : ∀ b ∈ wr, b ∈ fp := z.walks.sub
  have hwa : ∀ i h, St i h → ∀ b ∈ wr, Alive h b := fun i h st b m => z.alive i h st b (hwf b m)
  have x₂ : StE c sc (gV g wr Gs) ρ X s₂ := x.widen z.kp z.fresh (hwa 0 _ z.st) z.gs
  have x₃ : StE c sc (gV g wr Gs) (ρ' 0) (X' 0) s₂ := hX ▸ x₂.sub h0
  refine codeAny_forLoop (fun m s' => ∃ i, i ≤ ds.length ∧ m = ds.length - i ∧ StE c sc (gV g wr Gs) (ρ' i) (X' i) s' ∧ St i s'.heap) (fun m s' hI => ?_) ds.length ⟨0, Nat.zero_le _, rfl, x₃, z.st⟩
  obtain ⟨i, hi, rfl, xi, sti⟩ := hI
  have noise : ∀ (h' : Heap) (tk : Nat), (∀ b o, b ∉ wr → s'.heap.get? b = some o → h'.get? b = some o) → (∀ b ∈ wr, Alive h' b) → StE c sc (gV g wr Gs) (ρ' i) (X' i) { s' with heap := h', toks := tk } := by
    intro h' tk hk hal
    refine xi.noise (s' := { s' with heap := h', toks := tk }) ⟨h', tk, rfl⟩ (N := wr) (fun a m => ⟨List.mem_append_left _ m, fun q => ?_, fun q => ?_, fun q => ?_, ?_⟩) hk hal
    · obtain ⟨o, e⟩ := (x.alive a (x.ownW a q).1).1; rw [(z.fresh a m).1] at e; cases e
    · obtain ⟨o, e⟩ := (x.alive a (x.memW a q)).1; rw [(z.fresh a m).1] at e; cases e
    · obtain ⟨o, e⟩ := (x.tmpW a q).2.2; rw [(z.fresh a m).1] at e; cases e
    · cases e : g.s0.heap.get? a with
      | none => exact e
      | some o => have := x.keep a o e; rw [(z.fresh a m).1] at this; cases this
  by_cases hlt : i < ds.length
  · refine z.walks.item i s' _ _ hlt sti fun v h₁ tk hP st₁ hk => ?_
    obtain ⟨d, hd, hgd⟩ := z.items i v hlt hP
    have x₄ := noise h₁ tk hk (hwa _ _ st₁)
    have x₅ : StE c sc (gT g wr fp (St (i + 1)) Gs) (ρ' i) (X' i) { s' with heap := h₁, toks := tk } := x₄.addT z.apart (z.alive _ _ st₁) st₁ fun h h' a b => z.walks.frame _ _ _ a b
    have rv : Rw c (wr ++ g.W) h₁ v (.d d) := by
      rcases hgd with m | ⟨k, t, rfl, rfl⟩
      · exact x₅.gho (v, .d d) (List.mem_append_left _ m)
      · exact Rv.int _ _
    dsimp only
    refine wpAny_assign_Name (wpAny_mono (x₅.store (Q := fun _ s₃ => StE c sc (gT g wr fp (St (i + 1)) Gs) ((y, .d d) :: ρ' i) (X' i) s₃) rv ky fun s₃ x₆ _ _ => x₆) (fun _ s₃ x₆ => ?_) fun _ _ h => h.elim)
    refine wpAny_mono (step i d hd (gT g wr fp (St (i + 1)) Gs) s₃ rfl rfl rfl (fun a m => List.mem_append_right _ m) x₆) (fun f s₄ h₄ => ?_) fun _ _ h => h.elim
    obtain ⟨rfl, x₇⟩ := h₄
    exact ⟨ds.length - (i + 1), by (first | lia | omega), i + 1, hlt, rfl, x.dropT x₇, x₇.tmp.2⟩
  · have hin : i = ds.length := by (first | lia | omega)
    subst hin
    refine z.walks.done s' _ _ sti fun h₁ tk hk => ?_
    exact wpAny_execs_nil (after _ (x.leave xi (fun b m => (z.fresh b m).1) ⟨h₁, tk, rfl⟩ fun a o m e => hk a o m e))
end
end Mine

namespace Mine
open PySem PySem.W PySem.Calls PyProof.Rows PySem.Spec

noncomputable def rl (sc : Scope) (p : Str × NameKind) : Str × NameKind := if (p.2 == .free && sc.kind == .function && sc.names.lookup p.1 == some .cell) then (p.1, .cell) else (p.1, p.2)
noncomputable def relabelS (scope sc : Scope) : Scope := { scope with names := scope.names.map (rl sc) }
theorem relabel_eq (scope : Scope) (env : Env) : relabel scope env = relabelS scope env.scope := by
  unfold relabel relabelS
  congr 1

noncomputable def clOf (env : Env) : List (Str × NameKind) → List (Str × Addr) → List (Str × Addr)
  | [], acc => acc
  | (n, k) :: r, acc => if k == .free then clOf env r ((n, (env.cells.lookup n).getD 0) :: acc) else clOf env r acc

/-- by the names, one after the other -/
theorem clOf_ind {env : Env} {P : List (Str × NameKind) → List (Str × Addr) → List (Str × Addr) → Prop} (nil : ∀ acc, P [] acc acc)
    (free : ∀ {n : Str} {r : List (Str × NameKind)} {acc res : List (Str × Addr)}, P r ((n, (env.cells.lookup n).getD 0) :: acc) res → P ((n, .free) :: r) acc res)
    (other : ∀ {n : Str} {k : NameKind} {r : List (Str × NameKind)} {acc res : List (Str × Addr)}, k ≠ .free → P r acc res → P ((n, k) :: r) acc res) : ∀ names acc, P names acc (clOf env names acc) :=
  fun names => List.rec (motive := fun names => ∀ acc, P names acc (clOf env names acc)) nil (fun p r ih acc => by
    obtain ⟨n, k⟩ := p
    by_cases h : k = .free
    · subst h; exact free (ih _)
    · have e : clOf env ((n, k) :: r) acc = clOf env r acc := if_neg fun q => h (beq_iff_eq.mp q)
      exact e ▸ other h (ih acc)) names
theorem mem_lookup {β : Type} {k : Str} {v : β} {l : List (Str × β)} : (l.map (·.1)).Nodup → (k, v) ∈ l → l.lookup k = some v :=
  List.rec (motive := fun l => (l.map (·.1)).Nodup → (k, v) ∈ l → l.lookup k = some v) (fun _ h => nomatch h) (fun p r ih hn h =>
    (List.mem_cons.mp h).elim (fun e => e ▸ List.lookup_cons_self) fun h => (lk_ne (d := p.2) (show k ≠ p.1 from fun e => (List.nodup_cons.mp hn).1 (show p.1 ∈ r.map (·.1) from e ▸ List.mem_map.mpr ⟨(k, v), h, rfl⟩))).trans (ih (List.nodup_cons.mp hn).2 h)) l
theorem lookup_nodup {x : Str} {k : NameKind} {names : List (Str × NameKind)} (hn : (names.map (·.1)).Nodup) (h : names.lookup x = some k) (p : Str × NameKind) (hp : p ∈ names) (e : p.1 = x) : p.2 = k :=
  Option.some.inj ((mem_lookup hn hp).symm.trans (e ▸ h))

theorem closure_go {env : Env} (names : List (Str × NameKind)) (acc : List (Str × Addr)) : (∀ p ∈ names, p.2 = .free → (env.cells.lookup p.1).isSome = true) →
    (forIn names acc fun (p : Str × NameKind) (r : List (Str × Addr)) => (if (p.2 == NameKind.free) = true then do let a ← cellOf env p.1; pure (ForInStep.yield ((p.1, a) :: r)) else pure (ForInStep.yield r) : Sem (ForInStep (List (Str × Addr))))) = pure (clOf env names acc) :=
  clOf_ind (P := fun names acc res => (∀ p ∈ names, p.2 = .free → (env.cells.lookup p.1).isSome = true) →
    (forIn names acc fun (p : Str × NameKind) (r : List (Str × Addr)) => (if (p.2 == NameKind.free) = true then do let a ← cellOf env p.1; pure (ForInStep.yield ((p.1, a) :: r)) else pure (ForInStep.yield r) : Sem (ForInStep (List (Str × Addr))))) = pure res)
    (fun _ _ => List.forIn_nil) (fun {n r acc res} ih h => by
      obtain ⟨a, ha⟩ := Option.isSome_iff_exists.mp (h (n, .free) (.head _) rfl)
      have hc : cellOf env n = pure a := by unfold cellOf; rw [show env.cells.lookup n = some a from ha]
      have ih := ih fun p hp => h p (List.mem_cons_of_mem _ hp)
      rw [show env.cells.lookup n = some a from ha] at ih
      rw [List.forIn_cons, if_pos (beq_self_eq_true _), hc]
      exact ih) (fun hk ih h => by
      rw [List.forIn_cons, if_neg fun q => hk (beq_iff_eq.mp q)]
      exact ih fun p hp => h p (List.mem_cons_of_mem _ hp)) names acc
theorem closure_of {scope : Scope} {env : Env} (h : ∀ p ∈ scope.names, p.2 = .free → (env.cells.lookup p.1).isSome = true) : closureFor scope env = pure (clOf env scope.names []) := by
  have e : closureFor scope env = (forIn scope.names ([] : List (Str × Addr)) fun (p : Str × NameKind) (r : List (Str × Addr)) => (if (p.2 == NameKind.free) = true then do let a ← cellOf env p.1; pure (ForInStep.yield ((p.1, a) :: r)) else pure (ForInStep.yield r) : Sem (ForInStep (List (Str × Addr))))) >>= fun r => pure r := by
    unfold closureFor
    congr 1
  rw [e, closure_go _ _ h]; rfl

theorem clOf_both {env : Env} {x : Str} (names : List (Str × NameKind)) (acc : List (Str × Addr)) : (x ∉ names.map (·.1) → (clOf env names acc).lookup x = acc.lookup x) ∧ ((names.map (·.1)).Nodup → names.lookup x = some .free → (clOf env names acc).lookup x = some ((env.cells.lookup x).getD 0)) :=
  clOf_ind (P := fun names acc res => (x ∉ names.map (fun q : Str × NameKind => q.1) → res.lookup x = acc.lookup x) ∧ ((names.map (fun q : Str × NameKind => q.1)).Nodup → names.lookup x = some NameKind.free → res.lookup x = some ((env.cells.lookup x).getD 0)))
    (fun _ => ⟨fun _ => rfl, fun _ e => nomatch e⟩)
    (fun {n r acc res} ih => ⟨fun h => (ih.1 fun q => h (.tail _ q)).trans (lk_ne fun e => h (e ▸ .head _)), fun hn e => by
      by_cases q : x = n
      · subst q; exact (ih.1 (List.nodup_cons.mp hn).1).trans List.lookup_cons_self
      · exact ih.2 (List.nodup_cons.mp hn).2 ((lk_ne q).symm.trans e)⟩)
    (fun {n k r acc res} hk ih => ⟨fun h => ih.1 fun q => h (.tail _ q), fun hn e => by
      by_cases q : x = n
      · subst q; exact absurd (Option.some.inj (List.lookup_cons_self.symm.trans e)) hk
      · exact ih.2 (List.nodup_cons.mp hn).2 ((lk_ne q).symm.trans e)⟩) names acc
theorem clOf_at {env : Env} {x : Str} {names : List (Str × NameKind)} {acc : List (Str × Addr)} (hn : (names.map (·.1)).Nodup) (h : names.lookup x = some .free) : (clOf env names acc).lookup x = some ((env.cells.lookup x).getD 0) := (clOf_both names acc).2 hn h
theorem cellsFrom_other {x : Str} {names : List (Str × NameKind)} : ∀ {k : Nat} {acc : List (Str × Addr)}, (∀ p ∈ names, p.1 = x → p.2 ≠ .cell) → (cellsFrom k names acc).lookup x = acc.lookup x :=
  List.rec (motive := fun names => ∀ {k : Nat} {acc : List (Str × Addr)}, (∀ p ∈ names, p.1 = x → p.2 ≠ .cell) → (cellsFrom k names acc).lookup x = acc.lookup x) (fun _ => rfl) (fun p r ih k acc h => by
    have hr : ∀ p ∈ r, p.1 = x → p.2 ≠ .cell := fun p hp => h p (List.mem_cons_of_mem _ hp)
    obtain ⟨n, k'⟩ := p
    by_cases q : k' = .cell
    · subst q; exact (ih hr).trans (lk_ne fun e => h (n, .cell) (.head _) e.symm rfl)
    · exact (congrArg (List.lookup x) (if_neg fun c => q (beq_iff_eq.mp c) : cellsFrom k ((n, k') :: r) acc = cellsFrom k r acc)).trans (ih hr)) names
/-- membership in the comprehension's cells -/
theorem mem_clOf {env : Env} {names : List (Str × NameKind)} {acc : List (Str × Addr)} {p : Str × Addr} (h : p ∈ clOf env names acc) : p ∈ acc ∨ ((p.1, .free) ∈ names ∧ p.2 = (env.cells.lookup p.1).getD 0) :=
  clOf_ind (env := env) (P := fun names acc res => p ∈ res → p ∈ acc ∨ ((p.1, NameKind.free) ∈ names ∧ p.2 = (env.cells.lookup p.1).getD 0)) (fun _ h => .inl h)
    (fun ih h => (ih h).elim (fun q => (List.mem_cons.mp q).elim (fun e => e ▸ .inr ⟨.head _, rfl⟩) .inl) fun q => .inr ⟨.tail _ q.1, q.2⟩)
    (fun _ ih h => (ih h).imp_right fun q => ⟨.tail _ q.1, q.2⟩) names acc h
theorem clOf_pair {env : Env} (hap : env.cells.Pairwise fun x y => x.2 ≠ y.2) {names : List (Str × NameKind)} {acc : List (Str × Addr)} : (names.map (·.1)).Nodup → (∀ p ∈ names, p.2 = .free → (env.cells.lookup p.1).isSome = true) →
    acc.Pairwise (fun x y => x.2 ≠ y.2) → (∀ p ∈ acc, (p.1, p.2) ∈ env.cells ∧ p.1 ∉ names.map (·.1)) → (clOf env names acc).Pairwise fun x y => x.2 ≠ y.2 :=
  clOf_ind (env := env) (P := fun names acc res => (names.map (fun q : Str × NameKind => q.1)).Nodup → (∀ p : Str × NameKind, p ∈ names → p.2 = NameKind.free → (env.cells.lookup p.1).isSome = true) →
    acc.Pairwise (fun x y : Str × Addr => x.2 ≠ y.2) → (∀ p : Str × Addr, p ∈ acc → (p.1, p.2) ∈ env.cells ∧ p.1 ∉ names.map (fun q : Str × NameKind => q.1)) → res.Pairwise fun x y : Str × Addr => x.2 ≠ y.2) (fun _ _ _ ha _ => ha)
    (fun {n r acc res} ih hn hs ha hm => by
      obtain ⟨a, haa⟩ := Option.isSome_iff_exists.mp (hs (n, .free) (.head _) rfl)
      have haa : env.cells.lookup n = some a := haa
      rw [haa] at ih
      refine ih (List.nodup_cons.mp hn).2 (fun p hp => hs p (.tail _ hp)) (List.pairwise_cons.mpr ⟨fun q hq e => (hm q hq).2 ?_, ha⟩) fun p hp => (List.mem_cons.mp hp).elim (fun e => e ▸ ⟨mem_of_lookup haa, (List.nodup_cons.mp hn).1⟩) fun hp => ⟨(hm p hp).1, fun q => (hm p hp).2 (.tail _ q)⟩
      exact name_of_addr hap (mem_of_lookup haa) ((show a = q.2 from e) ▸ (hm q hq).1) ▸ .head _)
    (fun _ ih hn hs ha hm => ih (List.nodup_cons.mp hn).2 (fun p hp => hs p (.tail _ hp)) ha fun p hp => ⟨(hm p hp).1, fun q => (hm p hp).2 (.tail _ q)⟩) names acc

theorem cells_new (names : List (Str × NameKind)) : ∀ (h : Heap) (acc : List (Str × Addr)), (∀ p ∈ acc, p.2 < h.objs.size) → (acc.Pairwise fun x y => x.2 ≠ y.2) →
    (∀ p ∈ cellsFrom h.objs.size names acc, p ∈ acc ∨ ((pushCells h names).IsCell p.2 none ∧ h.objs.size ≤ p.2)) ∧ (cellsFrom h.objs.size names acc).Pairwise fun x y => x.2 ≠ y.2 :=
  List.rec (motive := fun names => ∀ (h : Heap) (acc : List (Str × Addr)), (∀ p ∈ acc, p.2 < h.objs.size) → (acc.Pairwise fun x y => x.2 ≠ y.2) →
    (∀ p ∈ cellsFrom h.objs.size names acc, p ∈ acc ∨ ((pushCells h names).IsCell p.2 none ∧ h.objs.size ≤ p.2)) ∧ (cellsFrom h.objs.size names acc).Pairwise fun x y => x.2 ≠ y.2) (fun h acc _ ha => ⟨fun p hp => .inl hp, ha⟩) (fun p r ih h acc hlt ha => by
    obtain ⟨n, k⟩ := p
    by_cases q : k = .cell
    · subst q
      have ih := ih (h.push { cls := .type "cell", data := .cell none }) ((n, h.objs.size) :: acc)
      rw [Heap.size_push] at ih
      have ih := ih (fun p hp => (List.mem_cons.mp hp).elim (fun e => e ▸ Nat.lt_succ_self _) fun hp => Nat.lt_succ_of_lt (hlt p hp)) (List.pairwise_cons.mpr ⟨fun q hq e => Nat.lt_irrefl _ ((show h.objs.size = q.2 from e) ▸ hlt q hq), ha⟩)
      exact ⟨fun p hp => (ih.1 p hp).elim (fun q => (List.mem_cons.mp q).elim (fun e => by rw [e]; exact .inr ⟨⟨_, pushCells_keeps r (h.push { cls := .type "cell", data := .cell none }) _ _ (Heap.get?_push_size h rfl), rfl⟩, Nat.le_refl _⟩) .inl) fun q => .inr ⟨q.1, Nat.le_of_succ_le q.2⟩, ih.2⟩
    · have hb : ¬ (k == .cell) = true := fun c => q (beq_iff_eq.mp c)
      have e1 : cellsFrom h.objs.size ((n, k) :: r) acc = cellsFrom h.objs.size r acc := if_neg hb
      have e2 : pushCells h ((n, k) :: r) = pushCells h r := if_neg hb
      rw [e1, e2]
      exact ih h acc hlt ha) names

section
variable {M : Model} {A : Around} {E : Value → Shared → Prop} {s : Shared}
theorem newCompEnv {scope : Scope} {globals : Addr} {cl : List (Str × Addr)} {qual : Str} {env : Env} {Q : Env → Shared → Prop}
    (h : Q { scope := scope, locals := s.heap.objs.size, globals := globals, cells := cellsFrom (s.heap.objs.size + 1) scope.names cl, qual := qual, func := none, code := env.code, frame := env.frame, builtins := env.builtins }
      { s with heap := pushCells (s.heap.push { cls := .type "dict", data := .dict #[] }) scope.names }) :
    wpAny M A (newFunctionEnv scope globals cl [] qual none .none (some env)) Q E s := by
  simp only [newFunctionEnv, Option.isSome_some, if_true]
  refine wpAny_bind (wpAny_alloc ?_)
  refine wpAny_bind (wpAny_layCells _ (fun name kind cells => by cases hkc : kind == NameKind.cell <;> simp [hkc]) _ _ _ _ ?_)
  rw [show ({ s with heap := s.heap.push { cls := .type "dict", data := .dict #[] } } : Shared).heap.objs.size = s.heap.objs.size + 1 from Heap.size_push ..]
  rw [List.forIn_nil]
  exact wpAny_bind (wpAny_pure (wpAny_pure h))
end
end Mine

namespace Mine
open PySem PySem.W PySem.Calls PyProof.Rows PySem.Spec

noncomputable def CompRes (c : Cx) (g : Fm) (rs : List PyData) (s s' : Shared) (D C : Addr) : Prop :=
  Kp s s' ∧ s.heap.get? C = none ∧ c.base < C ∧ (∃ m, s'.heap.Ns C m) ∧ Rv (C :: g.W) s'.heap (.ref D) (.list rs)

section
variable {c : Cx} {sc : Scope} {X : Res} {n : Nat} {ρ : Rho} {A : Around} {g : Fm} {s : Shared}

theorem rl_fst (sc : Scope) (p : Str × NameKind) : (rl sc p).1 = p.1 := by unfold rl; split <;> rfl
theorem rl_snd (sc : Scope) (p : Str × NameKind) : (rl sc p).2 = p.2 ∨ p.2 = .free ∧ (rl sc p).2 = .cell := by
  unfold rl; split
  · rename_i h; simp only [Bool.and_eq_true, beq_iff_eq] at h; exact .inr ⟨h.1.1, rfl⟩
  · exact .inl rfl
theorem lookup_map {f : Str × NameKind → Str × NameKind} (hf : ∀ p, (f p).1 = p.1) (x : Str) : ∀ l : List (Str × NameKind), (l.map f).lookup x = (l.find? fun p => x == p.1).map fun p => (f p).2
  | [] => rfl
  | p :: r => by
    rw [List.map_cons, List.find?_cons]
    have : (f p) = (p.1, (f p).2) := by rw [← hf p]
    rw [this, List.lookup_cons]
    cases x == p.1 with
    | true => rfl
    | false => exact lookup_map hf x r
theorem lookup_find (x : Str) (l : List (Str × NameKind)) : l.lookup x = (l.find? fun p => x == p.1).map fun p => p.2 := by
  have := lookup_map (f := id) (fun _ => rfl) x l
  rwa [List.map_id] at this
theorem relabelS_lookup {scope sc : Scope} {x : Str} (h : scope.names.lookup x = some .free) : (relabelS scope sc).names.lookup x = some .cell ∨ (relabelS scope sc).names.lookup x = some .free := by
  show (scope.names.map (rl sc)).lookup x = _ ∨ (scope.names.map (rl sc)).lookup x = _
  rw [lookup_map (rl_fst sc)]
  rw [lookup_find] at h
  cases hp : scope.names.find? fun p => x == p.1 with
  | none => rw [hp] at h; cases h
  | some p =>
    rw [hp] at h
    simp only [Option.map_some, Option.some.injEq] at h ⊢
    rcases rl_snd sc p with q | ⟨_, q⟩
    · exact .inr (q.trans h)
    · exact .inl q
theorem relabelS_other {scope sc : Scope} {x : Str} {k : NameKind} (h : scope.names.lookup x = some k) (hk : k ≠ .free) : (relabelS scope sc).names.lookup x = some k := by
  show (scope.names.map (rl sc)).lookup x = _
  rw [lookup_map (rl_fst sc)]
  rw [lookup_find] at h
  cases hp : scope.names.find? fun p => x == p.1 with
  | none => rw [hp] at h; cases h
  | some p =>
    rw [hp] at h
    simp only [Option.map_some, Option.some.injEq] at h ⊢
    rcases rl_snd sc p with q | ⟨q, _⟩
    · exact q.trans h
    · exact absurd (h.symm.trans q) hk
theorem relabelS_cell {scope sc : Scope} {x : Str} (h : (relabelS scope sc).names.lookup x = some .cell) : scope.names.lookup x = some .cell ∨ scope.names.lookup x = some .free := by
  have h' : (scope.names.map (rl sc)).lookup x = some .cell := h
  rw [lookup_map (rl_fst sc)] at h'
  rw [lookup_find]
  cases hp : scope.names.find? fun p => x == p.1 with
  | none => rw [hp] at h'; cases h'
  | some p =>
    rw [hp] at h'
    simp only [Option.map_some, Option.some.injEq] at h' ⊢
    rcases rl_snd sc p with q | ⟨q, _⟩
    · exact .inl (q.symm.trans h')
    · exact .inr q

/-- what holds between the turns of a comprehension -/
structure CI (c : Cx) (s : Shared) (D C : Addr) (cc : List (Str × Addr)) (Wc : List Addr) (Gs : List (Value × V)) (s' : Shared) (ys : Array Value) (rs : List PyData) : Prop where
  sm : Sm s s'
  keep : HKeep s.heap s'.heap
  ns : ∃ m, s'.heap.Ns C m
  cells : ∀ p ∈ cc, ∃ v, s'.heap.IsCell p.2 v
  acc : s'.heap.PlainList D ys
  rd : Rvs Wc s'.heap ys.toList rs
  gs : ∀ p ∈ Gs, Rw c Wc s'.heap p.1 p.2

theorem CI.noise {s s' s'' : Shared} {D C : Addr} {cc : List (Str × Addr)} {Wc : List Addr} {Gs : List (Value × V)} {ys : Array Value} {rs : List PyData} (z : CI c s D C cc Wc Gs s' ys rs) (N : List Addr) (hs : Sm s' s'')
    (k : ∀ a o, a ∉ N → s'.heap.get? a = some o → s''.heap.get? a = some o) (hN : ∀ a ∈ N, a ∈ Wc ∧ s.heap.get? a = none ∧ a ≠ D) (hns : ∃ m, s''.heap.Ns C m) (hc : ∀ p ∈ cc, ∃ v, s''.heap.IsCell p.2 v) : CI c s D C cc Wc Gs s'' ys rs :=
  have kW : ∀ a o, a ∉ Wc → s'.heap.get? a = some o → a ∉ Wc ∧ s''.heap.get? a = some o := fun a o na e => ⟨na, k a o (fun m => na (hN a m).1) e⟩
  ⟨z.sm.trans hs, fun a o e => k a o (fun m => by rw [(hN a m).2.1] at e; cases e) (z.keep a o e), hns, hc, z.acc.at fun o e => k D o (fun m => (hN D m).2.2 rfl) e, z.rd.to kW, fun p m => (z.gs p m).to kW⟩

theorem comp_core {elt iter : Expr} {y : Str} {py pos : Pos} {scope : Scope} {ds rs : List PyData} {ρf : Rho} {use : Option (Value → Sem Unit)} {Q : Value → Shared → Prop} (R : RoomE A n) (x : StE c sc g ρ X s)
    (hit : IT c sc X n ρ iter ds) (hel : ∀ (i : Nat) d, ds[i]? = some d → ∃ r, rs[i]? = some r ∧ EV c (relabelS scope sc) {} n ((y, .d d) :: ρf) elt (.d r)) (hlen : rs.length = ds.length)
    (hf : ∀ z d, ρf.lookup z = some d → scope.names.lookup z = some .free ∧ ρ.lookup z = some d)
    (h1 : scope.kind = .function) (h2 : (scope.names.map (·.1)).Nodup) (h3 : ∀ p ∈ scope.names, p.2 = .free → sc.names.lookup p.1 = some .cell)
    (hy : scope.names.lookup y = some .local ∨ scope.names.lookup y = some .cell) (hz : ds.length ≤ 2 ^ 20)
    (fin : ∀ D C s', CompRes c g rs s s' D C → compPost (model c.prog c.w) A nE use Q (.ref D) C (.ok .next) s')
    (hs : ∀ env x, foldedSetIterable iter env x = pure x) :
    wpAny (model c.prog c.w) A (comprehension (.ListComp elt [⟨.Name y py, iter, [], 0⟩] scope pos) scope g.env iter.pos (newList []) false (eval iter g.env) use) Q nE s := by
  have hcl : ∀ p ∈ scope.names, p.2 = .free → (g.env.cells.lookup p.1).isSome = true := fun p hp hk => x.cells _ (h3 p hp hk)
  refine wpAny_comprehension_free rfl (hs _) (closure_of hcl) h1 (fun p hp hk => ?_) ?_
  · obtain ⟨m, k⟩ := p
    dsimp only at hk ⊢
    subst hk
    exact mem_lookup h2 hp
  refine wpAny_mono (hit A g s R x) (fun xv s₁ h₁ => wpAny_mono h₁ (fun it s₂ h₂ => ?_) fun _ _ h => h.elim) fun _ _ h => h.elim
  obtain ⟨I, fp, wr, P, St, Gs, rfl, z⟩ := h₂
  refine wpAny_newObj_type (newCompEnv ?_)
  have x₂ := x.exk z.kp
  obtain ⟨sm2, k2⟩ := keeps_sm z.kp
  -- the new objects
  generalize hH3 : s₂.heap.push { cls := .type "list", dict := none, data := .seq ([] : List Value).toArray } = H3
  dsimp only
  have hC : H3.objs.size = s₂.heap.objs.size + 1 := by rw [← hH3, Heap.size_push]
  generalize hDd : s₂.heap.objs.size = D at hC
  generalize hCc : H3.objs.size = C at hC
  have hsz : (H3.push { cls := .type "dict", data := .dict #[] }).objs.size = C + 1 := by rw [Heap.size_push, hCc]
  have live : ∀ a : Nat, Alive s₂.heap a → a < D := fun a h => hDd ▸ h.lt
  generalize hcl' : clOf g.env scope.names [] = cl
  have hclm : ∀ p ∈ cl, (p.1, p.2) ∈ g.env.cells ∧ (p.1, NameKind.free) ∈ scope.names := by
    intro p hp
    rw [← hcl'] at hp
    rcases mem_clOf hp with hp | ⟨h, e⟩
    · cases hp
    · obtain ⟨a, ha⟩ := Option.isSome_iff_exists.mp (hcl _ h rfl)
      dsimp only at ha
      rw [ha, Option.getD_some] at e
      exact ⟨by rw [e]; exact mem_of_lookup ha, h⟩
  have hclW : ∀ p ∈ cl, p.2 ∈ own g := fun p hp => List.mem_cons_of_mem _ (List.mem_map.mpr ⟨_, (hclm p hp).1, rfl⟩)
  have hclap : cl.Pairwise fun x y => x.2 ≠ y.2 := by
    rw [← hcl']
    exact clOf_pair x.apart h2 hcl .nil fun _ h => nomatch h
  have hcells := cells_new scope.names (H3.push { cls := .type "dict", data := .dict #[] }) cl (fun p hp => by
    have q : p.2 < D := live _ (x₂.alive _ (x₂.ownW _ (hclW p hp)).1).1
    have e : D ≤ C + 1 := by (first | lia | omega)
    exact hsz ▸ Nat.lt_of_lt_of_le q e) hclap
  rw [hsz] at hcells
  generalize hH4 : pushCells (H3.push { cls := .type "dict", data := .dict #[] }) scope.names = H4 at hcells
  generalize hcc : cellsFrom (C + 1) scope.names cl = cc at hcells
  have k34 : HKeep (H3.push { cls := .type "dict", data := .dict #[] }) H4 := fun a o e => hH4 ▸ pushCells_keeps _ _ a o e
  have k23 : HKeep s₂.heap H3 := hH3 ▸ HKeep.push _ _
  have k24 : HKeep s₂.heap H4 := (k23.trans (HKeep.push _ _)).trans k34
  have hD4 : H4.PlainList D #[] := ⟨0, k34 _ _ (Heap.get?_push_of_some _ (hH3 ▸ hDd ▸ Heap.get?_push_size _ rfl))⟩
  have hC4 : H4.Ns C fun _ => none := (hCc ▸ Heap.Ns.new H3 (.type "dict")).keeps k34
  have hcin : ∀ p ∈ cc, p ∈ cl ∨ @LE.le Nat _ (C + 1) p.2 := fun p hp => (hcells.1 p hp).imp_right (·.2)
  -- where not to look
  let Wc : List Addr := D :: C :: (cc.map (·.2) ++ (wr ++ g.W))
  have hwrD : ∀ b : Nat, b ∈ wr → b < D := fun b hb => live b (z.alive 0 _ z.st b (z.walks.sub b hb))
  have hfpD : ∀ b : Nat, b ∈ fp → b < D := fun b hb => live b (z.alive 0 _ z.st b hb)
  have dead2 : ∀ a : Nat, D ≤ a → s₂.heap.get? a = none := fun a ha => dead_at (hDd.symm ▸ ha)
  have dead1 : ∀ a : Nat, D ≤ a → s.heap.get? a = none := fun a ha => k2.dead (dead2 a ha)
  have hDC : @LE.le Nat _ D C := by rw [hC]; exact Nat.le_succ D
  have hWc : ∀ a ∈ Wc, a ∈ g.W ∨ a ∈ wr ∨ @LE.le Nat _ D a :=
    fm (.inr (.inr (Nat.le_refl _))) (fm (.inr (.inr hDC)) (List.forall_mem_append.mpr ⟨List.forall_mem_map.mpr fun p hp => (hcin p hp).elim (fun h => .inl (x.ownW _ (hclW p h)).1) fun h => .inr (.inr (Nat.le_trans hDC (Nat.le_of_succ_le h))), List.forall_mem_append.mpr ⟨fun a h => .inr (.inl h), fun a h => .inl h⟩⟩))
  have hWs : ∀ a ∈ Wc, a ∈ g.W ∨ s.heap.get? a = none := fun a ha => (hWc a ha).imp_right fun h => h.elim (fun h => (z.fresh a h).1) fun h => dead1 a h
  have hW2 : ∀ a o, a ∉ wr ++ g.W → s₂.heap.get? a = some o → a ∉ Wc := fun a o na e m => by
    rcases hWc a m with h | h | h
    · exact na (List.mem_append_right _ h)
    · exact na (List.mem_append_left _ h)
    · rw [dead2 a h] at e; cases e
  have hW1 : ∀ a o, a ∉ g.W → s.heap.get? a = some o → a ∉ Wc := fun a o na e m => by
    rcases hWs a m with h | h
    · exact na h
    · rw [h] at e; cases e
  have bD : @LT.lt Nat _ c.base D := by
    obtain ⟨o, e⟩ := x₂.wd'.base
    exact live _ ⟨o, e⟩
  -- the comprehension's own environment
  obtain ⟨ce, hce⟩ : ∃ ce : Env, ce = { scope := relabelS scope sc, locals := C, globals := g.env.globals, cells := cc, qual := g.env.qual, func := none, code := g.env.code, frame := g.env.frame, builtins := g.env.builtins } := ⟨_, rfl⟩
  have hrel : relabel scope g.env = relabelS scope sc := by rw [relabel_eq, x.scp]
  rw [hrel, ← hce]
  have hcek : ∀ z, ce.kindOf z = (relabelS scope sc).names.lookup z := fun z => by rw [hce]; rfl
  have hcef : ce.scope.kind = .function := by rw [hce]; exact h1
  let gc : Fm := ⟨ce, g.s0, Wc, [], fun _ => True, [], []⟩
  have hown : own gc = C :: cc.map (·.2) := by show (ce.locals :: ce.cells.map (·.2)) = _; rw [hce]
  have s0dead : ∀ a : Nat, D ≤ a → g.s0.heap.get? a = none := fun a h => x.keep.dead (dead1 a h)
  have ciNew : ∀ a ∈ own gc, g.s0.heap.get? a = none := by
    rw [hown]
    exact fm (s0dead _ hDC) (List.forall_mem_map.mpr fun p hp => (hcin p hp).elim (fun h => x.newW _ (hclW p h)) fun h => s0dead _ (Nat.le_trans hDC (Nat.le_of_succ_le h)))
  have start : CI c s D C cc Wc Gs { s₂ with heap := H4 } #[] (rs.take 0) :=
    { sm := sm2.trans ⟨H4, s₂.toks, rfl⟩, keep := k2.trans k24, ns := ⟨_, hC4⟩
      cells := fun p hp => by
        rcases hcells.1 p hp with h | h
        · obtain ⟨v, e⟩ := x₂.cell _ _ (hclm p h).1; exact ⟨v, e.keeps k24⟩
        · exact ⟨_, h.1⟩
      acc := hD4, rd := .nil, gs := fun p m => (z.gs p m).to fun a o na e => ⟨hW2 a o na e, k24 a o e⟩ }
  have hloop : ∀ t : Shared, t = { s₂ with heap := H4 } → codeAny (model c.prog c.w) A (.compLoop (.ListComp elt [⟨.Name y py, iter, [], 0⟩] scope pos) 0 (.ref I) (.ref D) ce) (compPost (model c.prog c.w) A nE use Q (.ref D) C) t := by
    rintro t rfl
    refine codeAny_compLoop_list (fun m s' => ∃ i ys, i ≤ ds.length ∧ m = ds.length - i ∧ CI c s D C cc Wc Gs s' ys (rs.take i) ∧ St i s'.heap) (fun m s' hI => ?_) ds.length
      ⟨0, #[], Nat.zero_le _, rfl, start, z.walks.frame _ _ _ z.st fun b _ o e => k24 b o e⟩
    obtain ⟨i, ys, hi, rfl, ci, sti⟩ := hI
    have cellLow : ∀ p ∈ cc, Alive s.heap p.2 ∨ @LE.le Nat _ (C + 1) p.2 := fun p hp => (hcin p hp).imp_left fun h => (x.alive _ (x.ownW _ (hclW p h)).1).1
    have wrOut : ∀ b ∈ wr, b ∈ Wc ∧ s.heap.get? b = none ∧ b ≠ D := fun b hb => ⟨List.mem_cons_of_mem _ (List.mem_cons_of_mem _ (List.mem_append_right _ (List.mem_append_left _ hb))), (z.fresh b hb).1, Nat.ne_of_lt (hwrD b hb)⟩
    have noise : ∀ (h' : Heap) (tk : Nat), (∀ b o, b ∉ wr → s'.heap.get? b = some o → h'.get? b = some o) → CI c s D C cc Wc Gs { s' with heap := h', toks := tk } ys (rs.take i) := by
      intro h' tk hk
      refine ci.noise wr ⟨h', tk, rfl⟩ (fun a o m e => hk a o m e) wrOut ?_ fun p hp => ?_
      · obtain ⟨m, e⟩ := ci.ns
        exact ⟨m, e.at' fun o e => hk C o (fun m => by have := hwrD C m; (first | lia | omega)) e⟩
      · obtain ⟨v, o, e, d⟩ := ci.cells p hp
        refine ⟨v, o, hk p.2 o (fun m => ?_) e, d⟩
        rcases cellLow p hp with ⟨o', e'⟩ | h
        · rw [(z.fresh _ m).1] at e'; cases e'
        · have := hwrD _ m; (first | lia | omega)
    by_cases hlt : i < ds.length
    · refine z.walks.item i s' _ _ hlt sti fun v h₁ tk hP st₁ hk => ?_
      obtain ⟨d, hd, hgd⟩ := z.items i v hlt hP
      have c₁ := noise h₁ tk hk
      have rv : Rv Wc h₁ v d := by
        rcases hgd with m | ⟨k, t, rfl, rfl⟩
        · exact c₁.gs (v, .d d) m
        · exact .int _ _
      obtain ⟨r, hr, hev⟩ := hel i d hd
      dsimp only
      -- behind the store: the element
      have rest : ∀ t : Shared, CI c s D C cc Wc Gs t ys (rs.take i) → St (i + 1) t.heap → Slot' gc t.heap y v → Rv Wc t.heap v d →
          wpAny (model c.prog c.w) A (eval elt ce) (fun u s₃ => wpAny (model c.prog c.w) A (PySem.call (.builtin "list.append") [.ref D, u])
            (fun _ s₄ => ∃ m, m < ds.length - i ∧ ∃ i' ys', i' ≤ ds.length ∧ m = ds.length - i' ∧ CI c s D C cc Wc Gs s₄ ys' (rs.take i') ∧ St i' s₄.heap) nE s₃) nE t := by
        intro t ct stt hslot rvt
        have S : StE c (relabelS scope sc) gc ((y, .d d) :: ρf) {} t :=
          { scp := by show ce.scope = _; rw [hce]
            kind := h1
            glb := by show ce.globals = _; rw [hce]; exact x.glb
            blt := by show ce.builtins = _; rw [hce]; exact x.blt
            same := x.same.trans ct.sm, keep := x.keep.trans ct.keep, wd := x.wd
            ns := by show ∃ m, t.heap.Ns ce.locals m; rw [hce]; exact ct.ns
            cell := fun w a e => by have e' : (w, a) ∈ cc := by (have := e; simpa [gc, hce] using this)
                                    exact ct.cells _ e'
            apart := by show ce.cells.Pairwise _; rw [hce]; exact hcells.2
            cells := fun w hw => by
              show (ce.cells.lookup w).isSome = true
              rw [hce]
              show (cc.lookup w).isSome = true
              rw [← hcc]
              rcases relabelS_cell hw with q | q
              · exact cellsFrom_some _ _ _ (.inl q)
              · refine cellsFrom_some _ _ _ (.inr ?_)
                rw [← hcl', clOf_at h2 q]; rfl
            ownW := by
              rw [hown]
              exact fm ⟨.tail _ (.head _), nofun⟩ (List.forall_mem_map.mpr fun p hp => ⟨.tail _ (.tail _ (List.mem_append_left _ (List.mem_map.mpr ⟨p, hp, rfl⟩))), nofun⟩)
            memW := fun a m => (nomatch m), newW := ciNew, newM := fun a m => (nomatch m)
            alive := fm ⟨ct.acc.elim fun _ e => ⟨_, e⟩, bD⟩ (fm ⟨ct.ns.elim fun _ e => e.elim fun o e => e.elim fun _ e => e.elim fun _ e => ⟨o, e.1⟩, Nat.lt_of_lt_of_le bD hDC⟩
              (List.forall_mem_append.mpr ⟨List.forall_mem_map.mpr fun p hp => ⟨(ct.cells p hp).elim fun _ e => e.elim fun o e => ⟨o, e.1⟩, (hcin p hp).elim (fun h => (x.alive _ (x.ownW _ (hclW p h)).1).2) fun h => Nat.lt_of_lt_of_le bD (Nat.le_trans hDC (Nat.le_of_succ_le h))⟩,
                List.forall_mem_append.mpr ⟨fun a m => ⟨z.alive _ _ stt a (z.walks.sub a m), (z.fresh a m).2⟩, fun a m => ⟨(x.alive a m).1.keep ct.keep, (x.alive a m).2⟩⟩⟩))
            vars := fun w e hw => by
              by_cases hwy : w = y
              · subst hwy
                rw [lookup_cons_eq] at hw; cases hw
                exact ⟨v, hslot, rvt⟩
              · rw [lookup_cons_ne hwy] at hw
                obtain ⟨hfree, hρ⟩ := hf w e hw
                obtain ⟨u, hu, ru⟩ := x.vars w e hρ
                refine ⟨u, ?_, ru.to fun a o na e => ⟨hW1 a o na e, ct.keep a o e⟩⟩
                have hcw : sc.names.lookup w = some .cell := h3 (w, .free) (mem_of_lookup hfree) rfl
                rcases hu with ⟨q, _⟩ | ⟨q, a, ha, hca⟩
                · rw [x.kindOf hcw] at q; cases q
                · refine .inr ⟨?_, a, ?_, hca.keeps ct.keep⟩
                  · rw [hcek]; exact relabelS_lookup hfree
                  · show ce.cells.lookup w = some a
                    rw [hce]
                    show cc.lookup w = some a
                    rw [← hcc, cellsFrom_other fun p hp hpw => by rw [lookup_nodup h2 hfree p hp hpw]; decide, ← hcl', clOf_at h2 hfree, ha]
                    rfl
            res := ⟨fun _ _ h => (nomatch h), fun _ _ _ h => (nomatch h), List.nodup_nil⟩
            tmp := trivial, tmpSt := fun _ _ _ _ => trivial, tmpW := fun b m => (nomatch m), gho := fun p m => (nomatch m) }
        refine wpAny_mono (hev A gc t R S) (fun u s₃ h₃ => ?_) fun _ _ h => h.elim
        obtain ⟨kp₃, ru⟩ := h₃
        obtain ⟨sm₃, k₃⟩ := keeps_sm kp₃
        have c₃ : CI c s D C cc Wc Gs s₃ ys (rs.take i) := ct.noise [] sm₃ (fun a o _ e => k₃ a o e) (fun a m => nomatch m) (let ⟨m, e⟩ := ct.ns; ⟨m, e.keeps k₃⟩) fun p hp => let ⟨w, e⟩ := ct.cells p hp; ⟨w, e.keeps k₃⟩
        have hys : ys.size ≤ sizeLine := by
          have := c₃.rd.length
          rw [List.length_take, Array.length_toList] at this
          rw [sizeLine_eq]; (first | lia | omega)
        refine wpAny_list_append_plain (hsz := hys) c₃.acc fun h₅ hl₅ hs₅ => ?_
        have kW : ∀ a o, a ∉ Wc → s₃.heap.get? a = some o → a ∉ Wc ∧ h₅.get? a = some o := fun a o na e => ⟨na, hs₅.extBut a o (fun q => na (q ▸ .head _)) e⟩
        refine ⟨ds.length - (i + 1), by (first | lia | omega), i + 1, ys.push u, hlt, rfl, ?_, ?_⟩
        · refine { sm := c₃.sm.trans ⟨h₅, s₃.toks, rfl⟩, keep := fun a o e => hs₅.extBut a o (fun q => ?_) (c₃.keep a o e), ns := ?_, cells := fun p hp => ?_, acc := hl₅, rd := ?_, gs := fun p m => (c₃.gs p m).to kW }
          · rw [q, dead1 D (Nat.le_refl _)] at e; cases e
          · obtain ⟨m, e⟩ := c₃.ns
            exact ⟨m, e.sameBut hs₅ (by show @Ne Nat _ _; (first | lia | omega))⟩
          · obtain ⟨w, e⟩ := c₃.cells p hp
            refine ⟨w, e.sameBut hs₅ fun q => ?_⟩
            rcases cellLow p hp with h | h
            · obtain ⟨o', e'⟩ := h; rw [q, dead1 D (Nat.le_refl _)] at e'; cases e'
            · have h' : @LE.le Nat _ (C + 1) p.2 := h
              have q' : @Eq Nat p.2 D := q
              (first | lia | omega)
          · have e : rs.take (i + 1) = rs.take i ++ [r] := by rw [List.take_add_one, hr]; rfl
            rw [e]
            have := (c₃.rd.to kW).app (.cons (Rv.to kW ru) .nil)
            simpa using this
        · exact z.walks.frame _ _ _ stt fun b hb o e => hs₅.extBut b o (fun q => by have := hfpD b hb; have q' : @Eq Nat b D := q; (first | lia | omega)) (k₃ b o e)
      rcases hy with hy | hy
      · have hky : ce.kindOf y = some .local := by rw [hcek]; exact relabelS_other hy (by decide)
        obtain ⟨m, hm⟩ := c₁.ns
        have hlocs : ce.locals = C := by rw [hce]
        refine wpAny_assign_Name (wpAny_storeName_local hky (by rw [hlocs]; exact hm) (fun h₂ hn₂ hs₂ => ?_) (by rw [hcef]; rfl))
        rw [hlocs] at hn₂ hs₂
        have kb : ∀ a o, a ∉ [C] → h₁.get? a = some o → h₂.get? a = some o := fun a o na e => hs₂.extBut a o (fun q => na (q ▸ .head _)) e
        have cOut : ∀ a ∈ [C], a ∈ Wc ∧ s.heap.get? a = none ∧ a ≠ D := fun a ha => by
          rw [List.mem_singleton.mp ha]; exact ⟨List.mem_cons_of_mem _ (.head _), dead1 C (by (first | lia | omega)), by show @Ne Nat _ _; (first | lia | omega)⟩
        have c₂ : CI c s D C cc Wc Gs { s' with heap := h₂, toks := tk + 1 } ys (rs.take i) := c₁.noise [C] ⟨h₂, tk + 1, rfl⟩ kb cOut ⟨_, hn₂⟩ fun p hp => by
          obtain ⟨w, e⟩ := c₁.cells p hp
          exact ⟨w, e.sameBut hs₂ (Ne.symm (ns_ne_cell hm e))⟩
        refine wpAny_mono (rest { s' with heap := h₂, toks := tk + 1 } c₂ (z.walks.frame _ _ _ st₁ fun b hb o e => kb b o (fun q => by have := hfpD b hb; have q' : @Eq Nat b _ := List.mem_singleton.mp q; (first | lia | omega)) e) (.inl ⟨hky, _, by show h₂.Ns ce.locals _; rw [hlocs]; exact hn₂, if_pos rfl⟩)
          (rv.to fun a o na e => ⟨na, kb a o (fun q => na (by rw [List.mem_singleton.mp q]; exact List.mem_cons_of_mem _ (.head _))) e⟩)) (fun u s₃ h₃ => wpAny_mono h₃ (fun _ s₄ h₄ => h₄) fun _ _ h => h.elim) fun _ _ h => h.elim
      · have hky : ce.kindOf y = some .cell := by rw [hcek]; exact relabelS_other hy (by decide)
        have hex : (cc.lookup y).isSome = true := by rw [← hcc]; exact cellsFrom_some _ _ _ (.inl hy)
        obtain ⟨a, ha⟩ := Option.isSome_iff_exists.mp hex
        have hmem := mem_of_lookup ha
        have haC : @LE.le Nat _ (C + 1) a := by
          rcases hcin _ hmem with h | h
          · have := lookup_nodup h2 hy _ (hclm _ h).2 rfl
            cases this
          · exact h
        obtain ⟨v₀, hv₀⟩ := c₁.cells _ hmem
        refine wpAny_assign_Name (wpAny_storeName_cell hcef hky (by rw [hce]; exact ha) hv₀ fun h₂ hc₂ hs₂ => ?_)
        have kb : ∀ b o, b ∉ [a] → h₁.get? b = some o → h₂.get? b = some o := fun b o na e => hs₂.extBut b o (fun q => na (q ▸ .head _)) e
        have aW : a ∈ Wc := List.mem_cons_of_mem _ (List.mem_cons_of_mem _ (List.mem_append_left _ (List.mem_map.mpr ⟨(y, a), hmem, rfl⟩)))
        have cOut : ∀ b ∈ [a], b ∈ Wc ∧ s.heap.get? b = none ∧ b ≠ D := fun b hb => by
          rw [List.mem_singleton.mp hb]; exact ⟨aW, dead1 a (by (first | lia | omega)), by show @Ne Nat _ _; (first | lia | omega)⟩
        have c₂ : CI c s D C cc Wc Gs { s' with heap := h₂, toks := tk } ys (rs.take i) := c₁.noise [a] ⟨h₂, tk, rfl⟩ kb cOut (let ⟨m, e⟩ := c₁.ns; ⟨m, e.sameBut hs₂ (by show @Ne Nat _ _; (first | lia | omega))⟩) fun p hp => by
          by_cases q : p.2 = a
          · rw [q]; exact ⟨_, hc₂⟩
          · obtain ⟨w, e⟩ := c₁.cells p hp
            exact ⟨w, e.sameBut hs₂ q⟩
        refine wpAny_mono (rest { s' with heap := h₂, toks := tk } c₂ (z.walks.frame _ _ _ st₁ fun b hb o e => kb b o (fun q => by have := hfpD b hb; have q' : @Eq Nat b _ := List.mem_singleton.mp q; (first | lia | omega)) e) (.inr ⟨.inl hky, a, by show ce.cells.lookup y = _; rw [hce]; exact ha, hc₂⟩)
          (rv.to fun b o na e => ⟨na, kb b o (fun q => na (by rw [List.mem_singleton.mp q]; exact aW)) e⟩)) (fun u s₃ h₃ => wpAny_mono h₃ (fun _ s₄ h₄ => h₄) fun _ _ h => h.elim) fun _ _ h => h.elim
    · have hin : i = ds.length := by (first | lia | omega)
      subst hin
      refine z.walks.done s' _ _ sti fun h₁ tk hk => ?_
      have c₁ := noise h₁ tk hk
      obtain ⟨h', tk', e⟩ := c₁.sm
      refine fin D C _ ⟨⟨h', tk', e, ?_⟩, dead1 C (by (first | lia | omega)), (by show @LT.lt Nat _ _ _; (first | lia | omega)), c₁.ns, ?_⟩
      · have := c₁.keep; rw [e] at this; exact this
      · have e : rs.take ds.length = rs := by rw [← hlen]; exact List.take_length
        have rd := c₁.rd
        rw [e] at rd
        obtain ⟨k, hk'⟩ := c₁.acc
        refine .list hk' rfl rfl (fun m => ?_) (rd.to fun a o na e => ⟨fun m => na ?_, e⟩)
        · rcases List.mem_cons.mp m with q | m
          · have q' : @Eq Nat D C := q
            (first | lia | omega)
          · obtain ⟨o, e⟩ := (x.alive _ m).1; rw [dead1 D (Nat.le_refl _)] at e; cases e
        · rcases List.mem_cons.mp m with rfl | m
          · exact List.mem_cons_of_mem _ (.head _)
          · exact List.mem_cons_of_mem _ (List.mem_cons_of_mem _ (List.mem_append_right _ (List.mem_append_right _ m)))
  exact codeAny_compStart_list (hloop _ rfl) (z.walks.self 0 _ _ _ (z.walks.frame _ _ _ z.st fun b _ o e => k24 b o e) (hloop _ rfl))

/-- a comprehension over one source, no test -/
theorem EV.comp {elt iter : Expr} {y : Str} {py pos : Pos} {scope : Scope} {ds rs : List PyData} (ρf : Rho)
    (hit : IT c sc X n ρ iter ds) (hel : ∀ (i : Nat) d, ds[i]? = some d → ∃ r, rs[i]? = some r ∧ EV c (relabelS scope sc) {} n ((y, .d d) :: ρf) elt (.d r)) (hlen : rs.length = ds.length)
    (hf : ∀ z d, ρf.lookup z = some d → scope.names.lookup z = some .free ∧ ρ.lookup z = some d) (hz : ds.length ≤ 2 ^ 20)
    (h3 : ∀ p ∈ scope.names, p.2 = .free → sc.names.lookup p.1 = some .cell := by decide)
    (hy : scope.names.lookup y = some .local ∨ scope.names.lookup y = some .cell := by decide)
    (h1 : scope.kind = .function := by rfl) (h2 : (scope.names.map (·.1)).Nodup := by decide)
    (hs : ∀ env x, foldedSetIterable iter env x = pure x := by intro _ _; rfl) : EV c sc X n ρ (.ListComp elt [⟨.Name y py, iter, [], 0⟩] scope pos) (.d (.list rs)) := by
  intro A g s R x
  rw [eval_ListComp]
  refine comp_core (use := none) R x hit hel hlen hf h1 h2 h3 hy hz (fun D C s' hr => ?_) hs
  obtain ⟨⟨h', tk, rfl, k⟩, hC, bC, ⟨m, hm⟩, hv⟩ := hr
  refine ⟨m, hm, fun h'' hs'' => ⟨⟨h'', tk, rfl, fun a o e => hs''.extBut a o (fun q => by rw [q, hC] at e; cases e) (k a o e)⟩, ?_⟩⟩
  exact Rv.to (W := C :: g.W) (fun a o na e => ⟨fun m => na (List.mem_cons_of_mem _ m), hs''.extBut a o (fun q => na (q ▸ .head _)) e⟩) hv

theorem x_asgComp {z : Str} {pz pos spos : Pos} {elt iter : Expr} {y : Str} {py : Pos} {scope : Scope} {ds rs : List PyData} {rest : List Stmt} {Q : Flow → Shared → Prop} (ρf : Rho) (R : RoomE A n) (x : StE c sc g ρ X s)
    (hit : IT c sc X n ρ iter ds) (hel : ∀ (i : Nat) d, ds[i]? = some d → ∃ r, rs[i]? = some r ∧ EV c (relabelS scope sc) {} n ((y, .d d) :: ρf) elt (.d r)) (hlen : rs.length = ds.length)
    (hf : ∀ z d, ρf.lookup z = some d → scope.names.lookup z = some .free ∧ ρ.lookup z = some d) (hz : ds.length ≤ 2 ^ 20) (hk : sc.names.lookup z = some .local)
    (h : ∀ s', StE c sc g ((z, .d (.list rs)) :: ρ) X s' → wpAny (model c.prog c.w) A (execs rest g.env) Q nE s')
    (hsw : ∀ env : Env, env.scope = sc → swapsWith (.ListComp elt [⟨.Name y py, iter, [], 0⟩] scope pos) (some (.Name z pz)) spos.line env = pure true)
    (h3 : ∀ p ∈ scope.names, p.2 = .free → sc.names.lookup p.1 = some .cell := by decide)
    (hy : scope.names.lookup y = some .local ∨ scope.names.lookup y = some .cell := by decide)
    (h1 : scope.kind = .function := by rfl) (h2 : (scope.names.map (·.1)).Nodup := by decide)
    (hs : ∀ env x, foldedSetIterable iter env x = pure x := by intro _ _; rfl) :
    wpAny (model c.prog c.w) A (execs (.Assign [.Name z pz] (.ListComp elt [⟨.Name y py, iter, [], 0⟩] scope pos) spos :: rest) g.env) Q nE s := by
  refine wpAny_execs_cons ?_
  rw [exec_Assign_Name_used _ _ _ _ (hsw _ x.scp)]
  refine wpAny_bind (wpAny_standAt (wpAny_bind ?_))
  show wpAny _ A (do let _ ← comprehension (.ListComp elt [⟨.Name y py, iter, [], 0⟩] scope pos) scope g.env _ (newList []) false (eval iter g.env) (some (assign (.Name z pz) g.env))) _ _ s
  refine wpAny_bind (wpAny_mono (comp_core (use := some (assign (.Name z pz) g.env)) (Q := fun _ s' => wpAny (model c.prog c.w) A (execs rest g.env) Q nE s') R x hit hel hlen hf h1 h2 h3 hy hz (fun D C s' hr => ?_) hs) (fun _ s' hq => wpAny_pure (wpAny_pure hq)) fun _ _ e => e)
  obtain ⟨kp, hC, bC, ⟨m, hm⟩, hv⟩ := hr
  have hal : ∀ b ∈ [C], Alive s'.heap b := fun b hb => by
    rw [List.mem_singleton.mp hb]; obtain ⟨o, _, _, e, _⟩ := hm; exact ⟨o, e⟩
  have hfr : ∀ b ∈ [C], s.heap.get? b = none ∧ c.base < b := fun b hb => by rw [List.mem_singleton.mp hb]; exact ⟨hC, bC⟩
  have x' : StE c sc (gV g [C] []) ρ X s' := x.widen kp hfr hal fun p hp => nomatch hp
  have x'' : StE c sc (gT g [C] [C] (fun h => h.Ns C m) []) ρ X s' := x'.addT (fun b hb => by
      rw [List.mem_singleton.mp hb]
      refine ⟨fun q => ?_, fun q => ?_⟩
      · obtain ⟨o, e⟩ := (x.alive _ (x.ownW _ q).1).1; rw [hC] at e; cases e
      · obtain ⟨o, e⟩ := (x.alive _ (x.memW _ q)).1; rw [hC] at e; cases e) hal hm fun h h' e k => e.at' (k C (.head _))
  show wpAny _ A (assign (.Name z pz) g.env (.ref D)) _ _ _
  refine wpAny_assign_Name (x''.store (d := .d (.list rs)) hv (.inl hk) fun s'' y'' _ _ => ⟨m, y''.tmp.2, fun h' hs' => ?_⟩)
  exact h _ (x.leave (x.dropT y'') (fun b hb => (hfr b hb).1) ⟨h', s''.toks, rfl⟩ fun a o na e => hs'.extBut a o (fun q => na (q ▸ .head _)) e)
end
end Mine

namespace Mine
open PySem PySem.W PySem.Calls PyProof.Rows PySem.Spec

theorem lookIn_ns {h : Heap} {dd : Addr} {m : Str → Option Value} {x : Str} {v : Value} (hn : h.Ns dd m) (e : m x = some v) : ∃ o, h.get? dd = some o ∧ lookIn x o = some (some v) := by
  obtain ⟨o, es, ep, ho, hd, hk, hf⟩ := hn
  refine ⟨o, ho, ?_⟩
  have hfx := hf x
  rw [e] at hfx
  unfold nsFind findBy at hfx
  unfold lookIn
  rw [hd]
  dsimp only
  rw [← Array.find?_toList] at hfx
  cases hq : es.toList.find? (fun e => e.key.isStr x) with
  | none => rw [hq] at hfx; cases hfx
  | some en =>
    rw [hq] at hfx
    simp only [Option.map_some, Option.some.injEq] at hfx
    exact congrArg (fun z => some (some z)) hfx
theorem handed_rv {W : List Addr} {h : Heap} {v : Value} {p : PyData} (r : Rv W h v p) : handedIn v = true := by cases r <;> rfl

theorem findObj_own {c : Cx} {x : Str} {o : Obj} {v : Value} (hfind : findIn c.K (.ref c.C) x = some none) (hl : lookIn x o = some (some v)) : findObj c.K c.C (some o) x = some (.value v) := by
  have e : ownOf c.cd (some o) x = some (some v) := (if_pos c.hasDict : ownOf c.cd (some o) x = lookIn x o).trans hl
  unfold findObj
  rw [c.cls, Option.bind_some, hfind]
  show ((ownOf c.cd (some o) x).bind _) = _
  rw [e]; rfl

section
variable {c : Cx} {sc : Scope} {X : Res} {n : Nat} {ρ : Rho} {A : Around} {g : Fm} {s : Shared}

/-- a field of an object -/
theorem getAttr_of {a dd : Addr} {m : Str → Option Value} {x : Str} {v : Value} {Q : Value → Shared → Prop} {expr : Bool} (wd : Wd c s.heap) (ha : s.heap.get? a = some (instObj c.C dd)) (hn : s.heap.Ns dd m) (e : m x = some v) (hh : handedIn v = true)
    (hfind : findIn c.K (.ref c.C) x = some none) (h : Q v { s with toks := s.toks + 1 }) : wpAny (model c.prog c.w) A (getAttr (.ref a) x expr) Q nE s := by
  obtain ⟨o, ho, hl⟩ := lookIn_ns hn e
  exact get_value wd.K ⟨ha, rfl, rfl, ho⟩ c.getat (findObj_own hfind hl) hh h

theorem EV.attr {y x : Str} {np pos : Pos} {fs : List (Str × PyData)} {p : PyData} (h : EV c sc X n ρ (.Name y np) (.ob fs)) (hx : fs.lookup x = some p) (hfind : findIn c.K (.ref c.C) x = some none) : EV c sc X n ρ (.Attribute (.Name y np) x pos) (.d p) := by
  intro A g s R S
  refine Attribute_name (h.use R S fun v s₁ k₁ S₁ r₁ => ?_)
  obtain ⟨a, dd, m, rfl, na, ha, nd, hn, hf⟩ := r₁
  obtain ⟨u, hu, ru⟩ := hf x p hx
  exact getAttr_of S₁.wd' ha hn hu (handed_rv ru) hfind ⟨k₁.tr (Kp.tok s₁ _), ru⟩
end
end Mine

namespace Mine
open PySem PySem.W PySem.Calls PyProof.Rows PySem.Spec

theorem wpAny_nsSetZ {M : Model} {A : Around} {E : Value → Shared → Prop} {s : Shared} {a : Addr} {m : Str → Option Value} {z : Nat} {name : Str} {v : Value} {Q : Unit → Shared → Prop} (hn : NsZ s.heap a m z)
    (h : ∀ h', NsZ h' a (fun x => if x = name then some v else m x) (z + 1) → Heap.SameBut a s.heap h' → Q () { s with heap := h', toks := s.toks + 1 }) :
    wpAny M A (nsSet a name v) Q E s :=
  let ⟨p, l, q, r⟩ := hn
  wpAny_nsSet1 p fun h' p' hs => h h' ⟨p', name :: l, Nat.succ_le_succ q, Within.cons name v r⟩ hs
theorem NsZ.look {h : Heap} {a : Addr} {m : Str → Option Value} {z : Nat} (x : NsZ h a m z) (hz : z ≤ 1000) : ∃ o, h.get? a = some o ∧ o.data.pastItsLine = none := by
  obtain ⟨p, l, q, r⟩ := x
  obtain ⟨o, es, ep, e, d, c⟩ := p.count r
  exact ⟨o, e, by rw [d]; exact pastItsLine_dict (by rw [sizeLine_eq]; (first | lia | omega))⟩

section
variable {c : Cx} {sc : Scope} {g : Fm} {ρ : Rho} {X : Res} {s s' : Shared} {n : Nat} {A : Around}

/-- turning one thing of M -/
theorem StE.poke (x : StE c sc g ρ X s) (hs : Sm s s') {b : Addr} (hb : b ∈ g.M) (k : ∀ a o, a ≠ b → s.heap.get? a = some o → s'.heap.get? a = some o) (hal : Alive s'.heap b) {X' : Res} (hX : ResOk c g X' s'.heap) : StE c sc g ρ X' s' := by
  have hbW := x.memW b hb
  have kW : ∀ a o, a ∉ g.W → s.heap.get? a = some o → a ∉ g.W ∧ s'.heap.get? a = some o := fun a o n e => ⟨n, k a o (fun m => n (m ▸ hbW)) e⟩
  have kO : ∀ a ∈ own g, ∀ o, s.heap.get? a = some o → s'.heap.get? a = some o := fun a m o e => k a o (fun q => (x.ownW a m).2 (q ▸ hb)) e
  have kA : ∀ a, Alive s.heap a → Alive s'.heap a := fun a ⟨o, e⟩ => by
    by_cases q : a = b
    · exact q ▸ hal
    · exact ⟨o, k a o q e⟩
  exact {
    scp := x.scp, kind := x.kind, glb := x.glb, blt := x.blt, same := x.same.trans hs
    keep := fun a o e => k a o (fun q => by rw [q, x.newM b hb] at e; cases e) (x.keep a o e)
    wd := x.wd
    ns := let ⟨m, e⟩ := x.ns; ⟨m, e.at' (kO _ (.head _))⟩
    cell := fun n a e => let ⟨v, o, h1, h2⟩ := x.cell n a e; ⟨v, o, kO a (List.mem_cons_of_mem _ (List.mem_map.mpr ⟨(n, a), e, rfl⟩)) o h1, h2⟩
    apart := x.apart, cells := x.cells, ownW := x.ownW, memW := x.memW, newW := x.newW, newM := x.newM
    alive := fun a e => ⟨kA a (x.alive a e).1, (x.alive a e).2⟩
    vars := fun n d e => let ⟨v, a, b⟩ := x.vars n d e; ⟨v, a.keep kO, b.to kW⟩
    res := hX
    tmp := x.tmpSt _ _ x.tmp fun q m o e => k q o (fun r => (x.tmpW q m).2.1 (r ▸ hb)) e
    tmpSt := x.tmpSt
    tmpW := fun b m => ⟨(x.tmpW b m).1, (x.tmpW b m).2.1, kA b (x.tmpW b m).2.2⟩
    gho := fun p m => (x.gho p m).to kW }

theorem nodup_at {α β : Type} {l : List (α × β)} (h : (l.map (·.1)).Nodup) {i j : Nat} {a : α} {p q : β} (hi : l[i]? = some (a, p)) (hj : l[j]? = some (a, q)) : i = j := by
  have h1 : (l.map (·.1))[i]? = some a := by rw [List.getElem?_map, hi]; rfl
  have h2 : (l.map (·.1))[j]? = some a := by rw [List.getElem?_map, hj]; rfl
  have li := (List.getElem?_eq_some_iff.mp h1).1
  have lj := (List.getElem?_eq_some_iff.mp h2).1
  have e1 := (List.getElem?_eq_some_iff.mp h1).2
  have e2 := (List.getElem?_eq_some_iff.mp h2).2
  rcases Nat.lt_trichotomy i j with q | q | q
  · exact absurd (e1.trans e2.symm) (List.pairwise_iff_getElem.mp h i j li lj q)
  · exact q
  · exact absurd (e2.trans e1.symm) (List.pairwise_iff_getElem.mp h j i lj li q)

theorem ResOk.setL (x : StE c sc g ρ X s) {i : Nat} {l : Addr} {ds ds' : List PyData} (hi : X.ls[i]? = some (l, ds)) (k : ∀ a o, a ≠ l → s.heap.get? a = some o → s'.heap.get? a = some o) (hl : Lst g.W s'.heap l ds') :
    ResOk c g { X with ls := X.ls.set i (l, ds') } s'.heap := by
  have hmem : (l, ds) ∈ X.ls := List.mem_of_getElem? hi
  have hM := (x.res.ls l ds hmem).1
  have hnd := List.nodup_append.mp x.res.apart
  have kW : ∀ a o, a ∉ g.W → s.heap.get? a = some o → a ∉ g.W ∧ s'.heap.get? a = some o := fun a o n e => ⟨n, k a o (fun m => n (m ▸ x.memW l hM)) e⟩
  refine ⟨fun a es m => ?_, fun a dd fs m => ?_, ?_⟩
  · obtain ⟨j, hj⟩ := List.mem_iff_getElem?.mp m
    rw [List.getElem?_set] at hj
    by_cases hij : i = j
    · rw [if_pos hij] at hj
      split at hj
      · cases hj; exact ⟨hM, hl⟩
      · cases hj
    · rw [if_neg hij] at hj
      have hm' := List.mem_of_getElem? hj
      have hne : a ≠ l := fun e => hij (nodup_at hnd.1 hi (e ▸ hj))
      exact ⟨(x.res.ls a es hm').1, (x.res.ls a es hm').2.to kW fun o e => k a o hne e⟩
  · obtain ⟨h1, h2, h5⟩ := x.res.os a dd fs m
    refine ⟨h1, h2, h5.to kW (fun o e => (kW a o h2 e).2) fun o e => k dd o (fun q => ?_) e⟩
    exact hnd.2.2 l (List.mem_map.mpr ⟨_, hmem, rfl⟩) dd (List.mem_map.mpr ⟨_, m, rfl⟩) q.symm
  · have e : (X.ls.set i (l, ds')).map (·.1) = X.ls.map (·.1) := by
      rw [List.map_set]
      have h1 : (X.ls.map (·.1))[i]? = some l := by rw [List.getElem?_map, hi]; rfl
      obtain ⟨li, e1⟩ := List.getElem?_eq_some_iff.mp h1
      apply List.ext_getElem?
      intro j
      rw [List.getElem?_set]
      split
      · rename_i h; subst h; exact h1.symm
      · rfl
    show ((X.ls.set i (l, ds')).map (·.1) ++ _).Nodup
    rw [e]; exact x.res.apart
theorem ResOk.setO (x : StE c sc g ρ X s) {a dd : Addr} {fs fs' : List (Str × V)} (ho : X.os = [(a, dd, fs)]) (k : ∀ b o, b ≠ dd → s.heap.get? b = some o → s'.heap.get? b = some o) (hl : IsObj c g.W s'.heap a dd fs') :
    ResOk c g { X with os := [(a, dd, fs')] } s'.heap := by
  have hmem : (a, dd, fs) ∈ X.os := by rw [ho]; exact .head _
  obtain ⟨h1, h2, h5⟩ := x.res.os a dd fs hmem
  have hnd := x.res.apart
  rw [ho] at hnd
  have hnd' := List.nodup_append.mp hnd
  have kW : ∀ b o, b ∉ g.W → s.heap.get? b = some o → b ∉ g.W ∧ s'.heap.get? b = some o := fun b o n e => ⟨n, k b o (fun m => n (m ▸ x.memW dd h1)) e⟩
  refine ⟨fun b es m => ⟨(x.res.ls b es m).1, (x.res.ls b es m).2.to kW fun o e => k b o (fun q => ?_) e⟩, fun b d' fs'' m => ?_, hnd⟩
  · exact hnd'.2.2 b (List.mem_map.mpr ⟨_, m, rfl⟩) dd (.head _) q
  · cases List.mem_singleton.mp m
    exact ⟨h1, h2, hl⟩

/-! reading -/
noncomputable def notVal : V → Bool
  | .val _ => false
  | _ => true
theorem handed_rw {W : List Addr} {h : Heap} {v : Value} {d : V} (r : Rw c W h v d) (hd : notVal d = true) : handedIn v = true := by
  cases d with
  | d p => exact handed_rv r
  | «at» a => cases r; rfl
  | val u => cases hd
  | ob fs => obtain ⟨a, dd, m, rfl, _⟩ := r; rfl
theorem EV.attrM {y x : Str} {np pos : Pos} {a dd : Addr} {fs : List (Str × V)} {d : V} (ho : X.os = [(a, dd, fs)]) (h : ρ.lookup y = some (.at a)) (hx : fs.lookup x = some d) (hfind : findIn c.K (.ref c.C) x = some none) (hv : notVal d = true := by rfl)
    (hd : (y == ("__debug__" : Str)) = false := by rfl) (hn : (y == ("__classdict__" : Str)) = false := by rfl) : EV c sc X n ρ (.Attribute (.Name y np) x pos) d := by
  intro A g s R S
  refine Attribute_name ((EV.name h hd hn).use R S fun v s₁ k₁ S₁ r₁ => ?_)
  obtain rfl : v = .ref a := r₁
  obtain ⟨h1, h2, ha, m, hz, hf⟩ := S₁.res.os a dd fs (by rw [ho]; exact .head _)
  obtain ⟨u, hu, ru⟩ := hf x d hx
  exact getAttr_of S₁.wd' ha hz.ns hu (handed_rw ru hv) hfind ⟨k₁.tr (Kp.tok s₁ _), ru⟩
theorem EV.itemAt {a i : Expr} {pos : Pos} {l : Addr} {ds : List PyData} {j : Nat} {k : Int} {p : PyData} (ha : EV c sc X n ρ a (.at l)) (hL : X.ls[j]? = some (l, ds)) (hi : EV c sc X n ρ i (.d (.int k))) (h0 : 0 ≤ k) (hk : k < 2 ^ 62) (hx : ds[k.toNat]? = some p)
    (hs : ∀ l u, subscripted i false (.ref l) (.int k u) = operate [.ref l, .int k u] (getItem (.ref l) (.int k u)) := by intro _ _; with_unfolding_all rfl) : EV c sc X n ρ (.Subscript a i pos) (.d p) := by
  intro A g s R S
  refine Subscript_ (ha.use R S fun v s₁ k₁ S₁ r₁ => hi.use R S₁ fun v' s₂ k₂ S₂ r₂ => ?_)
  obtain rfl : v = .ref l := r₁
  obtain ⟨u, rfl⟩ := Rv.int_inv r₂
  obtain ⟨_, vs, hl, rs⟩ := S₂.res.ls l ds (List.mem_of_getElem? hL)
  obtain ⟨x, hx', rx⟩ := rs.at hx
  exact tail_any hl.isList.typeIs slot_list_getitem.lookup (wpAny_getItem_list hl.isList h0 (by (first | lia | omega)) (by simpa using hx') ⟨k₁.tr k₂, rx⟩) (hs _ _)
theorem EV.lenAt {px pos : Pos} {e : Expr} {l : Addr} {ds : List PyData} {j : Nat} (ha : EV c sc X n ρ e (.at l)) (hL : X.ls[j]? = some (l, ds)) (hg : c.gv "len" = some (.builtin "len")) (hz : ds.length ≤ 2 ^ 20) (hk : sc.names.lookup ("len" : Str) = some .globalImplicit := by rfl)
    (he : ∀ rest env, starEach (e :: rest) env = (false, eval e env) :: starEach rest env := by intro _ _; rfl) : EV c sc X n ρ (.Call (.Name "len" px) [e] [] pos) (.d (.int ds.length)) :=
  EV.blt ha hg (fun A g s v R S r Q q => by
    obtain rfl : v = .ref l := r
    obtain ⟨_, vs, hl, rs⟩ := S.res.ls l ds (List.mem_of_getElem? hL)
    have e : vs.size = ds.length := rs.length
    refine len_list hl.isList (by (first | lia | omega)) (q _ _ (Kp.tok s _) ?_)
    rw [e]; exact .int _ _) hk (by rfl) he

/-! writing -/
theorem setattr_core {y x : Str} {np : Pos} {a dd : Addr} {fs : List (Str × V)} {d : V} {v : Value} {Q : Shared → Prop} (R : RoomE A n) (S : StE c sc g ρ X s) (r : Rw c g.W s.heap v d) (ho : X.os = [(a, dd, fs)]) (h : ρ.lookup y = some (.at a)) (hfind : findIn c.K (.ref c.C) x = some none) (hz : fs.length ≤ 999)
    (k : ∀ s', StE c sc g ρ { X with os := [(a, dd, (x, d) :: fs)] } s' → Q s') (hd : (y == ("__debug__" : Str)) = false) (hn : (y == ("__classdict__" : Str)) = false) :
    wpAny (model c.prog c.w) A (eval (.Name y np) g.env) (fun ov s₂ => wpAny (model c.prog c.w) A (setAttr ov x v) (fun _ s' => Q s') nE s₂) nE s := by
  refine (EV.name (pos := np) h hd hn).use R S fun v' s₂ k₂ S₂ r₂ => ?_
  obtain rfl : v' = .ref a := r₂
  have rv := r.keep (keeps_sm k₂).2
  obtain ⟨h1, h2, ha, m, hN, hf⟩ := S₂.res.os a dd fs (by rw [ho]; exact .head _)
  obtain ⟨od, hod⟩ : ∃ od, s₂.heap.get? dd = some od := let ⟨o, _, _, e, _⟩ := hN.ns; ⟨o, e⟩
  have I : InstAt s₂.heap a (instObj c.C dd) c.C (some od) := ⟨ha, rfl, rfl, hod⟩
  have XK := S₂.wd'.K
  refine set_plain XK I c.setat ?_
  have ht : takerIn c.K c.C x = some none := by unfold takerIn; rw [hfind]; rfl
  refine osa_open XK I c.plain ht fun b => ?_
  show wpAny _ _ (Builtin.ObjectAttr.storeInOwnDict (.ref a) (.ref c.C) (.str x s₂.toks) x v b) _ _ _
  refine wpAny_bind (wpAny_pure (wpAny_bind (wpAny_bind (wpAny_loadPart ha (wpAny_bind (Looks.here (s := { s₂ with toks := s₂.toks + 1 }) (looks_clsIn XK c.cls) ?_))))))
  rw [c.hasDict]
  refine wpAny_pure (a := some dd) (wpAny_bind (wpAny_pure (wpAny_bind ?_)))
  refine wpAny_nsSetZ (s := { s₂ with toks := s₂.toks + 1 }) hN fun h' hN' hsb => ?_
  obtain ⟨o', ho', hp⟩ := hN'.look (by (first | lia | omega))
  refine wpAny_bind (wpAny_lookBehind ho' hp (wpAny_pure ?_))
  have kb : ∀ b o, b ≠ dd → s₂.heap.get? b = some o → h'.get? b = some o := fun b o nb e => hsb.extBut b o nb e
  have hne : a ≠ dd := fun e => h2 (e ▸ S₂.memW dd h1)
  have kW : ∀ b o, b ∉ g.W → s₂.heap.get? b = some o → b ∉ g.W ∧ h'.get? b = some o := fun b o n e => ⟨n, kb b o (fun m => n (m ▸ S₂.memW dd h1)) e⟩
  refine k _ (S₂.poke (s' := { s₂ with heap := h', toks := s₂.toks + 1 + 1 }) ⟨h', _, rfl⟩ h1 kb ⟨o', ho'⟩ (ResOk.setO S₂ ho kb ⟨kb a _ hne ha, _, hN', fun z e hz' => ?_⟩))
  by_cases hzx : z = x
  · subst hzx
    rw [List.lookup_cons, show (z == z) = true from beq_self_eq_true z] at hz'
    cases hz'
    exact ⟨v, if_pos rfl, rv.to kW⟩
  · rw [List.lookup_cons, show (z == x) = false from beq_eq_false_iff_ne.mpr hzx] at hz'
    obtain ⟨u, hu, ru⟩ := hf z e hz'
    exact ⟨u, by show (if z = x then _ else _) = _; rw [if_neg hzx]; exact hu, ru.to kW⟩
theorem x_setattr {y x : Str} {np ap pos : Pos} {e : Expr} {rest : List Stmt} {a dd : Addr} {fs : List (Str × V)} {d : V} {Q : Flow → Shared → Prop} (he : EV c sc X n ρ e d) (R : RoomE A n) (S : StE c sc g ρ X s) (ho : X.os = [(a, dd, fs)]) (h : ρ.lookup y = some (.at a)) (hfind : findIn c.K (.ref c.C) x = some none) (hz : fs.length ≤ 999)
    (k : ∀ s', StE c sc g ρ { X with os := [(a, dd, (x, d) :: fs)] } s' → wpAny (model c.prog c.w) A (execs rest g.env) Q nE s')
    (hs : ∀ env : Env, env.scope = sc → swapsWith e (some (.Attribute (.Name y np) x ap)) pos.line env = pure false := by intro _ _; rfl)
    (hd : (y == ("__debug__" : Str)) = false := by rfl) (hn : (y == ("__classdict__" : Str)) = false := by rfl) : wpAny (model c.prog c.w) A (execs (.Assign [.Attribute (.Name y np) x ap] e pos :: rest) g.env) Q nE s := by
  exact wpAny_execs_cons (plainObj_wpAny_Assign_Attribute (he.use R S fun v s₁ k₁ S₁ r₁ => setattr_core R S₁ r₁ ho h hfind hz (fun s' S' => k s' S') hd hn) (hs _ S.scp))
end
end Mine

namespace Mine
open PySem PySem.W PySem.Calls PyProof.Rows PySem.Spec
section
variable {c : Cx} {sc : Scope} {g : Fm} {ρ : Rho} {X : Res} {s s' : Shared} {n : Nat} {A : Around}

/-! appending and item stores -/
theorem poke_list (S : StE c sc g ρ X s) {j : Nat} {l : Addr} {ds ds' : List PyData} {vs' : Array Value} (hL : X.ls[j]? = some (l, ds)) {h' : Heap} (tk : Nat) (hl : h'.PlainList l vs') (hsb : Heap.SameBut l s.heap h') (rs : Rvs g.W s.heap vs'.toList ds') :
    StE c sc g ρ { X with ls := X.ls.set j (l, ds') } { s with heap := h', toks := tk } := by
  have hm := List.mem_of_getElem? hL
  have hM := (S.res.ls l ds hm).1
  have kb : ∀ b o, b ≠ l → s.heap.get? b = some o → h'.get? b = some o := fun b o nb e => hsb.extBut b o nb e
  have kW : ∀ b o, b ∉ g.W → s.heap.get? b = some o → b ∉ g.W ∧ h'.get? b = some o := fun b o n e => ⟨n, kb b o (fun m => n (m ▸ S.memW l hM)) e⟩
  exact S.poke (s' := { s with heap := h', toks := tk }) ⟨h', tk, rfl⟩ hM kb (let ⟨n, e⟩ := hl; ⟨_, e⟩) (ResOk.setL (s' := { s with heap := h', toks := tk }) S hL kb ⟨vs', hl, rs.to kW⟩)
theorem x_append {o e : Expr} {ap pos pos' : Pos} {rest : List Stmt} {l : Addr} {ds : List PyData} {j : Nat} {p : PyData} {Q : Flow → Shared → Prop} (ho : EV c sc X n ρ o (.at l)) (hL : X.ls[j]? = some (l, ds)) (he : EV c sc X n ρ e (.d p)) (R : RoomE A n) (S : StE c sc g ρ X s) (hz : ds.length ≤ 2 ^ 20)
    (k : ∀ s', StE c sc g ρ { X with ls := X.ls.set j (l, ds ++ [p]) } s' → wpAny (model c.prog c.w) A (execs rest g.env) Q nE s')
    (hs : ∀ env : Env, env.scope = sc → swapsWith (.Call (.Attribute o "append" ap) [e] [] pos) none pos'.line env = pure false := by intro _ _; rfl)
    (hst : ∀ rest env, starEach (e :: rest) env = (false, eval e env) :: starEach rest env := by intro _ _; rfl)
    (hf : ∀ env, ∃ pl, eval (.Call (.Attribute o "append" ap) [e] [] pos) env = (do
      let ov ← eval o env
      standAt ap.atName
      let (f, first) ← holding [ov] (getMethod ov "append" pl)
      callWith pos f first (backTo pos (starEach [e] env)) (backToKw pos (keywordEach [] env))) := by intro _; exact ⟨_, rfl⟩) : wpAny (model c.prog c.w) A (execs (.Expr (.Call (.Attribute o "append" ap) [e] [] pos) pos' :: rest) g.env) Q nE s := by
  have hint : interactive g.env = false := by
    unfold interactive
    rw [S.scp, S.kind]; rfl
  obtain ⟨pl, hpl⟩ := hf g.env
  refine wpAny_execs_cons (wpAny_Expr (methodCall_KW (pl := pl) (ho.use R S fun v s₁ k₁ S₁ r₁ => ?_) hpl) hint (hs _ S.scp))
  obtain rfl : v = .ref l := r₁
  obtain ⟨_, vs, ⟨m, hl⟩, rs⟩ := S₁.res.ls l ds (List.mem_of_getElem? hL)
  refine getMethod_builtin ⟨_, hl, rfl⟩ PySem.F.plainAttrs_list PySem.F.slot_list_append PySem.F.type_list_append (fun a e => by cases e; exact ⟨_, hl, rfl⟩) ?_
  have main := (EVs.cons he EVs.nil hst).use (pos := pos) R S₁ (Q := fun vs s₂ => wpAny (model c.prog c.w) A (PySem.call (.builtin "list.append") ([.ref l] ++ vs)) (fun v s' => match v with | .ref _ => False | _ => wpAny (model c.prog c.w) A (execs rest g.env) Q nE s') nE s₂) fun vs s₂ k₂ S₂ r₂ => by
    replace r₂ := r₂.one
    obtain ⟨_, rfl, r₂⟩ := r₂
    obtain ⟨_, us, hl', rs'⟩ := S₂.res.ls l ds (List.mem_of_getElem? hL)
    have e1 : us.size = ds.length := rs'.length
    refine wpAny_list_append_plain hl' (fun h' hp hsb => k _ (poke_list S₂ hL s₂.toks hp hsb ?_)) (by rw [sizeLine_eq]; (first | lia | omega))
    have := rs'.app (.cons r₂ .nil)
    simpa using this
  rw [hst] at main ⊢
  exact PySem.Calls.callWith_builtin rfl (evalArgs_plain main)

/-- a list that stays a plain one when an item is set -/
theorem setItem_plain {prog : Program} {w : World} {E : Value → Shared → Prop} {l : Addr} {items : Array Value} {k : Int} {t : Tok} {v : Value} {Q : Unit → Shared → Prop} (hp : s.heap.PlainList l items) (h0 : 0 ≤ k) (hk : k < items.size) (hz : k < 2 ^ 62)
    (hQ : ∀ h', h'.PlainList l (items.setIfInBounds k.toNat v) → Heap.SameBut l s.heap h' → Q () { s with heap := h' }) :
    wpAny (model prog w) A (setItem (.ref l) (.int k t) v) Q E s := by
  have isl := hp.isList
  obtain ⟨o, m, m', new, ho, hd⟩ : ∃ (o : Obj) (m m' : Nat), Obj.mapSeq (fun xs => xs.setIfInBounds k.toNat v) o = { cls := .type "list", data := .seq (items.setIfInBounds k.toNat v) m' } ∧ s.heap.get? l = some o ∧ o.data = .seq items m :=
    let ⟨m, e⟩ := hp; ⟨_, m, _, rfl, e, rfl⟩
  have after : (s.heap.update l (Obj.mapSeq fun xs => xs.setIfInBounds k.toNat v)).PlainList l (items.setIfInBounds k.toNat v) :=
    ⟨m', (Heap.get?_update_self _ ho (by rw [new]; rfl)).trans (congrArg some new)⟩
  have fin := hQ _ after (Heap.SameBut.update ..)
  have body : wpAny (model prog w) A (PySem.call (.builtin "list.__setitem__") [.ref l, .int k t, v]) (fun r s' => r = .none ∧ Q () s') E s := by
    refine wpAny_call_entry slot_list_setitem isl.typeIs entry_list_setitem ?_ (args_list_setitem _ _ _)
    show wpAny _ _ (Builtin.List.listSubscript? (.int k t) >>= _) _ _ s
    refine wpAny_bind (wpAny_listSubscript_int (fitsIndex_of h0 (by (first | lia | omega))) ?_)
    obtain ⟨j, rfl⟩ := Int.eq_ofNat_of_zero_le h0
    have item : items[j]? = some items[j] := Array.getElem?_eq_getElem (by (first | lia | omega))
    show wpAny _ _ ((seqItemAt l j >>= fun r => pure (r.map (j, ·))) >>= _) _ _ s
    refine wpAny_bind (wpAny_bind (wpAny_seqItemAt ho hd (wpAny_pure ?_)))
    rw [item]
    show wpAny _ _ (setSeqItemAt l j v >>= _) _ _ s
    exact wpAny_bind (wpAny_setSeqItemAt ho hd (wpAny_pure ⟨.none, rfl, rfl, fin⟩))
  unfold setItem
  exact wpAny_holding (wpAny_bind (wpAny_sequenceKey isl.typeIs (by decide) (wpAny_bind (wpAny_callSpecial?_slot (name := Str.ofString "__setitem__") isl.typeIs slot_list_setitem (wpAny_mono body (fun r s' h => wpAny_pure h.2) fun _ _ h => h)))))
theorem x_setitem {o i e : Expr} {ip pos : Pos} {rest : List Stmt} {l : Addr} {ds : List PyData} {j : Nat} {k : Int} {p : PyData} {Q : Flow → Shared → Prop} (he : EV c sc X n ρ e (.d p)) (ho : EV c sc X n ρ o (.at l)) (hi : EV c sc X n ρ i (.d (.int k))) (hL : X.ls[j]? = some (l, ds)) (R : RoomE A n) (S : StE c sc g ρ X s) (h0 : 0 ≤ k) (hk : k < ds.length) (hz : ds.length ≤ 2 ^ 20)
    (h : ∀ s', StE c sc g ρ { X with ls := X.ls.set j (l, ds.set k.toNat p) } s' → wpAny (model c.prog c.w) A (execs rest g.env) Q nE s')
    (hs : ∀ env : Env, env.scope = sc → swapsWith e (some (.Subscript o i ip)) pos.line env = pure false := by intro _ _; rfl) : wpAny (model c.prog c.w) A (execs (.Assign [.Subscript o i ip] e pos :: rest) g.env) Q nE s := by
  refine wpAny_execs_cons (wpAny_Assign_Subscript (he.use R S fun v s₁ k₁ S₁ r₁ => ho.use R S₁ fun v' s₂ k₂ S₂ r₂ => hi.use R S₂ fun v'' s₃ k₃ S₃ r₃ => ?_) (hs _ S.scp))
  obtain rfl : v' = .ref l := r₂
  obtain ⟨t, rfl⟩ := Rv.int_inv r₃
  have rv := r₁.keep (keeps_sm (k₂.tr k₃)).2
  obtain ⟨_, vs, hl, rs⟩ := S₃.res.ls l ds (List.mem_of_getElem? hL)
  have e1 : vs.size = ds.length := rs.length
  refine setItem_plain hl h0 (by (first | lia | omega)) (by (first | lia | omega)) fun h' hpl hsb => h _ ?_
  refine poke_list S₃ hL s₃.toks hpl hsb ?_
  have := rs.set rv k.toNat
  simpa using this

/-! new lists of our own -/
noncomputable def gM (g : Fm) (l : Addr) : Fm := { g with W := l :: g.W, M := l :: g.M }
noncomputable def gW (g : Fm) (W M : List Addr) : Fm := { g with W := W, M := M }
/-- evaluates to a new list -/
noncomputable def EN (c : Cx) (sc : Scope) (X : Res) (n : Nat) (ρ : Rho) (e : Expr) (ds : List PyData) : Prop :=
  ∀ A g s, RoomE A n → StE c sc g ρ X s → wpAny (model c.prog c.w) A (eval e g.env) (fun v s' => Kp s s' ∧ ∃ l, v = .ref l ∧ (s.heap.get? l = none ∧ c.base < l) ∧ Lst (l :: g.W) s'.heap l ds) nE s

theorem EN.use {e : Expr} {ds : List PyData} (he : EN c sc X n ρ e ds) (R : RoomE A n) (S : StE c sc g ρ X s) {Q : Value → Shared → Prop} (h : ∀ l s', Kp s s' → StE c sc g ρ X s' → s.heap.get? l = none → c.base < l → Lst (l :: g.W) s'.heap l ds → Q (.ref l) s') : wpAny (model c.prog c.w) A (eval e g.env) Q nE s :=
  wpAny_mono (he A g s R S) (fun _ s' r => r.2.elim fun l q => q.1 ▸ h l s' r.1 (S.exk r.1) q.2.1.1 q.2.1.2 q.2.2) fun _ _ h => h.elim
theorem Rvs.fresh {W : List Addr} {h : Heap} {l : Addr} (hl : h.get? l = none) {v : List Value} {d : List PyData} (r : Rvs W h v d) : Rvs (l :: W) h v d := r.to fun a o n e => ⟨fun m =>
  (List.mem_cons.mp m).elim (fun q => nomatch (q ▸ hl).symm.trans e) n, e⟩
theorem EN.nil {pos : Pos} : EN c sc X n ρ (.List [] pos) [] := by
  intro A g s R S
  refine wpAny_List (EVs.nil.use R S fun vs s₁ k₁ S₁ r₁ => ?_)
  cases r₁.none
  exact ⟨by simp, k₁.tr (Kp.push s₁ _ _), _, rfl, fresh_at S₁ k₁, _, ⟨0, Heap.get?_push_size _ rfl⟩, .nil⟩
theorem EN.listOf {px pos : Pos} {e : Expr} {ds : List PyData} (ha : EV c sc X n ρ e (.d (.list ds))) (hg : c.gv "list" = some (.type "list")) (hz : ds.length ≤ 2 ^ 20) (hk : sc.names.lookup ("list" : Str) = some .globalImplicit := by rfl)
    (he : ∀ rest env, starEach (e :: rest) env = (false, eval e env) :: starEach rest env := by intro _ _; rfl) : EN c sc X n ρ (.Call (.Name "list" px) [e] [] pos) ds := by
  intro A g s R S
  refine typ_call (EVs.cons ha EVs.nil he) R S hg (fun s₁ vs k₁ S₁ r₁ => ?_) hk (by rfl) he (by intro _ _; rfl)
  replace r₁ := r₁.one
  obtain ⟨_, rfl, r⟩ := r₁
  obtain ⟨l, us, rfl, ⟨o, ho, hc, k, hd⟩, hn, rs⟩ := Rv.list_inv r
  have e : us.size = ds.length := rs.length
  refine call_list_seq l (.inl rfl) ho hc hd (fun h' c' kp hnew => ⟨k₁.tr ⟨h', s₁.toks, rfl, kp⟩, _, rfl, fresh_at S₁ k₁, _, ⟨_, hnew⟩, ?_⟩) (by rw [sizeLine_eq]; (first | lia | omega))
  exact (rs.fresh (dead_at (Nat.le_refl _))).keep kp
theorem EN.rep {b : Expr} {pos pos' : Pos} {cp : Pos} {kk : Nat} {k : Nat} (hb : EV c sc X n ρ b (.d (.int k))) (hz : k ≤ 2 ^ 20) : EN c sc X n ρ (.BinOp (.List [.Constant .none kk cp] pos) .Mult b pos') (List.replicate k .none) := by
  intro A g s R S
  refine wpAny_BinOp (wpAny_List ((EVs.cons (EV.cnone (k := kk) (pos := cp)) EVs.nil).use R S fun vs s₁ k₁ S₁ r₁ => ?_))
  replace r₁ := r₁.one
  obtain ⟨_, rfl, r₁⟩ := r₁
  obtain rfl := Rv.none_inv r₁
  refine ⟨by rw [sizeLine_eq]; simp, ?_⟩
  have kp : Kp s₁ { s₁ with heap := s₁.heap.push { cls := .type "list", data := .seq ([.none] : List Value).toArray } } := Kp.push s₁ _ s₁.toks
  have hl : (s₁.heap.push { cls := .type "list", data := .seq ([.none] : List Value).toArray }).get? s₁.heap.objs.size = some { cls := .type "list", data := .seq ([.none] : List Value).toArray } := Heap.get?_push_size _ rfl
  refine hb.use R (S₁.exk kp) fun v' s₂ k₂ S₂ r₂ => ?_
  obtain ⟨t, rfl⟩ := Rv.int_inv r₂
  have hl₂ := (keeps_sm k₂).2 _ _ hl
  refine mul_list1 hl₂ rfl (by (first | lia | omega)) (by simpa using hz) fun its hi => ?_
  have k12 := (k₁.tr kp).tr k₂
  refine ⟨k12.tr (Kp.push s₂ _ s₂.toks), _, rfl, fresh_at S₂ k12, its, ⟨0, Heap.get?_push_size _ rfl⟩, ?_⟩
  rw [hi, Int.toNat_natCast]
  have r := Rvs.rep (.none : Rv (s₂.heap.objs.size :: g.W) (s₂.heap.push { cls := .type "list", data := .seq its }) .none .none) k
  rw [← rep_flat Value.none k] at r
  exact r

theorem StE.alloc (x : StE c sc g ρ X s) (k : Kp s s') {l : Addr} {ds : List PyData} (hd : s.heap.get? l = none) (hb : c.base < l) (hl : Lst (l :: g.W) s'.heap l ds) : StE c sc (gM g l) ρ { X with ls := (l, ds) :: X.ls } s' := by
  have y := x.exk k
  have hne : ∀ a, Alive s.heap a → a ≠ l := fun a ⟨o, e⟩ q => by rw [q, hd] at e; cases e
  have kW : ∀ a o, a ∉ g.W → s.heap.get? a = some o → a ∉ l :: g.W ∧ s'.heap.get? a = some o := fun a o n e => ⟨fun m => by
    rcases List.mem_cons.mp m with m | m
    · exact hne a ⟨o, e⟩ m
    · exact n m, (keeps_sm k).2 a o e⟩
  have hal : Alive s'.heap l := let ⟨vs, ⟨m, e⟩, _⟩ := hl; ⟨_, e⟩
  exact { scp := y.scp, kind := y.kind, glb := y.glb, blt := y.blt, same := y.same, keep := y.keep, wd := y.wd, ns := y.ns, cell := y.cell, apart := y.apart, cells := y.cells
          ownW := fun a m => ⟨List.mem_cons_of_mem _ (y.ownW a m).1, fun q => by
            rcases List.mem_cons.mp q with q | q
            · exact hne a (x.alive a (x.ownW a m).1).1 q
            · exact (y.ownW a m).2 q⟩
          memW := fun a m => by
            rcases List.mem_cons.mp m with rfl | m
            · exact .head _
            · exact List.mem_cons_of_mem _ (y.memW a m)
          newW := y.newW
          newM := fun a m => by
            rcases List.mem_cons.mp m with rfl | m
            · cases e : g.s0.heap.get? a with
              | none => exact e
              | some o => have := x.keep a o e; rw [hd] at this; cases this
            · exact y.newM a m
          alive := fun a m => by
            rcases List.mem_cons.mp m with rfl | m
            · exact ⟨hal, hb⟩
            · exact y.alive a m
          vars := fun z d e => let ⟨v, q, r⟩ := x.vars z d e; ⟨v, q.keep fun a _ o e => (keeps_sm k).2 a o e, r.to kW⟩
          res := ⟨fun a es m => by
              rcases List.mem_cons.mp m with m | m
              · cases m; exact ⟨.head _, hl⟩
              · exact ⟨List.mem_cons_of_mem _ (x.res.ls a es m).1, (x.res.ls a es m).2.to kW fun o e => (keeps_sm k).2 a o e⟩,
            fun a dd fs m => let ⟨h1, h2, h5⟩ := x.res.os a dd fs m; ⟨List.mem_cons_of_mem _ h1, (kW a _ h2 h5.1).1, h5.to kW (fun o e => (keeps_sm k).2 a o e) fun o e => (keeps_sm k).2 dd o e⟩, by
              refine List.nodup_cons.mpr ⟨fun m => ?_, x.res.apart⟩
              rcases List.mem_append.mp m with m | m
              · obtain ⟨p, hp, e⟩ := List.mem_map.mp m
                exact hne p.1 (x.alive _ (x.memW _ (x.res.ls p.1 p.2 hp).1)).1 e
              · obtain ⟨p, hp, e⟩ := List.mem_map.mp m
                exact hne p.2.1 (x.alive _ (x.memW _ (x.res.os p.1 p.2.1 p.2.2 hp).1)).1 e⟩
          tmp := y.tmp, tmpSt := y.tmpSt
          tmpW := fun b m => ⟨(y.tmpW b m).1, fun q => by
            rcases List.mem_cons.mp q with q | q
            · exact hne b (x.tmpW b m).2.2 q
            · exact (y.tmpW b m).2.1 q, (y.tmpW b m).2.2⟩
          gho := fun p m => (x.gho p m).to kW }
/-- y = a new list -/
theorem x_asgN {y : Str} {px pos : Pos} {e : Expr} {rest : List Stmt} {ds : List PyData} {Q : Flow → Shared → Prop} (he : EN c sc X n ρ e ds) (R : RoomE A n) (x : StE c sc g ρ X s) (hk : canStore sc y)
    (h : ∀ l s', l ∉ g.W → StE c sc (gM g l) ((y, .at l) :: ρ) { X with ls := (l, ds) :: X.ls } s' → wpAny (model c.prog c.w) A (execs rest (gM g l).env) Q nE s')
    (hs : ∀ env : Env, env.scope = sc → swapsWith e (some (.Name y px)) pos.line env = pure false := by intro _ _; rfl) : wpAny (model c.prog c.w) A (execs (.Assign [.Name y px] e pos :: rest) g.env) Q nE s := by
  refine wpAny_execs_cons (wpAny_Assign_Name (he.use R x fun l s₁ k₁ _ hd hb hl => ?_) (hs _ x.scp))
  have hW : l ∉ g.W := fun m => by obtain ⟨o, e⟩ := (x.alive l m).1; rw [hd] at e; cases e
  exact StE.store (g := gM g l) (x.alloc k₁ hd hb hl) (d := .at l) rfl hk fun s₂ S₂ _ _ => h l s₂ hW S₂
end
end Mine

namespace Mine
open PySem PySem.W PySem.Calls PyProof.Rows PySem.Spec
section
variable {c : Cx} {sc : Scope} {g : Fm} {ρ : Rho} {X : Res} {s s' : Shared} {n : Nat} {A : Around}

/-- a field set to a new list -/
theorem x_setN {y x : Str} {np ap pos : Pos} {e : Expr} {rest : List Stmt} {ds : List PyData} {a dd : Addr} {fs : List (Str × V)} {Q : Flow → Shared → Prop} (he : EN c sc X n ρ e ds) (R : RoomE A n) (S : StE c sc g ρ X s) (ho : X.os = [(a, dd, fs)]) (h : ρ.lookup y = some (.at a)) (hfind : findIn c.K (.ref c.C) x = some none) (hz : fs.length ≤ 999)
    (k : ∀ l s', l ∉ g.W → StE c sc (gM g l) ρ { ls := (l, ds) :: X.ls, os := [(a, dd, (x, .at l) :: fs)] } s' → wpAny (model c.prog c.w) A (execs rest (gM g l).env) Q nE s')
    (hs : ∀ env : Env, env.scope = sc → swapsWith e (some (.Attribute (.Name y np) x ap)) pos.line env = pure false := by intro _ _; rfl)
    (hd : (y == ("__debug__" : Str)) = false := by rfl) (hn : (y == ("__classdict__" : Str)) = false := by rfl) : wpAny (model c.prog c.w) A (execs (.Assign [.Attribute (.Name y np) x ap] e pos :: rest) g.env) Q nE s := by
  refine wpAny_execs_cons (plainObj_wpAny_Assign_Attribute (he.use R S fun l s₁ k₁ _ hd' hb hl => ?_) (hs _ S.scp))
  have hW : l ∉ g.W := fun m => by obtain ⟨o, e⟩ := (S.alive l m).1; rw [hd'] at e; cases e
  exact setattr_core (g := gM g l) (d := .at l) R (S.alloc k₁ hd' hb hl) rfl ho h hfind hz (fun s' S' => k l s' hW S') hd hn

/-! lists and objects done with -/
noncomputable def Frz (X : Res) (W2 : List Addr) (F F' : List (Str × V)) : Prop := ∀ x d, F'.lookup x = some d → F.lookup x = some d ∨ ∃ l ds, (l, ds) ∈ X.ls ∧ l ∉ W2 ∧ F.lookup x = some (.at l) ∧ d = .d (.list ds)
theorem Frz.nil {W2 : List Addr} {F : List (Str × V)} : Frz X W2 F [] := fun _ _ e => by simp at e
theorem Frz.keep {W2 : List Addr} {F F' : List (Str × V)} {x : Str} {d : V} (h : F.lookup x = some d) (r : Frz X W2 F F') : Frz X W2 F ((x, d) :: F') := fun y e q => by
  rw [List.lookup_cons] at q
  cases hy : y == x with
  | true => rw [hy] at q; cases q; rw [beq_iff_eq.mp hy]; exact .inl h
  | false => rw [hy] at q; exact r y e q
theorem Frz.turn {W2 : List Addr} {F F' : List (Str × V)} {x : Str} {l : Addr} {ds : List PyData} {j : Nat} (hL : X.ls[j]? = some (l, ds)) (hW : l ∉ W2) (h : F.lookup x = some (.at l)) (r : Frz X W2 F F') : Frz X W2 F ((x, .d (.list ds)) :: F') := fun y e q => by
  rw [List.lookup_cons] at q
  cases hy : y == x with
  | true => rw [hy] at q; cases q; rw [beq_iff_eq.mp hy]; exact .inr ⟨l, ds, List.mem_of_getElem? hL, hW, h, rfl⟩
  | false => rw [hy] at q; exact r y e q

theorem Lst.rv {W W2 : List Addr} {h : Heap} {l : Addr} {ds : List PyData} (x : Lst W h l ds) (hw : ∀ a ∈ W2, a ∈ W) (hl : l ∉ W2) : Rv W2 h (.ref l) (.list ds) := by
  obtain ⟨vs, ⟨m, e⟩, rs⟩ := x
  exact .list e rfl rfl hl (rs.to fun a o n e => ⟨fun q => n (hw a q), e⟩)
theorem Lst.less {W W2 : List Addr} {h : Heap} {l : Addr} {ds : List PyData} (x : Lst W h l ds) (hw : ∀ a ∈ W2, a ∈ W) : Lst W2 h l ds := x.to (fun a o n e => ⟨fun q => n (hw a q), e⟩) fun o e => e
theorem IsObj.less {W W2 : List Addr} {h : Heap} {a dd : Addr} {fs : List (Str × V)} (x : IsObj c W h a dd fs) (hw : ∀ a ∈ W2, a ∈ W) : IsObj c W2 h a dd fs := x.to (fun a o n e => ⟨fun q => n (hw a q), e⟩) (fun o e => e) fun o e => e
theorem Frz.rw {W W2 : List Addr} {h : Heap} {F F' : List (Str × V)} (r : Frz X W2 F F') (hX : ∀ l ds, (l, ds) ∈ X.ls → Lst W h l ds) (hw : ∀ a ∈ W2, a ∈ W) {P : Value → Prop} {x : Str} {d : V} (e : F'.lookup x = some d) (k : ∀ d, F.lookup x = some d → ∃ v, P v ∧ Rw c W h v d) : ∃ v, P v ∧ Rw c W2 h v d := by
  rcases r x d e with q | ⟨l, ds, m, n, q, rfl⟩
  · obtain ⟨v, p, r⟩ := k d q
    exact ⟨v, p, r.less hw⟩
  · obtain ⟨v, p, r⟩ := k _ q
    obtain rfl : v = .ref l := r
    exact ⟨_, p, (hX l ds m).rv hw n⟩

theorem StE.freeze (x : StE c sc g ρ X s) {W2 M2 : List Addr} (h1 : ∀ a ∈ W2, a ∈ g.W) (h2 : ∀ a ∈ M2, a ∈ g.M ∧ a ∈ W2) (h3 : ∀ a ∈ own g, a ∈ W2) {ρ' : Rho} {X' : Res} (hρ : Frz X W2 ρ ρ')
    (hls : ∀ l ds, (l, ds) ∈ X'.ls → (l, ds) ∈ X.ls ∧ l ∈ M2) (hos : ∀ a dd fs', (a, dd, fs') ∈ X'.os → ∃ fs, (a, dd, fs) ∈ X.os ∧ dd ∈ M2 ∧ fs.length ≤ fs'.length ∧ Frz X W2 fs fs') (hap : (X'.ls.map (·.1) ++ X'.os.map (·.2.1)).Nodup) : StE c sc (gW g W2 M2) ρ' X' s :=
  { scp := x.scp, kind := x.kind, glb := x.glb, blt := x.blt, same := x.same, keep := x.keep, wd := x.wd, ns := x.ns, cell := x.cell, apart := x.apart, cells := x.cells
    ownW := fun a m => ⟨h3 a m, fun q => (x.ownW a m).2 (h2 a q).1⟩
    memW := fun a m => (h2 a m).2, newW := x.newW, newM := fun a m => x.newM a (h2 a m).1
    alive := fun a m => x.alive a (h1 a m)
    vars := fun y d e => hρ.rw (fun l ds m => (x.res.ls l ds m).2) h1 e fun d q => x.vars y d q
    res := ⟨fun a ds m => ⟨(hls a ds m).2, (x.res.ls a ds (hls a ds m).1).2.less h1⟩, fun a dd fs' m => by
      obtain ⟨fs, m', hd, hlen, hF⟩ := hos a dd fs' m
      obtain ⟨q1, q2, p, mm, hN, hf⟩ := x.res.os a dd fs m'
      exact ⟨hd, fun q => q2 (h1 a q), p, mm, hN.le hlen, fun z d e => hF.rw (P := fun v => mm z = some v) (fun l ds m => (x.res.ls l ds m).2) h1 e fun d q => hf z d q⟩, hap⟩
    tmp := x.tmp, tmpSt := x.tmpSt
    tmpW := fun b m => ⟨(x.tmpW b m).1, fun q => (x.tmpW b m).2.1 (h2 b q).1, (x.tmpW b m).2.2⟩
    gho := fun p m => (x.gho p m).less h1 }

/-- what a call hands over: new things that are nobody else's -/
structure Owned (c : Cx) (W : List Addr) (s s' : Shared) (Ls : List Addr) (X : Res) : Prop where
  kp : Kp s s'
  fresh : ∀ l ∈ Ls, s.heap.get? l = none ∧ c.base < l
  alive : ∀ l ∈ Ls, Alive s'.heap l
  ls : ∀ a ds, (a, ds) ∈ X.ls → a ∈ Ls ∧ Lst (Ls ++ W) s'.heap a ds
  os : ∀ a dd fs, (a, dd, fs) ∈ X.os → dd ∈ Ls ∧ a ∉ Ls ++ W ∧ IsObj c (Ls ++ W) s'.heap a dd fs
  apart : (X.ls.map (·.1) ++ X.os.map (·.2.1)).Nodup
noncomputable def gA (g : Fm) (Ls : List Addr) : Fm := { g with W := Ls ++ g.W, M := Ls ++ g.M }
theorem StE.adopt (x : StE c sc g ρ {} s) {Ls : List Addr} (O : Owned c g.W s s' Ls X) : StE c sc (gA g Ls) ρ X s' := by
  have y := x.exk O.kp
  have hne : ∀ a, Alive s.heap a → a ∉ Ls := fun a ⟨o, e⟩ q => by rw [(O.fresh a q).1] at e; cases e
  have kW : ∀ a o, a ∉ g.W → s.heap.get? a = some o → a ∉ Ls ++ g.W ∧ s'.heap.get? a = some o := fun a o n e => ⟨fun m => by
    rcases List.mem_append.mp m with m | m
    · exact hne a ⟨o, e⟩ m
    · exact n m, (keeps_sm O.kp).2 a o e⟩
  exact { scp := y.scp, kind := y.kind, glb := y.glb, blt := y.blt, same := y.same, keep := y.keep, wd := y.wd, ns := y.ns, cell := y.cell, apart := y.apart, cells := y.cells
          ownW := fun a m => ⟨List.mem_append_right _ (y.ownW a m).1, fun q => by
            rcases List.mem_append.mp q with q | q
            · exact hne a (x.alive a (x.ownW a m).1).1 q
            · exact (y.ownW a m).2 q⟩
          memW := fun a m => by
            rcases List.mem_append.mp m with m | m
            · exact List.mem_append_left _ m
            · exact List.mem_append_right _ (y.memW a m)
          newW := y.newW
          newM := fun a m => by
            rcases List.mem_append.mp m with m | m
            · cases e : g.s0.heap.get? a with
              | none => exact e
              | some o => have := x.keep a o e; rw [(O.fresh a m).1] at this; cases this
            · exact y.newM a m
          alive := fun a m => by
            rcases List.mem_append.mp m with m | m
            · exact ⟨O.alive a m, (O.fresh a m).2⟩
            · exact y.alive a m
          vars := fun z d e => let ⟨v, q, r⟩ := x.vars z d e; ⟨v, q.keep fun a _ o e => (keeps_sm O.kp).2 a o e, r.to kW⟩
          res := ⟨fun a es m => ⟨List.mem_append_left _ (O.ls a es m).1, (O.ls a es m).2⟩, fun a dd fs m => ⟨List.mem_append_left _ (O.os a dd fs m).1, (O.os a dd fs m).2⟩, O.apart⟩
          tmp := y.tmp, tmpSt := y.tmpSt
          tmpW := fun b m => ⟨(y.tmpW b m).1, fun q => by
            rcases List.mem_append.mp q with q | q
            · exact hne b (x.tmpW b m).2.2 q
            · exact (y.tmpW b m).2.1 q, (y.tmpW b m).2.2⟩
          gho := fun p m => (x.gho p m).to kW }
theorem StE.owned {s₀ : Shared} (x : StE c sc g ρ X s) (h0 : g.s0 = s₀) {Ls W : List Addr} (hL : ∀ a ∈ Ls, a ∈ g.M) (hW : ∀ a ∈ W, a ∈ g.W) (hM : ∀ a ∈ g.M, a ∈ Ls) : Owned c W s₀ s Ls X := by
  subst h0
  have hLW : ∀ a ∈ Ls ++ W, a ∈ g.W := fun a m => by
    rcases List.mem_append.mp m with m | m
    · exact x.memW a (hL a m)
    · exact hW a m
  refine ⟨?_, fun l m => ⟨x.newM l (hL l m), (x.alive l (x.memW l (hL l m))).2⟩, fun l m => (x.alive l (x.memW l (hL l m))).1, fun a ds m => ⟨hM a (x.res.ls a ds m).1, (x.res.ls a ds m).2.less hLW⟩, fun a dd fs m => ?_, x.res.apart⟩
  · obtain ⟨h, tk, e⟩ := x.same
    exact ⟨h, tk, e, by have := x.keep; rw [e] at this; exact this⟩
  · obtain ⟨h1, h2, h3⟩ := x.res.os a dd fs m
    exact ⟨hM dd h1, fun q => h2 (hLW a q), h3.less hLW⟩
/-- a frame that starts with new things of its caller's making -/
theorem StE.inherit {s₀ : Shared} (x : StE c sc g ρ {} s) (hM : g.M = []) (hfp : g.fp = []) (k : Kp s₀ g.s0) (wd : Wd c s₀.heap) {M : List Addr} (hMW : ∀ a ∈ M, a ∈ g.W) (hMo : ∀ a ∈ own g, a ∉ M) (hMd : ∀ a ∈ M, s₀.heap.get? a = none) (hX : ResOk c { g with s0 := s₀, M := M } X s.heap) : StE c sc { g with s0 := s₀, M := M } ρ X s :=
  { scp := x.scp, kind := x.kind, glb := x.glb, blt := x.blt, same := (keeps_sm k).1.trans x.same, keep := (keeps_sm k).2.trans x.keep, wd := wd, ns := x.ns, cell := x.cell, apart := x.apart, cells := x.cells
    ownW := fun a m => ⟨(x.ownW a m).1, hMo a m⟩
    memW := hMW
    newW := fun a m => by
      cases e : s₀.heap.get? a with
      | none => rfl
      | some o => have := (keeps_sm k).2 a o e; rw [x.newW a m] at this; cases this
    newM := hMd
    alive := x.alive, vars := x.vars, res := hX, tmp := x.tmp, tmpSt := x.tmpSt
    tmpW := fun b m => by
      have m' : b ∈ g.fp := m
      rw [hfp] at m'; cases m'
    gho := x.gho }
/-- a finished object given back -/
theorem RetOk.ob {a dd : Addr} {fs : List (Str × V)} {fs' : List (Str × PyData)} {W : List Addr} (x : StE c sc g ρ X s) (ho : X.os = [(a, dd, fs)]) (hW : ∀ b ∈ W, b ∈ g.W) (hdd : dd ∉ W) {g₀ : Fm} (h0 : g₀.s0 = g.s0) (hgW : g₀.W = W) (hf : ∀ y p, fs'.lookup y = some p → fs.lookup y = some (.d p)) : RetOk c g₀ (.ob fs') (.ret (.ref a)) s := by
  obtain ⟨h1, h2, h3, m, hN, hfs⟩ := x.res.os a dd fs (by rw [ho]; exact .head _)
  refine ⟨_, .inl rfl, by rw [h0]; exact x.same, by rw [h0]; exact x.keep, a, dd, m, rfl, fun q => h2 (hW a (hgW ▸ q)), h3, fun q => hdd (hgW ▸ q), hN.ns, fun y p e => ?_⟩
  obtain ⟨u, hu, ru⟩ := hfs y _ (hf y p e)
  exact ⟨u, hu, (ru : Rw c g.W s.heap u (.d p)).less fun b q => hW b (hgW ▸ q)⟩
end
end Mine

namespace Mine
open PySem PySem.W PySem.Calls PyProof.Rows PySem.Spec
section
variable {c : Cx} {sc : Scope} {g : Fm} {ρ : Rho} {X : Res} {s s' : Shared} {n : Nat} {A : Around}
/-- a call that reads the object, which is still ours to turn -/
theorem EV.callOb {x y : Str} {px py pos : Pos} {f a dd : Addr} {fs : List (Str × V)} {fs' : List (Str × PyData)} {r : PyData} {m : Nat} (hf : FnOk c m f [.ob fs'] (.d r)) (ho : X.os = [(a, dd, fs)]) (hy : ρ.lookup y = some (.at a)) (hfs : ∀ y p, fs'.lookup y = some p → fs.lookup y = some (.d p)) (hg : c.gv x = some (.ref f)) (hm : m ≤ n)
    (hk : sc.names.lookup x = some .globalImplicit := by rfl) (hd : (x == ("__debug__" : Str)) = false := by rfl) (hd2 : (y == ("__debug__" : Str)) = false := by rfl) (hn2 : (y == ("__classdict__" : Str)) = false := by rfl) : EV c sc X n ρ (.Call (.Name x px) [.Name y py] [] pos) (.d r) := by
  intro A g s R S
  refine wpAny_Call_NameR ((EV.glob hg hk hd).use R S fun v s₁ k₁ S₁ r₁ => ?_)
  obtain rfl : v = .ref f := r₁
  obtain ⟨o, fd, ho', hfd⟩ := hf.fn _ S₁.wd'
  have main := (EVs.cons (EV.name (pos := py) hy hd2 hn2) EVs.nil).use (pos := pos) R S₁ (Q := fun vs s₂ => (s₂.heap.get? f = some o ∧ o.data = .func fd) ∧ wpAny (model c.prog c.w) A (PySem.call (.ref f) vs) (fun v s' => Kp s s' ∧ Rw c g.W s'.heap v (.d r)) nE s₂) fun vs s₂ k₂ S₂ r₂ => by
    refine ⟨⟨(keeps_sm k₂).2 _ _ ho', hfd⟩, ?_⟩
    replace r₂ := r₂.one
    obtain ⟨v, rfl, r₂⟩ := r₂
    obtain rfl : v = .ref a := r₂
    obtain ⟨h1, h2, h3, mm, hN, hF⟩ := S₂.res.os a dd fs (by rw [ho]; exact .head _)
    have hsub : ∀ b ∈ g.W.filter (fun b => !(b == dd)), b ∈ g.W ∧ b ≠ dd := fun b q => by
      obtain ⟨q1, q2⟩ := List.mem_filter.mp q
      exact ⟨q1, by simpa using q2⟩
    refine hf.run A s₂ (g.W.filter (fun b => !(b == dd))) _ _ (R.c.le hm) S₂.wd' (fun b q => S₂.alive b (hsub b q).1) (.cons ?_ .nil) fun v s₃ k₃ r₃ => ⟨(k₁.tr k₂).tr k₃, ?_⟩
    · refine ⟨a, dd, mm, rfl, fun q => h2 (hsub a q).1, h3, fun q => (hsub dd q).2 rfl, hN.ns, fun z p e => ?_⟩
      obtain ⟨u, hu, ru⟩ := hF z _ (hfs z p e)
      exact ⟨u, hu, (ru : Rw c g.W _ u (.d p)).less fun b q => (hsub b q).1⟩
    · obtain ⟨od, es, ep, e1, e2, _⟩ := hN.ns
      have e1' := (keeps_sm k₃).2 _ _ e1
      refine Rv.toS (fun b o vs n nb e q => ⟨fun mb => ?_, e⟩) r₃
      by_cases hb : b = dd
      · subst hb
        rw [e1'] at e; cases e
        rw [e2] at q; cases q
      · exact nb (List.mem_filter.mpr ⟨mb, by simpa using hb⟩)
  have he : ∀ rest env, starEach (.Name y py :: rest) env = (false, eval (.Name y py) env) :: starEach rest env := by intro _ _; rfl
  rw [he] at main ⊢
  exact callWith_function (o := o) (fd := fd) (evalArgs_plain main)

theorem Frz.refl {W2 : List Addr} {F : List (Str × V)} : Frz X W2 F F := fun _ _ e => .inl e
/-- the newest list is done with -/
theorem StE.unM {l : Addr} {ds : List PyData} {L : List (Addr × List PyData)} {O O' : List (Addr × Addr × List (Str × V))} {ρ' : Rho} (hMW : ∀ a ∈ g.M, a ∈ g.W) (hOW : ∀ a ∈ own g, a ∈ g.W) (hl : l ∉ g.W) (x : StE c sc (gM g l) ρ { ls := (l, ds) :: L, os := O } s)
    (hρ : Frz { ls := (l, ds) :: L, os := O } g.W ρ ρ') (hO : ∀ a dd fs', (a, dd, fs') ∈ O' → ∃ fs, (a, dd, fs) ∈ O ∧ fs.length ≤ fs'.length ∧ Frz { ls := (l, ds) :: L, os := O } g.W fs fs') (hmap : O'.map (·.2.1) = O.map (·.2.1)) : StE c sc g ρ' { ls := L, os := O' } s := by
  have hap := x.res.apart
  have hap' : ((L.map (·.1)) ++ O.map (·.2.1)).Nodup ∧ l ∉ (L.map (·.1)) ++ O.map (·.2.1) := by
    have : (l :: ((L.map (·.1)) ++ O.map (·.2.1))).Nodup := hap
    exact ⟨(List.nodup_cons.mp this).2, (List.nodup_cons.mp this).1⟩
  refine x.freeze (W2 := g.W) (M2 := g.M) (fun a m => List.mem_cons_of_mem _ m) (fun a m => ⟨List.mem_cons_of_mem _ m, hMW a m⟩) hOW (X' := { ls := L, os := O' }) hρ (fun l' ds' m => ?_) (fun a dd fs' m => ?_) (by rw [hmap]; exact hap'.1)
  · have m' : (l', ds') ∈ (l, ds) :: L := List.mem_cons_of_mem _ m
    refine ⟨m', ?_⟩
    rcases List.mem_cons.mp (x.res.ls l' ds' m').1 with q | q
    · exact absurd (List.mem_append_left _ (List.mem_map.mpr ⟨_, m, rfl⟩)) (q ▸ hap'.2)
    · exact q
  · obtain ⟨fs, m', h1, h2⟩ := hO a dd fs' m
    refine ⟨fs, m', ?_, h1, h2⟩
    rcases List.mem_cons.mp (x.res.os a dd fs m').1 with q | q
    · exact absurd (List.mem_append_right _ (List.mem_map.mpr ⟨_, m', rfl⟩)) (q ▸ hap'.2)
    · exact q
theorem StE.unM0 {l : Addr} {ds : List PyData} {L : List (Addr × List PyData)} {O : List (Addr × Addr × List (Str × V))} {ρ' : Rho} (hMW : ∀ a ∈ g.M, a ∈ g.W) (hOW : ∀ a ∈ own g, a ∈ g.W) (hl : l ∉ g.W) (x : StE c sc (gM g l) ρ { ls := (l, ds) :: L, os := O } s)
    (hρ : Frz { ls := (l, ds) :: L, os := O } g.W ρ ρ') : StE c sc g ρ' { ls := L, os := O } s :=
  x.unM hMW hOW hl hρ (fun a dd fs m => ⟨fs, m, Nat.le_refl _, .refl⟩) rfl
end
end Mine

namespace Mine
open PySem PySem.W PySem.Calls PyProof.Rows PySem.Spec PySem.SeqAt
section
variable {c : Cx} {sc : Scope} {g : Fm} {ρ : Rho} {X : Res} {s s' : Shared} {n : Nat} {A : Around}
theorem Rvs.ints {W : List Addr} {h : Heap} (a : Int) : ∀ (vs : List Value) (k : Nat), (∀ (j : Nat) (v : Value), vs[j]? = some v → ∃ t, v = Value.int (a + ((k + j : Nat) : Int) * 1) t) → Rvs W h vs ((List.range' k vs.length).map fun (i : Nat) => PyData.int (a + (i : Int) * 1))
  | [], _, _ => .nil
  | v :: vs, k, hv => by
    obtain ⟨t, ht⟩ := hv 0 v rfl
    rw [List.length_cons, List.range'_succ, List.map_cons]
    refine .cons ?_ (Rvs.ints a vs (k + 1) fun j w hw => ?_)
    · rw [ht]; exact .int _ _
    · obtain ⟨u, hu⟩ := hv (j + 1) w (by simpa using hw)
      exact ⟨u, by rw [hu]; congr 3; (first | lia | omega)⟩
theorem list_range {r : Addr} {a b : Int} {t u v : Tok} {k : Nat} (R : RoomE A n) (k₀ : Kp s s') (S' : StE c sc g ρ X s') (hr : IsRange s'.heap r a b 1 t u v) (hsm : Builtin.Range.small a b 1 = true) (hsz : Builtin.Range.rangeSize a b 1 = (k : Int)) (hk : k ≤ 2 ^ 20) :
    wpAny (model c.prog c.w) A (PySem.call (.type "list") [.ref r]) (fun v s₂ => Kp s s₂ ∧ Rw c g.W s₂.heap v (.d (.list (rng a 1 k)))) nE s' := by
  refine call_list_range R.c.hd hr hsm hsz (Nat.le_trans hk (by decide)) fun h' tk acc c' kp hnew hit => ⟨k₀.tr ⟨h', tk, rfl, kp⟩, ?_⟩
  refine .list hnew rfl rfl (fun m => Nat.lt_irrefl _ (S'.alive _ m).1.lt) ?_
  have := Rvs.ints (W := g.W) (h := h') a acc.toList 0 fun j w hw => by
    obtain ⟨t, ht⟩ := hit.2 j w (by simpa using hw)
    exact ⟨t, by rw [ht]; simp⟩
  have e : acc.toList.length = k := by simpa using hit.1
  rw [e, ← List.range_eq_range'] at this
  exact this
theorem EV.listRange1 {pl p1 p2 pos : Pos} {e : Expr} {k : Nat} (h : EV c sc X n ρ e (.d (.int k))) (hz : k ≤ 2 ^ 20) (hg : c.gv "range" = some (.type "range")) (hgl : c.gv "list" = some (.type "list"))
    (hk : sc.names.lookup ("range" : Str) = some .globalImplicit := by rfl) (hkl : sc.names.lookup ("list" : Str) = some .globalImplicit := by rfl) (he : ∀ rest env, starEach (e :: rest) env = (false, eval e env) :: starEach rest env := by intro _ _; rfl) :
    EV c sc X n ρ (.Call (.Name "list" pl) [.Call (.Name "range" p1) [e] [] p2] [] pos) (.d (.list (rng 0 1 k))) := by
  intro A g s R S
  refine wpAny_Call_NameR ((EV.glob hgl hkl (by rfl)).use R S fun v s₀ k₀ S₀ r₀ => ?_)
  obtain rfl : v = .type "list" := r₀
  have he' : ∀ rest env, starEach (.Call (.Name "range" p1) [e] [] p2 :: rest) env = (false, eval (.Call (.Name "range" p1) [e] [] p2) env) :: starEach rest env := by intro _ _; rfl
  have main : wpAny (model c.prog c.w) A (spliced (backTo pos (starEach [.Call (.Name "range" p1) [e] [] p2] g.env))) (fun vs s₁ => wpAny (model c.prog c.w) A (PySem.call (.type "list") vs) (fun v s₂ => Kp s s₂ ∧ Rw c g.W s₂.heap v (.d (.list (rng 0 1 k)))) nE s₁) nE s₀ := by
    refine wpAny_items_cons (typ_call (EVs.cons h EVs.nil he) R S₀ hg (fun s₁ vs k₁ S₁ r₁ => ?_) hk (by rfl) he (by intro _ _; rfl)) (he' _ _)
    replace r₁ := r₁.one
    obtain ⟨_, rfl, r⟩ := r₁
    obtain ⟨t, rfl⟩ := Rv.int_inv r
    refine call_range_1 (wpAny_pure ?_)
    have kp : Kp s₁ { s₁ with heap := s₁.heap.push { cls := .type "range", data := .fields #[.int 0 s₁.toks, .int k t, .int 1 (s₁.toks + 1)] }, toks := s₁.toks + 1 + 1 } := Kp.push s₁ _ _
    exact list_range R ((k₀.tr k₁).tr kp) (S₁.exk kp) (IsRange.new ..) (range_small1 (Int.lt_of_le_of_lt (Int.ofNat_le.mpr hz) (by decide)) (Int.lt_of_lt_of_le (by decide) (Int.natCast_nonneg k))) (size_up k) hz
  rw [he'] at main ⊢
  exact PyProof.Rows.callWith_type rfl (evalArgs_plain main)
theorem EV.listRange2 {pl p1 p2 pos : Pos} {e e' : Expr} {a b : Int} {k : Nat} (h : EV c sc X n ρ e (.d (.int a))) (h' : EV c sc X n ρ e' (.d (.int b))) (ha : 0 ≤ a) (ha' : a < 2 ^ 60) (hb : 0 ≤ b) (hb' : b < 2 ^ 60) (hk' : k = (b - a).toNat) (hz : k ≤ 2 ^ 20) (hg : c.gv "range" = some (.type "range")) (hgl : c.gv "list" = some (.type "list"))
    (hk : sc.names.lookup ("range" : Str) = some .globalImplicit := by rfl) (hkl : sc.names.lookup ("list" : Str) = some .globalImplicit := by rfl) (he : ∀ rest env, starEach (e :: rest) env = (false, eval e env) :: starEach rest env := by intro _ _; rfl) (he₂ : ∀ rest env, starEach (e' :: rest) env = (false, eval e' env) :: starEach rest env := by intro _ _; rfl)
    (hp : ∀ pos env, (backTo pos (starEach [e'] env)).any (·.1) = false := by intro _ _; rfl) :
    EV c sc X n ρ (.Call (.Name "list" pl) [.Call (.Name "range" p1) [e, e'] [] p2] [] pos) (.d (.list (rng a 1 k))) := by
  intro A g s R S
  refine wpAny_Call_NameR ((EV.glob hgl hkl (by rfl)).use R S fun v s₀ k₀ S₀ r₀ => ?_)
  obtain rfl : v = .type "list" := r₀
  have he' : ∀ rest env, starEach (.Call (.Name "range" p1) [e, e'] [] p2 :: rest) env = (false, eval (.Call (.Name "range" p1) [e, e'] [] p2) env) :: starEach rest env := by intro _ _; rfl
  have main : wpAny (model c.prog c.w) A (spliced (backTo pos (starEach [.Call (.Name "range" p1) [e, e'] [] p2] g.env))) (fun vs s₁ => wpAny (model c.prog c.w) A (PySem.call (.type "list") vs) (fun v s₂ => Kp s s₂ ∧ Rw c g.W s₂.heap v (.d (.list (rng a 1 k)))) nE s₁) nE s₀ := by
    refine wpAny_items_cons (typ_call (EVs.cons h (EVs.cons h' EVs.nil he₂) he) R S₀ hg (fun s₁ vs k₁ S₁ r₁ => ?_) hk (by rfl) he hp) (he' _ _)
    replace r₁ := r₁.two
    obtain ⟨_, _, rfl, r, r₂⟩ := r₁
    obtain ⟨t, rfl⟩ := Rv.int_inv r
    obtain ⟨u, rfl⟩ := Rv.int_inv r₂
    refine call_range_2 (wpAny_pure ?_)
    have kp : Kp s₁ { s₁ with heap := s₁.heap.push { cls := .type "range", data := .fields #[.int a t, .int b u, .int 1 s₁.toks] }, toks := s₁.toks + 1 } := Kp.push s₁ _ _
    exact list_range R ((k₀.tr k₁).tr kp) (S₁.exk kp) (IsRange.new ..) (small_up ha ha' hb hb') (size_up2 hk') hz
  rw [he'] at main ⊢
  exact PyProof.Rows.callWith_type rfl (evalArgs_plain main)

theorem CmpOk.notInT {x : Int} {xs : List Int} : CmpOk c n .NotIn (.d (.int x)) (.d (.tuple (xs.map .int))) (!xs.contains x) := by
  intro A W s v u R r1 r2 Q k
  obtain ⟨as, ra⟩ := Rv.reads r1
  obtain ⟨bs, rb⟩ := Rv.reads r2
  have hc : ∀ xs : List Int, PyData.canLayAll0 (xs.map .int) = true := fun xs => by induction xs with | nil => rfl | cons a r ih => simpa [PyData.canLayAll0, PyData.canLay0] using ih
  refine SeqAt.notIn_tuple_reads rb ra (hc xs) rfl (by have := R.un; have : min (PyData.depthAll (xs.map .int)) (PyData.depth (.int x)) ≤ PyData.depth (.int x) := Nat.min_le_right _ _; have e : PyData.depth (.int x) = 0 := rfl; (first | lia | omega)) ?_
  rw [any_ints]; exact k s (Kp.rf s)
theorem CmpOk.eqS {p : PyData} (h : shaped p = true) : CmpOk c n .Eq (.d p) (.d p) true := by
  have := CmpOk.eqD (c := c) (n := n) h h
  rwa [eqv_refl p (canLay_of_shaped h)] at this
theorem CmpOk.neS {p : PyData} (h : shaped p = true) : CmpOk c n .NotEq (.d p) (.d p) false := by
  have := CmpOk.neD (c := c) (n := n) h h
  rwa [eqv_refl p (canLay_of_shaped h)] at this
/-- a list of flat things -/
noncomputable def flatD (d : PyData) : Bool := d.canLay0 && decide (d.depth ≤ 1)
theorem flats : ∀ ds : List PyData, (∀ d ∈ ds, flatD d = true) → PyData.canLayAll0 ds = true ∧ PyData.depthAll ds ≤ 2
  | [], _ => ⟨rfl, by simp [PyData.depthAll]⟩
  | d :: ds, h => by
    obtain ⟨h1, h2⟩ := flats ds fun d m => h d (List.mem_cons_of_mem _ m)
    obtain ⟨h3, h4⟩ := Bool.and_eq_true_iff.mp (h d (.head _))
    have h4 := of_decide_eq_true h4
    exact ⟨by rw [PyData.canLayAll0, h3, h1]; rfl, by simp only [PyData.depthAll]; (first | lia | omega)⟩
theorem shaped_list {ds : List PyData} (h : ∀ d ∈ ds, flatD d = true) : shaped (.list ds) = true := by
  obtain ⟨h1, h2⟩ := flats ds h
  unfold shaped
  rw [Bool.and_eq_true_iff]
  exact ⟨h1, decide_eq_true (by simp only [PyData.depth]; (first | lia | omega))⟩
end
end Mine

namespace Mine
open PySem PySem.W PySem.Calls PyProof.Rows PySem.Spec
/-! statements from wherever the state holds: no machine state is named between the steps -/
noncomputable def TR (c : Cx) (sc : Scope) (g : Fm) (n : Nat) (X : Res) (ρ : Rho) (l : List Stmt) (Q : Flow → Shared → Prop) : Prop :=
  ∀ (A : Around) (s : Shared), RoomE A n → StE c sc g ρ X s → wpAny (model c.prog c.w) A (execs l g.env) Q nE s
/-- the state at the end of a body -/
noncomputable def Nx (c : Cx) (sc : Scope) (g : Fm) (X : Res) (ρ : Rho) : Flow → Shared → Prop := fun f s => f = .next ∧ StE c sc g ρ X s
section
variable {c : Cx} {sc : Scope} {g : Fm} {n : Nat} {X X' : Res} {ρ ρ' : Rho} {rest : List Stmt} {pos : Pos} {Q : Flow → Shared → Prop}
theorem t_end (h : ∀ s, StE c sc g ρ X s → Q .next s) : TR c sc g n X ρ [] Q := fun _ s _ S => x_nil (h s S)
theorem t_nx (h : Sub ρ' ρ) : TR c sc g n X ρ [] (Nx c sc g X ρ') := fun _ _ _ S => x_nil ⟨rfl, S.sub h⟩
theorem t_sub {l : List Stmt} (h0 : Sub ρ' ρ) (h : TR c sc g n X ρ' l Q) : TR c sc g n X ρ l Q := fun A s R S => h A s R (S.sub h0)
theorem t_map {l : List Stmt} {g' : Fm} (e : g'.env = g.env) (m : ∀ s, StE c sc g ρ X s → StE c sc g' ρ' X' s) (h : TR c sc g' n X' ρ' l Q) : TR c sc g n X ρ l Q := fun A s R S => e ▸ h A s R (m s S)
theorem t_get {l : List Stmt} (h : (∀ a ∈ g.M, a ∈ g.W) → (∀ a ∈ own g, a ∈ g.W) → TR c sc g n X ρ l Q) : TR c sc g n X ρ l Q := fun A s R S => h S.memW (fun a m => (S.ownW a m).1) A s R S
theorem t_asg {y : Str} {px : Pos} {e : Expr} {d : V} (he : EV c sc X n ρ e d) (hk : canStore sc y) (h : TR c sc g n X ((y, d) :: ρ) rest Q)
    (hs : ∀ env : Env, env.scope = sc → swapsWith e (some (.Name y px)) pos.line env = pure false := by intro _ _; rfl) : TR c sc g n X ρ (.Assign [.Name y px] e pos :: rest) Q :=
  fun A s R S => x_asg he R S hk (fun s S => h A s R S) hs
theorem t_ret {e : Expr} {d : V} (he : EV c sc X n ρ e d) (h : ∀ v s, StE c sc g ρ X s → Rw c g.W s.heap v d → Q (.ret v) s) : TR c sc g n X ρ (.Return (some e) pos :: rest) Q := fun _ _ R S => x_ret he R S h
theorem t_retOk {e : Expr} {d : V} (he : EV c sc X n ρ e d) : TR c sc g n X ρ (.Return (some e) pos :: rest) (RetOk c g d) := fun _ _ R S => x_retOk he R S
theorem t_ifF {t : Expr} {body : List Stmt} (ht : TV c sc X n ρ t false) (h : TR c sc g n X ρ rest Q) : TR c sc g n X ρ (.If t body [] pos :: rest) Q := fun A _ R S => x_ifF ht R S fun s S => x_nil (h A s R S)
theorem t_ifT (X' : Res) (ρ' : Rho) {t : Expr} {body els : List Stmt} (ht : TV c sc X n ρ t true) (h : TR c sc g n X ρ body (Nx c sc g X' ρ')) (h' : TR c sc g n X' ρ' rest Q) : TR c sc g n X ρ (.If t body els pos :: rest) Q :=
  fun A _ R S => x_ifT ht R S fun s S => wpAny_mono (h A s R S) (fun f s q => by rw [q.1]; exact h' A s R q.2) fun _ _ q => q.elim
theorem t_append {o e : Expr} {ap p pos' : Pos} {l : Addr} {ds : List PyData} {j : Nat} {d : PyData} (ho : EV c sc X n ρ o (.at l)) (hL : X.ls[j]? = some (l, ds)) (he : EV c sc X n ρ e (.d d)) (hz : ds.length ≤ 2 ^ 20)
    (h : TR c sc g n { X with ls := X.ls.set j (l, ds ++ [d]) } ρ rest Q)
    (hs : ∀ env : Env, env.scope = sc → swapsWith (.Call (.Attribute o "append" ap) [e] [] p) none pos'.line env = pure false := by intro _ _; rfl)
    (hst : ∀ rest env, starEach (e :: rest) env = (false, eval e env) :: starEach rest env := by intro _ _; rfl)
    (hf : ∀ env, ∃ pl, eval (.Call (.Attribute o "append" ap) [e] [] p) env = (do
      let ov ← eval o env
      standAt ap.atName
      let (f, first) ← holding [ov] (getMethod ov "append" pl)
      callWith p f first (backTo p (starEach [e] env)) (backToKw p (keywordEach [] env))) := by intro _; exact ⟨_, rfl⟩) : TR c sc g n X ρ (.Expr (.Call (.Attribute o "append" ap) [e] [] p) pos' :: rest) Q :=
  fun A s R S => x_append ho hL he R S hz (fun s S => h A s R S) hs hst hf
theorem t_setitem {o i e : Expr} {ip : Pos} {l : Addr} {ds : List PyData} {j : Nat} {k : Int} {d : PyData} (he : EV c sc X n ρ e (.d d)) (ho : EV c sc X n ρ o (.at l)) (hi : EV c sc X n ρ i (.d (.int k))) (hL : X.ls[j]? = some (l, ds)) (h0 : 0 ≤ k) (hk : k < ds.length) (hz : ds.length ≤ 2 ^ 20)
    (h : TR c sc g n { X with ls := X.ls.set j (l, ds.set k.toNat d) } ρ rest Q)
    (hs : ∀ env : Env, env.scope = sc → swapsWith e (some (.Subscript o i ip)) pos.line env = pure false := by intro _ _; rfl) : TR c sc g n X ρ (.Assign [.Subscript o i ip] e pos :: rest) Q :=
  fun A s R S => x_setitem he ho hi hL R S h0 hk hz (fun s S => h A s R S) hs
theorem t_setattr {y x : Str} {np ap : Pos} {e : Expr} {a dd : Addr} {fs : List (Str × V)} {d : V} (he : EV c sc X n ρ e d) (ho : X.os = [(a, dd, fs)]) (hy : ρ.lookup y = some (.at a)) (hfind : findIn c.K (.ref c.C) x = some none) (hz : fs.length ≤ 999)
    (h : TR c sc g n { X with os := [(a, dd, (x, d) :: fs)] } ρ rest Q)
    (hs : ∀ env : Env, env.scope = sc → swapsWith e (some (.Attribute (.Name y np) x ap)) pos.line env = pure false := by intro _ _; rfl)
    (hd : (y == ("__debug__" : Str)) = false := by rfl) (hn : (y == ("__classdict__" : Str)) = false := by rfl) : TR c sc g n X ρ (.Assign [.Attribute (.Name y np) x ap] e pos :: rest) Q :=
  fun A s R S => x_setattr he R S ho hy hfind hz (fun s S => h A s R S) hs hd hn
theorem t_asgN {y : Str} {px : Pos} {e : Expr} {ds : List PyData} (he : EN c sc X n ρ e ds) (hk : canStore sc y)
    (h : ∀ l, l ∉ g.W → TR c sc (gM g l) n { X with ls := (l, ds) :: X.ls } ((y, .at l) :: ρ) rest Q)
    (hs : ∀ env : Env, env.scope = sc → swapsWith e (some (.Name y px)) pos.line env = pure false := by intro _ _; rfl) : TR c sc g n X ρ (.Assign [.Name y px] e pos :: rest) Q :=
  fun A s R S => x_asgN he R S hk (fun l s q S => h l q A s R S) hs
theorem t_setN {y x : Str} {np ap : Pos} {e : Expr} {ds : List PyData} {a dd : Addr} {fs : List (Str × V)} (he : EN c sc X n ρ e ds) (ho : X.os = [(a, dd, fs)]) (hy : ρ.lookup y = some (.at a)) (hfind : findIn c.K (.ref c.C) x = some none) (hz : fs.length ≤ 999)
    (h : ∀ l, l ∉ g.W → TR c sc (gM g l) n { ls := (l, ds) :: X.ls, os := [(a, dd, (x, .at l) :: fs)] } ρ rest Q)
    (hs : ∀ env : Env, env.scope = sc → swapsWith e (some (.Attribute (.Name y np) x ap)) pos.line env = pure false := by intro _ _; rfl)
    (hd : (y == ("__debug__" : Str)) = false := by rfl) (hn : (y == ("__classdict__" : Str)) = false := by rfl) : TR c sc g n X ρ (.Assign [.Attribute (.Name y np) x ap] e pos :: rest) Q :=
  fun A s R S => x_setN he R S ho hy hfind hz (fun l s q S => h l q A s R S) hs hd hn
theorem t_asgComp {z : Str} {pz spos : Pos} {elt iter : Expr} {y : Str} {py : Pos} {scope : Scope} {ds rs : List PyData} (ρf : Rho) (hit : IT c sc X n ρ iter ds) (hel : ∀ (i : Nat) d, ds[i]? = some d → ∃ r, rs[i]? = some r ∧ EV c (relabelS scope sc) {} n ((y, .d d) :: ρf) elt (.d r)) (hlen : rs.length = ds.length)
    (hf : ∀ z d, ρf.lookup z = some d → scope.names.lookup z = some .free ∧ ρ.lookup z = some d) (hz : ds.length ≤ 2 ^ 20) (hk : sc.names.lookup z = some .local)
    (h : TR c sc g n X ((z, .d (.list rs)) :: ρ) rest Q)
    (hsw : ∀ env : Env, env.scope = sc → swapsWith (.ListComp elt [⟨.Name y py, iter, [], 0⟩] scope pos) (some (.Name z pz)) spos.line env = pure true)
    (h3 : ∀ p ∈ scope.names, p.2 = .free → sc.names.lookup p.1 = some .cell := by decide)
    (hy : scope.names.lookup y = some .local ∨ scope.names.lookup y = some .cell := by decide)
    (h1 : scope.kind = .function := by rfl) (h2 : (scope.names.map (·.1)).Nodup := by decide)
    (hs : ∀ env x, foldedSetIterable iter env x = pure x := by intro _ _; rfl) : TR c sc g n X ρ (.Assign [.Name z pz] (.ListComp elt [⟨.Name y py, iter, [], 0⟩] scope pos) spos :: rest) Q :=
  fun A s R S => x_asgComp ρf R S hit hel hlen hf hz hk (fun s S => h A s R S) hsw h3 hy h1 h2 hs
theorem t_for {y : Str} {py : Pos} {iter : Expr} {body : List Stmt} {ds : List PyData} (hit : IT c sc X n ρ iter ds) (ky : canStore sc y) (ρ' : Nat → Rho) (X' : Nat → Res) (h0 : Sub (ρ' 0) ρ) (hX : X' 0 = X)
    (step : ∀ i d, ds[i]? = some d → ∀ g', TR c sc g' n (X' i) ((y, .d d) :: ρ' i) body (Nx c sc g' (X' (i + 1)) (ρ' (i + 1))))
    (after : TR c sc g n (X' ds.length) (ρ' ds.length) rest Q)
    (hs : ∀ env x, foldedSetIterable iter env x = pure x := by intro _ _; rfl) : TR c sc g n X ρ (.For (.Name y py) iter body [] pos :: rest) Q :=
  fun A s R S => x_for hit R S ky ρ' X' h0 hX (fun i d hd g' s' _ _ _ _ S => step i d hd g' A s' R S) (fun s S => after A s R S) hs
end
end Mine

namespace Mine
open PySem

/-! fractions as the program keeps them -/
noncomputable def q2d (q : Rat) : PyData := .tuple [.int q.num, .int q.den]

theorem divInt_nat {n d : Int} (hd : 0 < d) : (Rat.divInt n d).num = n.fdiv (Int.gcd (if n < 0 then -n else n) d) ∧ ((Rat.divInt n d).den : Int) = d.fdiv (Int.gcd (if n < 0 then -n else n) d) := by
  have hg : Int.gcd (if n < 0 then -n else n) d = d.gcd n := by
    rw [Int.gcd_comm]; split <;> simp [Int.gcd]
  rw [hg]
  have hd0 : d ≠ 0 := by (first | lia | omega)
  have hgp : 0 < d.gcd n := Int.gcd_pos_of_ne_zero_left n hd0
  constructor
  · rw [Rat.num_divInt, Int.sign_eq_one_of_pos hd, Int.one_mul, Int.fdiv_eq_ediv_of_nonneg _ (by (first | lia | omega))]
  · rw [Rat.den_divInt, if_neg hd0, Int.fdiv_eq_ediv_of_nonneg _ (by (first | lia | omega))]
    have : ((d.natAbs : Nat) : Int) = d := by (first | lia | omega)
    rw [Int.natCast_ediv, this]

theorem add_divInt (x y : Rat) : Rat.divInt (x.num * y.den + y.num * x.den) ((x.den : Int) * y.den) = x + y := by
  rw [Rat.add_def', ← Rat.divInt_ofNat]; congr 1
theorem mul_divInt (x y : Rat) : Rat.divInt (x.num * y.num) ((x.den : Int) * y.den) = x * y := by
  rw [Rat.mul_def', ← Rat.divInt_ofNat]; congr 1
theorem div_divInt (x y : Rat) (hy : y ≠ 0) : Rat.divInt (x.num * y.den) ((x.den : Int) * y.num) = x / y := by
  rw [Rat.div_def, Rat.inv_def]
  conv => rhs; rw [← Rat.num_divInt_den x]
  rw [Rat.divInt_mul_divInt]

/-- numerator and denominator below 2 ^ b -/
noncomputable def Sz (b : Nat) (q : Rat) : Prop := q.num.natAbs < 2 ^ b ∧ q.den < 2 ^ b
theorem Sz.le {a b : Nat} {q : Rat} (h : Sz a q) (hab : a ≤ b) : Sz b q :=
  have := Nat.pow_le_pow_right (n := 2) (by decide) hab
  ⟨Nat.lt_of_lt_of_le h.1 this, Nat.lt_of_lt_of_le h.2 this⟩
theorem Sz.divInt {n d : Int} {b : Nat} (hd : d ≠ 0) (hn : n.natAbs < 2 ^ b) (hd' : d.natAbs < 2 ^ b) : Sz b (Rat.divInt n d) := by
  constructor
  · rw [Rat.num_divInt]
    refine Nat.lt_of_le_of_lt ?_ hn
    have h1 : (d.sign * n).natAbs = n.natAbs := by
      rw [Int.natAbs_mul, Int.natAbs_sign_of_ne_zero hd, Nat.one_mul]
    rw [← h1]
    have := Int.natAbs_ediv_le_natAbs (d.sign * n) (d.gcd n)
    exact this
  · rw [Rat.den_divInt, if_neg hd]
    exact Nat.lt_of_le_of_lt (Nat.div_le_self _ _) hd'
theorem natAbs_mul_lt {x y : Int} {a b : Nat} (hx : x.natAbs < 2 ^ a) (hy : y.natAbs < 2 ^ b) : (x * y).natAbs < 2 ^ (a + b) := by
  rw [Int.natAbs_mul, Nat.pow_add]; exact Nat.mul_lt_mul'' hx hy
theorem Sz.mul {a b : Nat} {x y : Rat} (hx : Sz a x) (hy : Sz b y) : Sz (a + b) (x * y) := by
  rw [← mul_divInt]
  have hd : ((x.den : Int) * y.den) ≠ 0 := by have := x.den_pos; have := y.den_pos; exact Int.mul_ne_zero (by (first | lia | omega)) (by (first | lia | omega))
  exact .divInt hd (natAbs_mul_lt hx.1 hy.1) (natAbs_mul_lt hx.2 hy.2)
theorem Sz.add {a b : Nat} {x y : Rat} (hx : Sz a x) (hy : Sz b y) : Sz (a + b + 1) (x + y) := by
  rw [← add_divInt]
  have hd : ((x.den : Int) * y.den) ≠ 0 := by have := x.den_pos; have := y.den_pos; exact Int.mul_ne_zero (by (first | lia | omega)) (by (first | lia | omega))
  have h1 := natAbs_mul_lt hx.1 (y := (y.den : Int)) (b := b) hy.2
  have h2 := natAbs_mul_lt hy.1 (y := (x.den : Int)) (b := a) hx.2
  have h3 := natAbs_mul_lt (x := (x.den : Int)) (a := a) hx.2 (y := (y.den : Int)) (b := b) hy.2
  rw [Nat.add_comm b a] at h2
  have e : (2 : Nat) ^ (a + b + 1) = 2 ^ (a + b) + 2 ^ (a + b) := by rw [Nat.pow_succ]; (first | lia | omega)
  refine .divInt hd ?_ (by rw [e]; (first | lia | omega))
  rw [e]
  have := Int.natAbs_add_le (x.num * y.den) (y.num * x.den)
  (first | lia | omega)
theorem Sz.neg {a : Nat} {x : Rat} (hx : Sz a x) : Sz a (-x) := ⟨by rw [Rat.neg_num, Int.natAbs_neg]; exact hx.1, hx.2⟩
theorem Sz.sub {a b : Nat} {x y : Rat} (hx : Sz a x) (hy : Sz b y) : Sz (a + b + 1) (x - y) := by rw [Rat.sub_eq_add_neg]; exact hx.add hy.neg
theorem Sz.div {a b : Nat} {x y : Rat} (hx : Sz a x) (hy : Sz b y) (h0 : y ≠ 0) : Sz (a + b) (x / y) := by
  rw [← div_divInt x y h0]
  have hn : y.num ≠ 0 := fun e => h0 (Rat.num_eq_zero.mp e)
  have hd : ((x.den : Int) * y.num) ≠ 0 := by have := x.den_pos; exact Int.mul_ne_zero (by (first | lia | omega)) hn
  exact .divInt hd (natAbs_mul_lt hx.1 (y := (y.den : Int)) hy.2) (natAbs_mul_lt (x := (x.den : Int)) hx.2 hy.1)
theorem intBits_le {i : Int} {b : Nat} (h : i.natAbs < 2 ^ b) : Builtin.Int.intBits i ≤ b := by
  unfold Builtin.Int.intBits
  split
  · exact Nat.zero_le _
  · rename_i h0
    have hn : i.natAbs ≠ 0 := by simpa using h0
    exact (Nat.log2_lt hn).mpr h
theorem mulOk {x y : Int} {a b : Nat} (hx : x.natAbs < 2 ^ a) (hy : y.natAbs < 2 ^ b) (h : a + b ≤ 2 ^ 27) : IntMulOk x y := by
  have e : (2 : Nat) ^ 26 = 67108864 := by decide
  have e' : (2 : Nat) ^ 27 = 134217728 := by decide
  have h1 := intBits_le hx
  have h2 := intBits_le hy
  have h : Builtin.Int.intTooBig (Builtin.Int.intBits x + Builtin.Int.intBits y) = false := by
    unfold Builtin.Int.intTooBig bitsLine
    exact decide_eq_false (by (first | lia | omega))
  unfold IntMulOk
  rw [h]
  simp
/-! small numbers -/
theorem iz0 {k : Nat} : (0 : Int) ≤ (k : Int) := Int.natCast_nonneg k
theorem i62 {j m : Nat} (h : j < m) (hm : m ≤ 999) : (j : Int) < 2 ^ 62 := Int.ofNat_lt.mpr (Nat.lt_of_lt_of_le h (Nat.le_trans hm (by decide : 999 ≤ 2 ^ 62)))
theorem n20 {n : Nat} (h : n ≤ 999) : n ≤ 2 ^ 20 := Nat.le_trans h (by decide)
theorem n60 {n : Nat} (h : n ≤ 999) : n < 2 ^ 60 := Nat.lt_of_le_of_lt h (by decide)
theorem n5z {n : Nat} (h : n ≤ 5) : n ≤ 999 := Nat.le_trans h (by decide)
theorem n4z {n : Nat} (h : n ≤ 4) : n ≤ 999 := Nat.le_trans h (by decide)
theorem n3z {n : Nat} (h : n ≤ 3) : n ≤ 999 := Nat.le_trans h (by decide)
theorem toNat_l {a b : Int} (h0 : 0 ≤ a) (h : a < b) : a.toNat < b.toNat := by (first | lia | omega)
theorem rz {f : Nat → PyData} {m : Nat} (h : m ≤ 999) : ((List.range m).map f).length ≤ 2 ^ 20 := by rw [List.length_map, List.length_range]; exact n20 h
theorem c60 {a : Nat} (h : a ≤ 999) : (a : Int) < 2 ^ 60 := Int.ofNat_lt.mpr (Nat.lt_of_le_of_lt h (by decide : 999 < 2 ^ 60))
theorem tk_z1 {m p : Nat} {f : Nat → PyData} {d : PyData} (h : m ≤ 3) : (((List.range m).map f).take p).length + [d].length ≤ 2 ^ 20 := by
  rw [List.length_take, List.length_map, List.length_range]
  exact Nat.le_trans (Nat.add_le_add_right (Nat.le_trans (Nat.min_le_right _ _) h) 1) (by decide)
theorem tk_z2 {m p q : Nat} {f : Nat → PyData} {d : PyData} (h : m ≤ 3) : (((List.range m).map f).take p ++ [d]).length + (((List.range m).map f).drop q).length ≤ 2 ^ 20 := by
  rw [List.length_append, List.length_take, List.length_drop, List.length_map, List.length_range]
  exact Nat.le_trans (Nat.add_le_add (Nat.add_le_add_right (Nat.le_trans (Nat.min_le_right _ _) h) 1) (Nat.le_trans (Nat.sub_le _ _) h)) (by decide)
theorem dp_z {m p : Nat} {f : Nat → PyData} (h : p < m) : p + 1 ≤ ((List.range m).map f).length := by rw [List.length_map, List.length_range]; exact h
end Mine

namespace Mine
open PySem PySem.W PySem.Calls PyProof.Rows PySem.Spec PySem.Challenge

noncomputable def fbody (i : Nat) : List Stmt := match pw_ov0058_01.main.body[i]? with | some (.FunctionDef _ _ b _ _ _ _ _ _ _) => b | _ => []
noncomputable def fscope (i : Nat) : Scope := match pw_ov0058_01.main.body[i]? with | some (.FunctionDef _ _ _ _ _ _ s _ _ _) => s | _ => { kind := .function, names := [], isGenerator := false, isCoroutine := false }
noncomputable def fparams (i : Nat) : List Str := match pw_ov0058_01.main.body[i]? with | some (.FunctionDef _ a _ _ _ _ _ _ _ _) => a.args.map (·.arg) | _ => []
/-- a def of the text at its place -/
abbrev Def (c : Cx) (x : Str) (i : Nat) (dv : List Value) : Prop := ∃ f, c.gv x = some (.ref f) ∧ FnDef c f (fparams i) dv (fbody i) (fscope i)
/-- what a call of the global x gives back -/
noncomputable def Ok (c : Cx) (n : Nat) (x : Str) (args : List V) (r : V) : Prop := ∃ f, c.gv x = some (.ref f) ∧ FnOk c n f args r

theorem Ok.of {c : Cx} {x : Str} {i n : Nat} {args : List V} {r : V} (D : Def c x i []) (hlen : args.length = (fparams i).length)
    (hbody : ∀ A g s, RoomE A n → StE c (fscope i) g ((fparams i).zip args) {} s → wpAny (model c.prog c.w) A (execs (fbody i) g.env) (RetOk c g r) nE s)
    (hk : (fscope i).kind = .function := by rfl) (hgen : (fscope i).isGenerator = false := by rfl) (hco : (fscope i).isCoroutine = false := by rfl) (hnd : (fparams i).Nodup := by decide +kernel) (hok : okParams (fscope i) (fparams i) = true := by decide +kernel) (hcn : ((cellsFrom 0 (fscope i).names []).map (·.1)).Nodup := by decide +kernel) : Ok c (n + 1) x args r := by
  obtain ⟨f, hf, D⟩ := D
  exact ⟨f, hf, FnOk.of (n := n) (dvs := []) D (by simpa using hlen) (fun _ _ => .nil) (by simpa using hbody) hk hgen hco hnd hok hcn⟩

section
variable {c : Cx} {sc : Scope} {X : Res} {n : Nat} {ρ : Rho}
theorem EV.call' {x : Str} {px pos : Pos} {e : Expr} {es : List Expr} {ds : List V} {r : V} {m : Nat} (hf : Ok c m x ds r) (ha : EVs c sc X n ρ (e :: es) ds) (hm : m ≤ n := by first | decide | omega)
    (hk : sc.names.lookup x = some .globalImplicit := by rfl) (hd : (x == ("__debug__" : Str)) = false := by rfl)
    (he : ∀ rest env, starEach (e :: rest) env = (false, eval e env) :: starEach rest env := by intro _ _; rfl) : EV c sc X n ρ (.Call (.Name x px) (e :: es) [] pos) r :=
  let ⟨f, hg, h⟩ := hf
  EV.call h ha hg hm hk hd he
theorem EVs.one {e : Expr} {d : V} (h : EV c sc X n ρ e d) (he : ∀ rest env, starEach (e :: rest) env = (false, eval e env) :: starEach rest env := by intro _ _; rfl) : EVs c sc X n ρ [e] [d] := EVs.cons h EVs.nil he
theorem EVs.two {e e' : Expr} {d d' : V} (h : EV c sc X n ρ e d) (h' : EV c sc X n ρ e' d') (he : ∀ rest env, starEach (e :: rest) env = (false, eval e env) :: starEach rest env := by intro _ _; rfl)
    (he' : ∀ rest env, starEach (e' :: rest) env = (false, eval e' env) :: starEach rest env := by intro _ _; rfl) : EVs c sc X n ρ [e, e'] [d, d'] := EVs.cons h (EVs.cons h' EVs.nil he') he
theorem EVs.three {e e' e'' : Expr} {d d' d'' : V} (h : EV c sc X n ρ e d) (h' : EV c sc X n ρ e' d') (h'' : EV c sc X n ρ e'' d'') (he : ∀ rest env, starEach (e :: rest) env = (false, eval e env) :: starEach rest env := by intro _ _; rfl)
    (he' : ∀ rest env, starEach (e' :: rest) env = (false, eval e' env) :: starEach rest env := by intro _ _; rfl) (he'' : ∀ rest env, starEach (e'' :: rest) env = (false, eval e'' env) :: starEach rest env := by intro _ _; rfl) : EVs c sc X n ρ [e, e', e''] [d, d', d''] := EVs.cons h (EVs.cons h' (EVs.cons h'' EVs.nil he'') he') he
theorem EV.cast {e : Expr} {d d' : V} (h : EV c sc X n ρ e d) (hd : d = d') : EV c sc X n ρ e d' := hd ▸ h
theorem TV.cast {e : Expr} {b b' : Bool} (h : TV c sc X n ρ e b) (hd : b = b') : TV c sc X n ρ e b' := hd ▸ h
end

/-- the defs and built-ins of the top -/
structure Top1 (c : Cx) : Prop where
  abs : c.gv "abs" = some (.builtin "abs")
  len : c.gv "len" = some (.builtin "len")
  list : c.gv "list" = some (.type "list")
  range : c.gv "range" = some (.type "range")
  gcd : Def c "gcd" 5 []
  make : Def c "make" 6 []
  is_na : Def c "is_na" 7 []
  is_finite : Def c "is_finite" 8 []
  neg : Def c "neg" 10 []
  add : Def c "add" 11 []
  sub : Def c "sub" 12 []
  mul : Def c "mul" 13 []
  div : Def c "div" 14 []

variable {c : Cx}

theorem gcd_emod' {x y : Int} (hx : 0 ≤ x) (hy : 0 ≤ y) : Int.gcd y (x % y) = Int.gcd x y := by
  obtain ⟨a, rfl⟩ := Int.eq_ofNat_of_zero_le hx
  obtain ⟨b, rfl⟩ := Int.eq_ofNat_of_zero_le hy
  have e : (a : Int) % (b : Int) = ((a % b : Nat) : Int) := rfl
  rw [e, Int.gcd_comm (a : Int)]
  show Nat.gcd b (a % b) = Nat.gcd b a
  rw [Nat.gcd_rec b a, Nat.gcd_comm]
theorem gcd_ok (D : Def c "gcd" 5 []) {a b : Int} (ha : 0 ≤ a) (hb : 0 ≤ b) : Ok c 2 "gcd" [.d (.int a), .d (.int b)] (.d (.int (Int.gcd a b))) := by
  refine Ok.of (n := 1) D (by rfl) fun A g s R S => ?_
  have S0 : StE c (fscope 5) g [("a", .d (.int a)), ("b", .d (.int b))] {} s := S.sub (.cons (by rfl) (.cons (by rfl) .nil))
  refine x_while b.toNat R (fun m s => ∃ x y, 0 ≤ x ∧ 0 ≤ y ∧ m = y.toNat ∧ Int.gcd x y = Int.gcd a b ∧ StE c (fscope 5) g [("a", .d (.int x)), ("b", .d (.int y))] {} s) ⟨a, b, ha, hb, rfl, rfl, S0⟩ ?_
  rintro m s ⟨x, y, hx, hy, rfl, he, S⟩
  refine (TV.cmpO EV.name EV.cint CmpOk.gt).use R S fun s₁ k₁ S₁ => ?_
  by_cases h : 0 < y
  · rw [if_pos (by simpa using h)]
    have hlt := Int.fmod_lt_of_pos x h
    have hge := Int.fmod_nonneg_of_pos x h
    refine x_pair EV.name (EV.mod EV.name EV.name (Int.ne_of_gt h)) R S₁ (.inl (by rfl)) (.inl (by rfl)) (fun s₂ S₂ => x_nil ⟨rfl, (x.fmod y).toNat, toNat_l hge hlt, y, x.fmod y, hy, hge, rfl, ?_, S₂.sub (.cons (by rfl) (.cons (by rfl) .nil))⟩) (by intro env h; cases env; cases h; rfl)
    rw [← he, Int.fmod_eq_emod_of_nonneg _ hy, gcd_emod' hx hy]
  · rw [if_neg (by simpa using h)]
    have h0 : y = 0 := Int.le_antisymm (Int.not_lt.mp h) hy
    refine x_ret EV.name R S₁ fun v s' S' r => ?_
    have e : (Int.gcd a b : Int) = x := by rw [← he, h0, Int.gcd_zero_right]; exact Int.natAbs_of_nonneg hx
    rw [e]
    exact .mk S' r

theorem make_ok (T : Top1 c) {n d : Int} (hd : d ≠ 0) : Ok c 4 "make" [.d (.int n), .d (.int d)] (.d (q2d (Rat.divInt n d))) := by
  refine Ok.of (n := 3) T.make (by rfl) fun A g s R S => ?_
  have S0 : StE c (fscope 6) g [("n", .d (.int n)), ("d", .d (.int d))] {} s := S.sub (.cons (by rfl) (.cons (by rfl) .nil))
  refine x_ifF ((TV.cmpO EV.name EV.cint CmpOk.eq).cast (by simpa using hd)) R S0 fun s₁ S₁ => x_nil ?_
  have fin : ∀ (n d : Int) (s : Shared), 0 < d → StE c (fscope 6) g [("n", .d (.int n)), ("d", .d (.int d))] {} s → wpAny (model c.prog c.w) A (execs ((fbody 6).drop 2) g.env) (RetOk c g (.d (q2d (Rat.divInt n d)))) nE s := by
    intro n d s hd S
    obtain ⟨h1, h2⟩ := divInt_nat (n := n) hd
    refine x_asg (EV.call' (gcd_ok T.gcd (a := if n < 0 then -n else n) (b := d) (by split <;> (first | lia | omega)) (by (first | lia | omega))) (EVs.two (EV.abs (i := n) EV.name T.abs) EV.name)) R S (.inl (by rfl)) fun s' S' => ?_
    have hg : (Int.gcd (if n < 0 then -n else n) d : Int) ≠ 0 := by
      have := Int.gcd_pos_of_ne_zero_right (if n < 0 then -n else n) (show d ≠ 0 by (first | lia | omega))
      (first | lia | omega)
    refine x_retOk (EV.cast (EV.tuple (ds := [_, _]) (EVs.two (EV.fdiv EV.name EV.name hg) (EV.fdiv EV.name EV.name hg))) ?_) R S'
    rw [← h1, ← h2]; rfl
  by_cases hlt : d < 0
  · refine x_ifT ((TV.cmpO EV.name EV.cint CmpOk.lt).cast (by simpa using hlt)) R S₁ fun s₂ S₂ => ?_
    refine x_asg (EV.sub EV.cint EV.name) R S₂ (.inl (by rfl)) fun s₃ S₃ => x_asg (EV.sub EV.cint EV.name) R S₃ (.inl (by rfl)) fun s₄ S₄ => x_nil ?_
    have := fin (0 - n) (0 - d) s₄ (by (first | lia | omega)) (S₄.sub (.cons (by rfl) (.cons (by rfl) .nil)))
    rw [Int.zero_sub, Int.zero_sub, Rat.neg_divInt_neg] at this
    exact this
  · refine x_ifF ((TV.cmpO EV.name EV.cint CmpOk.lt).cast (by simpa using hlt)) R S₁ fun s₂ S₂ => x_nil ?_
    exact fin n d s₂ (by (first | lia | omega)) S₂
end Mine

namespace Mine
open PySem PySem.W PySem.Calls PyProof.Rows PySem.Spec PySem.Challenge
variable {c : Cx}

section
variable {sc : Scope} {X : Res} {n : Nat} {ρ : Rho}
theorem EV.num {e : Expr} {k : Nat} {p p' : Pos} {q : Rat} (h : EV c sc X n ρ e (.d (q2d q))) : EV c sc X n ρ (.Subscript e (.Constant (.int 0) k p) p') (.d (.int q.num)) := EV.itemT h EV.cint
theorem EV.den {e : Expr} {k : Nat} {p p' : Pos} {q : Rat} (h : EV c sc X n ρ e (.d (q2d q))) : EV c sc X n ρ (.Subscript e (.Constant (.int 1) k p) p') (.d (.int q.den)) := EV.itemT h EV.cint
theorem EV.rat {e e' : Expr} {k : Nat} {p : Pos} {q : Rat} (h : EV c sc X n ρ e (.d (.int q.num))) (h' : EV c sc X n ρ e' (.d (.int q.den))) (he : ∀ rest env, starEach (e :: rest) env = (false, eval e env) :: starEach rest env := by intro _ _; rfl)
    (he' : ∀ rest env, starEach (e' :: rest) env = (false, eval e' env) :: starEach rest env := by intro _ _; rfl) : EV c sc X n ρ (.Tuple [e, e'] k p) (.d (q2d q)) := EV.tuple (ds := [_, _]) (EVs.two h h' he he')
end
theorem den0 (q : Rat) : ((q.den : Int) == 0) = false := by have := q.den_pos; simp; (first | lia | omega)

theorem is_na_ok (T : Top1 c) (q : Rat) : Ok c 2 "is_na" [.d (q2d q)] (.d (.bool false)) := by
  refine Ok.of (n := 1) T.is_na (by rfl) fun A g s R S => ?_
  have S0 : StE c (fscope 7) g [("x", .d (q2d q))] {} s := S.sub (.cons (by rfl) .nil)
  refine x_retOk (EV.orF (EV.cmpO EV.name EV.cnone (CmpOk.isN (p := q2d q))) (EV.boolOne ?_)) R S0
  by_cases h : q.num = 0
  · refine EV.andT (EV.cast (EV.cmpO (EV.num EV.name) EV.cint CmpOk.eq) (by rw [h]; rfl)) (EV.boolOne (EV.cast (EV.cmpO (EV.den EV.name) EV.cint CmpOk.eq) (by rw [den0])))
  · exact EV.andF (EV.cast (EV.cmpO (EV.num EV.name) EV.cint CmpOk.eq) (by simp [h]))
theorem is_finite_ok (T : Top1 c) (q : Rat) : Ok c 2 "is_finite" [.d (q2d q)] (.d (.bool true)) := by
  refine Ok.of (n := 1) T.is_finite (by rfl) fun A g s R S => ?_
  have S0 : StE c (fscope 8) g [("x", .d (q2d q))] {} s := S.sub (.cons (by rfl) .nil)
  refine x_retOk (EV.andT (EV.cmpO EV.name EV.cnone (CmpOk.isNotN (p := q2d q))) (EV.boolOne (EV.cast (EV.cmpO (EV.den EV.name) EV.cint CmpOk.gt) ?_))) R S0
  have := q.den_pos
  simp; omega
theorem neg_ok (T : Top1 c) (q : Rat) : Ok c 2 "neg" [.d (q2d q)] (.d (q2d (-q))) := by
  refine Ok.of (n := 1) T.neg (by rfl) fun A g s R S => ?_
  have S0 : StE c (fscope 10) g [("x", .d (q2d q))] {} s := S.sub (.cons (by rfl) .nil)
  refine x_ifF (TV.cmpO EV.name EV.cnone (CmpOk.isN (p := q2d q))) R S0 fun s₁ S₁ => x_nil ?_
  refine x_retOk (EV.rat (EV.cast (EV.sub EV.cint (EV.num (q := q) EV.name)) (by rw [Rat.neg_num, Int.zero_sub])) (EV.cast (EV.den (q := q) EV.name) (by rw [Rat.neg_den]))) R S₁
theorem notNa (T : Top1 c) {sc : Scope} {X : Res} {n : Nat} {ρ : Rho} {x : Str} {q : Rat} {px pf pos : Pos} (hx : ρ.lookup x = some (.d (q2d q)) := by rfl) (hn : 2 ≤ n := by (first | lia | omega)) (hk : sc.names.lookup ("is_na" : Str) = some .globalImplicit := by rfl)
    (hd : (x == ("__debug__" : Str)) = false := by rfl) (hn' : (x == ("__classdict__" : Str)) = false := by rfl) : TV c sc X n ρ (.Call (.Name "is_na" pf) [.Name x px] [] pos) false :=
  TV.ofBool (EV.call' (is_na_ok T q) (EVs.one (EV.name hx hd hn')) hn hk)

theorem add_ok (T : Top1 c) {x y : Rat} {a b : Nat} (hx : Sz a x) (hy : Sz b y) (hab : a + b + 2 ≤ 2 ^ 27) : Ok c 6 "add" [.d (q2d x), .d (q2d y)] (.d (q2d (x + y))) := by
  refine Ok.of (n := 5) T.add (by rfl) fun A g s R S => ?_
  have S0 : StE c (fscope 11) g [("x", .d (q2d x)), ("y", .d (q2d y))] {} s := S.sub (.cons (by rfl) (.cons (by rfl) .nil))
  refine x_ifF (TV.orF (notNa T (q := x)) (TV.orF (notNa T (q := y)) TV.or0)) R S0 fun s S => x_nil ?_
  refine x_ifF (TV.andF ((TV.cmpO (EV.den EV.name) EV.cint CmpOk.eq).cast (den0 x))) R S fun s S => x_nil ?_
  refine x_ifF ((TV.cmpO (EV.den EV.name) EV.cint CmpOk.eq).cast (den0 x)) R S fun s S => x_nil ?_
  refine x_ifF ((TV.cmpO (EV.den EV.name) EV.cint CmpOk.eq).cast (den0 y)) R S fun s S => x_nil ?_
  have hd : ((x.den : Int) * y.den) ≠ 0 := by have := x.den_pos; have := y.den_pos; exact Int.mul_ne_zero (by (first | lia | omega)) (by (first | lia | omega))
  refine x_retOk (EV.cast (EV.call' (make_ok T hd) (EVs.two (EV.add (EV.mul (EV.num EV.name) (EV.den EV.name) (mulOk hx.1 (y := (y.den : Int)) (b := b) hy.2 (by (first | lia | omega)))) (EV.mul (EV.num EV.name) (EV.den EV.name) (mulOk hy.1 (y := (x.den : Int)) (b := a) hx.2 (by (first | lia | omega)))))
    (EV.mul (EV.den EV.name) (EV.den EV.name) (mulOk (x := (x.den : Int)) (y := (y.den : Int)) (a := a) (b := b) hx.2 hy.2 (by (first | lia | omega)))))) (by rw [add_divInt])) R S
theorem sub_ok (T : Top1 c) {x y : Rat} {a b : Nat} (hx : Sz a x) (hy : Sz b y) (hab : a + b + 2 ≤ 2 ^ 27) : Ok c 8 "sub" [.d (q2d x), .d (q2d y)] (.d (q2d (x - y))) := by
  refine Ok.of (n := 7) T.sub (by rfl) fun A g s R S => ?_
  have S0 : StE c (fscope 12) g [("x", .d (q2d x)), ("y", .d (q2d y))] {} s := S.sub (.cons (by rfl) (.cons (by rfl) .nil))
  exact x_retOk (EV.cast (EV.call' (add_ok T hx hy.neg hab) (EVs.two EV.name (EV.call' (neg_ok T y) (EVs.one EV.name)))) (by rw [Rat.sub_eq_add_neg])) R S0
theorem mul_ok (T : Top1 c) {x y : Rat} {a b : Nat} (hx : Sz a x) (hy : Sz b y) (hab : a + b + 2 ≤ 2 ^ 27) : Ok c 6 "mul" [.d (q2d x), .d (q2d y)] (.d (q2d (x * y))) := by
  refine Ok.of (n := 5) T.mul (by rfl) fun A g s R S => ?_
  have S0 : StE c (fscope 13) g [("x", .d (q2d x)), ("y", .d (q2d y))] {} s := S.sub (.cons (by rfl) (.cons (by rfl) .nil))
  refine x_ifF (TV.orF (notNa T (q := x)) (TV.orF (notNa T (q := y)) TV.or0)) R S0 fun s S => x_nil ?_
  have hd : ((x.den : Int) * y.den) ≠ 0 := by have := x.den_pos; have := y.den_pos; exact Int.mul_ne_zero (by (first | lia | omega)) (by (first | lia | omega))
  exact x_retOk (EV.cast (EV.call' (make_ok T hd) (EVs.two (EV.mul (EV.num EV.name) (EV.num EV.name) (mulOk hx.1 hy.1 (by (first | lia | omega))))
    (EV.mul (EV.den EV.name) (EV.den EV.name) (mulOk (x := (x.den : Int)) (y := (y.den : Int)) (a := a) (b := b) hx.2 hy.2 (by (first | lia | omega)))))) (by rw [mul_divInt])) R S
theorem div_ok (T : Top1 c) {x y : Rat} {a b : Nat} (hx : Sz a x) (hy : Sz b y) (h0 : y ≠ 0) (hab : a + b + 2 ≤ 2 ^ 27) : Ok c 6 "div" [.d (q2d x), .d (q2d y)] (.d (q2d (x / y))) := by
  refine Ok.of (n := 5) T.div (by rfl) fun A g s R S => ?_
  have S0 : StE c (fscope 14) g [("x", .d (q2d x)), ("y", .d (q2d y))] {} s := S.sub (.cons (by rfl) (.cons (by rfl) .nil))
  refine x_ifF (TV.orF (notNa T (q := x)) (TV.orF (notNa T (q := y)) TV.or0)) R S0 fun s S => x_nil ?_
  refine x_ifF (TV.andF ((TV.cmpO (EV.den EV.name) EV.cint CmpOk.eq).cast (den0 x))) R S fun s S => x_nil ?_
  refine x_ifF ((TV.cmpO (EV.den EV.name) EV.cint CmpOk.eq).cast (den0 x)) R S fun s S => x_nil ?_
  have hn : y.num ≠ 0 := fun e => h0 (Rat.num_eq_zero.mp e)
  have hd : ((x.den : Int) * y.num) ≠ 0 := by have := x.den_pos; exact Int.mul_ne_zero (by (first | lia | omega)) hn
  exact x_retOk (EV.cast (EV.call' (make_ok T hd) (EVs.two (EV.mul (EV.num EV.name) (EV.den EV.name) (mulOk hx.1 (y := (y.den : Int)) (b := b) hy.2 (by (first | lia | omega))))
    (EV.mul (EV.den EV.name) (EV.num EV.name) (mulOk (x := (x.den : Int)) (a := a) hx.2 hy.1 (by (first | lia | omega)))))) (by rw [div_divInt x y h0])) R S
end Mine

namespace Mine
open PySem PySem.W PySem.Calls PyProof.Rows PySem.Spec PySem.Challenge
variable {c : Cx}

/-! vectors -/
noncomputable def vec (n : Nat) (f : Nat → Rat) : PyData := .list ((List.range n).map fun i => q2d (f i))
theorem vec_congr {n : Nat} {f g : Nat → Rat} (h : ∀ i, i < n → f i = g i) : vec n f = vec n g := by
  unfold vec
  congr 1
  exact List.map_congr_left fun i hi => by rw [h i (List.mem_range.mp hi)]
theorem vec_len (n : Nat) (f : Nat → Rat) : ((List.range n).map fun i => q2d (f i)).length = n := by simp
theorem vec_at {n i : Nat} {f : Nat → Rat} (h : i < n) : ((List.range n).map fun i => q2d (f i))[i]? = some (q2d (f i)) := by simp [h]
noncomputable def sm : Nat → (Nat → Rat) → Rat
  | 0, _ => 0
  | k + 1, F => sm k F + F k
noncomputable def dot (n : Nat) (f g : Nat → Rat) : Rat := sm n fun k => f k * g k
theorem Sz.zero {b : Nat} : Sz b 0 ∨ b = 0 := by
  rcases Nat.eq_zero_or_pos b with h | h
  · exact .inr h
  · refine .inl ⟨?_, ?_⟩
    · show (0 : Int).natAbs < 2 ^ b; exact Nat.two_pow_pos b
    · show 1 < 2 ^ b; exact Nat.one_lt_two_pow (by (first | lia | omega))
theorem Sz.sm {b : Nat} {F : Nat → Rat} : ∀ {k : Nat}, (∀ i, i < k → Sz b (F i)) → Sz (1 + k * (b + 1)) (sm k F)
  | 0, _ => by
    have h0 : Sz 1 0 := ⟨by decide, by decide⟩
    exact h0.le (by (first | lia | omega))
  | k + 1, h => by
    have h1 := Sz.sm (k := k) fun i hi => h i (by (first | lia | omega))
    have := h1.add (h k (by (first | lia | omega)))
    refine this.le ?_
    rw [Nat.succ_mul]; (first | lia | omega)
theorem rng1 {k i : Nat} {d : PyData} (h : (rng 0 1 k)[i]? = some d) : i < k ∧ d = .int i := by
  have hi : i < k := by
    have := (List.getElem?_eq_some_iff.mp h).1
    rwa [rng_len] at this
  refine ⟨hi, ?_⟩
  rw [rng_at hi] at h
  have := Option.some.inj h
  rw [← this]
  congr 1; (first | lia | omega)

section
variable {sc : Scope} {X : Res} {n : Nat} {ρ : Rho}
theorem EV.vecAt {a i : Expr} {pos : Pos} {N k : Nat} {f : Nat → Rat} (ha : EV c sc X n ρ a (.d (vec N f))) (hi : EV c sc X n ρ i (.d (.int k))) (hk : k < N) (hN : N ≤ 2 ^ 20)
    (hs : ∀ l u, subscripted i false (.ref l) (.int k u) = operate [.ref l, .int k u] (getItem (.ref l) (.int k u)) := by intro _ _; with_unfolding_all rfl) : EV c sc X n ρ (.Subscript a i pos) (.d (q2d (f k))) :=
  EV.item ha hi (by (first | lia | omega)) (by (first | lia | omega)) (by rw [Int.toNat_natCast]; exact vec_at hk) hs
theorem EV.vecLen {px pos : Pos} {e : Expr} {N : Nat} {f : Nat → Rat} (ha : EV c sc X n ρ e (.d (vec N f))) (hg : c.gv "len" = some (.builtin "len")) (hN : N ≤ 2 ^ 20) (hk : sc.names.lookup ("len" : Str) = some .globalImplicit := by rfl)
    (he : ∀ rest env, starEach (e :: rest) env = (false, eval e env) :: starEach rest env := by intro _ _; rfl) : EV c sc X n ρ (.Call (.Name "len" px) [e] [] pos) (.d (.int N)) :=
  EV.cast (EV.len ha hg (by rw [vec_len]; (first | lia | omega)) hk he) (by rw [vec_len])
end

structure Top2 (c : Cx) : Prop extends Top1 c where
  zero : ∃ v, c.gv "ZERO" = some v ∧ ∀ h W, (∀ a ∈ W, c.base < a) → Wd c h → Rv W h v (q2d 0)
  weighted : Def c "weighted" 18 []
  dot : Def c "dot" 19 []
  less : Def c "less_multiple" 20 []
  check : Def c "check_finite" 21 []
  used : Def c "used_rows" 25 []
  rss : Def c "rss" 27 []

theorem weighted_ok (T : Top2 c) (p : PyData) : Ok c 2 "weighted" [.d p, .d .none] (.d p) := by
  refine Ok.of (n := 1) T.weighted (by rfl) fun A g s R S => ?_
  have S0 : StE c (fscope 18) g [("values", .d p), ("weights", .d .none)] {} s := S.sub (.cons (by rfl) (.cons (by rfl) .nil))
  exact x_ifT (TV.cmpO EV.name EV.cnone (CmpOk.isN (p := .none))) R S0 fun s₁ S₁ => x_ret EV.name R S₁ fun v s' S' r => .mk S' r
theorem used_ok (T : Top2 c) (k : Int) : Ok c 2 "used_rows" [.d (.int k), .d .none] (.d (.int k)) := by
  refine Ok.of (n := 1) T.used (by rfl) fun A g s R S => ?_
  have S0 : StE c (fscope 25) g [("count", .d (.int k)), ("weights", .d .none)] {} s := S.sub (.cons (by rfl) (.cons (by rfl) .nil))
  exact x_ifT (TV.cmpO EV.name EV.cnone (CmpOk.isN (p := .none))) R S0 fun s₁ S₁ => x_ret EV.name R S₁ fun v s' S' r => .mk S' r

theorem num_ne (q : Rat) : (q.num != 0) = !(q == 0) := by
  by_cases h : q = 0
  · rw [h]; rfl
  · have : q.num ≠ 0 := fun e => h (Rat.num_eq_zero.mp e)
    have h1 : (q == 0) = false := by simpa using h
    rw [h1]; simpa using this

theorem dot_ok (T : Top2 c) {n a b : Nat} {f g : Nat → Rat} (hf : ∀ i, i < n → Sz a (f i)) (hg : ∀ i, i < n → Sz b (g i)) (hn : n ≤ 2 ^ 20) (hz : 1 + n * (a + b + 1) + (a + b) + 4 ≤ 2 ^ 27) :
    Ok c 8 "dot" [.d (vec n f), .d (vec n g)] (.d (q2d (dot n f g))) := by
  refine Ok.of (n := 7) T.dot (by rfl) fun A fm s R S => ?_
  have S0 : StE c (fscope 19) fm [("u", .d (vec n f)), ("v", .d (vec n g))] {} s := S.sub (.cons (by rfl) (.cons (by rfl) .nil))
  obtain ⟨vz, hgz, hrz⟩ := T.zero
  refine x_asg (EV.globD hgz hrz) R S0 (.inl (by rfl)) fun s₁ S₁ => ?_
  refine x_for (IT.range1 (EV.vecLen EV.name T.len hn) (by (first | lia | omega)) T.range) R S₁ (.inl (by rfl)) (fun i => [("u", .d (vec n f)), ("v", .d (vec n g)), ("total", .d (q2d (sm i fun k => f k * g k)))]) (fun _ => {}) (.cons (by rfl) (.cons (by rfl) (.cons (by rfl) .nil))) rfl ?_ ?_
  · intro i d hd fm' s' he _ _ _ S'
    obtain ⟨hi, rfl⟩ := rng1 hd
    have hsz : Sz (1 + i * (a + b + 1)) (sm i fun k => f k * g k) := Sz.sm fun j hj => (hf j (by (first | lia | omega))).mul (hg j (by (first | lia | omega)))
    have hle : i * (a + b + 1) ≤ n * (a + b + 1) := Nat.mul_le_mul_right _ (by (first | lia | omega))
    by_cases h : f i ≠ 0 ∧ g i ≠ 0
    · refine x_ifT (TV.andT ((TV.cmpO (EV.num (q := f i) (EV.vecAt EV.name EV.name hi hn)) EV.cint CmpOk.ne).cast (by rw [num_ne]; simp [h.1])) (TV.andT ((TV.cmpO (EV.num (q := g i) (EV.vecAt EV.name EV.name hi hn)) EV.cint CmpOk.ne).cast (by rw [num_ne]; simp [h.2])) TV.and0)) R S' fun s₂ S₂ => ?_
      refine x_asg (EV.call' (add_ok T.toTop1 hsz ((hf i hi).mul (hg i hi)) (by (first | lia | omega))) (EVs.two EV.name (EV.call' (mul_ok T.toTop1 (hf i hi) (hg i hi) (by (first | lia | omega))) (EVs.two (EV.vecAt EV.name EV.name hi hn) (EV.vecAt EV.name EV.name hi hn))))) R S₂ (.inl (by rfl)) fun s₃ S₃ => x_nil (x_nil ⟨rfl, ?_⟩)
      exact S₃.sub (.cons (by rfl) (.cons (by rfl) (.cons (by rfl) .nil)))
    · have hz0 : f i * g i = 0 := by
        by_cases h1 : f i = 0
        · rw [h1]; grind
        · have h2 : g i = 0 := by
            by_cases h2 : g i = 0
            · exact h2
            · exact absurd ⟨h1, h2⟩ h
          rw [h2]; grind
      have e : sm (i + 1) (fun k => f k * g k) = sm i fun k => f k * g k := by
        show sm i _ + f i * g i = _
        rw [hz0]; grind
      rw [e]
      by_cases h1 : f i = 0
      · exact x_ifF (TV.andF ((TV.cmpO (EV.num (q := f i) (EV.vecAt EV.name EV.name hi hn)) EV.cint CmpOk.ne).cast (by rw [num_ne]; simp [h1]))) R S' fun s₂ S₂ => x_nil (x_nil ⟨rfl, S₂.sub (.cons (by rfl) (.cons (by rfl) (.cons (by rfl) .nil)))⟩)
      · have h2 : g i = 0 := by
          by_cases h2 : g i = 0
          · exact h2
          · exact absurd ⟨h1, h2⟩ h
        exact x_ifF (TV.andT ((TV.cmpO (EV.num (q := f i) (EV.vecAt EV.name EV.name hi hn)) EV.cint CmpOk.ne).cast (by rw [num_ne]; simp [h1])) (TV.andF ((TV.cmpO (EV.num (q := g i) (EV.vecAt EV.name EV.name hi hn)) EV.cint CmpOk.ne).cast (by rw [num_ne]; simp [h2])))) R S' fun s₂ S₂ => x_nil (x_nil ⟨rfl, S₂.sub (.cons (by rfl) (.cons (by rfl) (.cons (by rfl) .nil)))⟩)
  · intro s₂ S₂
    rw [rng_len] at S₂
    exact x_retOk EV.name R S₂
theorem qzero (q : Rat) : (q.num == 0) = (q == 0) := by
  by_cases h : q = 0
  · rw [h]; rfl
  · have : q.num ≠ 0 := fun e => h (Rat.num_eq_zero.mp e)
    have h1 : (q == 0) = false := by simpa using h
    rw [h1]; simpa using this

theorem fre_nil {scope : Scope} {ρ : Rho} : ∀ z d, ([] : Rho).lookup z = some d → scope.names.lookup z = some .free ∧ ρ.lookup z = some d := fun _ _ e => by simp at e
theorem fre_cons {scope : Scope} {ρ ρf : Rho} {x : Str} {e : V} (h1 : scope.names.lookup x = some .free) (h2 : ρ.lookup x = some e) (h : ∀ z d, ρf.lookup z = some d → scope.names.lookup z = some .free ∧ ρ.lookup z = some d) :
    ∀ z d, ((x, e) :: ρf).lookup z = some d → scope.names.lookup z = some .free ∧ ρ.lookup z = some d := by
  intro z d q
  rw [List.lookup_cons] at q
  cases hy : z == x with
  | true => rw [hy] at q; cases q; rw [beq_iff_eq.mp hy]; exact ⟨h1, h2⟩
  | false => rw [hy] at q; exact h z d q

theorem less_ok (T : Top2 c) {n a b k : Nat} {f g : Nat → Rat} {q : Rat} (hf : ∀ i, i < n → Sz a (f i)) (hg : ∀ i, i < n → Sz b (g i)) (hq : Sz k q) (hn : n ≤ 2 ^ 20) (hz : a + k + b + 4 ≤ 2 ^ 27) :
    Ok c 10 "less_multiple" [.d (vec n f), .d (q2d q), .d (vec n g)] (.d (vec n fun i => f i - q * g i)) := by
  refine Ok.of (n := 9) T.less (by rfl) fun A fm s R S => ?_
  have S0 : StE c (fscope 20) fm [("u", .d (vec n f)), ("factor", .d (q2d q)), ("v", .d (vec n g))] {} s := S.sub (.cons (by rfl) (.cons (by rfl) (.cons (by rfl) .nil)))
  by_cases h : q = 0
  · refine x_ifT ((TV.cmpO (EV.num (q := q) EV.name) EV.cint CmpOk.eq).cast (by rw [qzero]; simpa using h)) R S0 fun s₁ S₁ => x_ret EV.name R S₁ fun v s' S' r => ?_
    rw [vec_congr (g := f) fun i _ => by rw [h]; grind]
    exact .mk S' r
  · refine x_ifF ((TV.cmpO (EV.num (q := q) EV.name) EV.cint CmpOk.eq).cast (by rw [qzero]; simpa using h)) R S0 fun s₁ S₁ => x_nil ?_
    refine x_retOk (EV.comp [("u", .d (vec n f)), ("factor", .d (q2d q)), ("v", .d (vec n g))] (rs := (List.range n).map fun i => q2d (f i - q * g i)) (IT.range1 (EV.vecLen EV.name T.len hn) (by (first | lia | omega)) T.range) (fun i d hd => ?_) (by rw [rng_len]; simp) (fre_cons (by rfl) (by rfl) (fre_cons (by rfl) (by rfl) (fre_cons (by rfl) (by rfl) fre_nil))) (by rw [rng_len]; (first | lia | omega))) R S₁
    · obtain ⟨hi, rfl⟩ := rng1 hd
      refine ⟨_, vec_at (f := fun i => f i - q * g i) hi, ?_⟩
      exact EV.call' (sub_ok T.toTop1 (hf i hi) (hq.mul (hg i hi)) (by (first | lia | omega))) (EVs.two (EV.vecAt EV.name EV.name hi hn) (EV.call' (mul_ok T.toTop1 hq (hg i hi) (by (first | lia | omega))) (EVs.two EV.name (EV.vecAt EV.name EV.name hi hn))))

theorem check_ok (T : Top2 c) {n : Nat} {f : Nat → Rat} {x : Str} (hn : n ≤ 2 ^ 20) : Ok c 5 "check_finite" [.d (vec n f), .d (.str x)] (.d .none) := by
  refine Ok.of (n := 4) T.check (by rfl) fun A fm s R S => ?_
  have S0 : StE c (fscope 21) fm [("column", .d (vec n f)), ("name", .d (.str x))] {} s := S.sub (.cons (by rfl) (.cons (by rfl) .nil))
  refine x_for (IT.list EV.name) R S0 (.inl (by rfl)) (fun i => []) (fun _ => {}) .nil rfl ?_ ?_
  · intro i d hd fm' s' he _ _ _ S'
    have hi : i < n := by
      have := (List.getElem?_eq_some_iff.mp hd).1
      simpa using this
    rw [vec_at hi] at hd
    obtain rfl := Option.some.inj hd
    refine x_ifF (TV.not (TV.ofBool (EV.call' (is_finite_ok T.toTop1 (f i)) (EVs.one EV.name)))) R S' fun s₂ S₂ => x_nil (x_nil ⟨rfl, S₂.sub .nil⟩)
  · intro s₂ S₂
    exact x_nil (.fall S₂)

theorem rss_ok (T : Top2 c) {n a : Nat} {f : Nat → Rat} {fs : List (Str × PyData)} (h1 : fs.lookup ("residuals" : Str) = some (vec n f)) (h2 : fs.lookup ("weights" : Str) = some .none) (hf1 : findIn c.K (.ref c.C) "residuals" = some none) (hf2 : findIn c.K (.ref c.C) "weights" = some none)
    (hf : ∀ i, i < n → Sz a (f i)) (hn : n ≤ 2 ^ 20) (hz : 1 + n * (a + a + 1) + (a + a) + 4 ≤ 2 ^ 27) : Ok c 9 "rss" [.ob fs] (.d (q2d (dot n f f))) := by
  refine Ok.of (n := 8) T.rss (by rfl) fun A fm s R S => ?_
  have S0 : StE c (fscope 27) fm [("found", .ob fs)] {} s := S.sub (.cons (by rfl) .nil)
  exact x_retOk (EV.call' (dot_ok T hf hf hn hz) (EVs.two (EV.call' (weighted_ok T _) (EVs.two (EV.attr EV.name h1 hf1) (EV.attr EV.name h2 hf2))) (EV.attr EV.name h1 hf1))) R S0
end Mine

namespace Mine
open PySem PySem.W PySem.Calls PyProof.Rows PySem.Spec PySem.Challenge

noncomputable def c17 : Option Stmt := pw_ov0058_01.main.body[17]?
noncomputable def cbody : List Stmt := match c17 with | some (.ClassDef _ _ _ b _ _ _ _ _ _ _) => b | _ => []
noncomputable def i0 : Option Stmt := cbody[0]?
noncomputable def ibody : List Stmt := match i0 with | some (.FunctionDef _ _ b _ _ _ _ _ _ _) => b | _ => []
noncomputable def iscope : Scope := match i0 with | some (.FunctionDef _ _ _ _ _ _ s _ _ _) => s | _ => { kind := .function, names := [], isGenerator := false, isCoroutine := false }
noncomputable def iparams : List Str := match i0 with | some (.FunctionDef _ a _ _ _ _ _ _ _ _) => a.args.map (·.arg) | _ => []
/-- the fields of an object -/
noncomputable def fields : List Str := ["pivots", "bases", "norms", "shares", "steps", "coefficients", "fitted", "residuals", "weights", "rank", "df"]
structure TopC (c : Cx) : Prop where
  fit : c.gv "Fit" = some (.ref c.C)
  makes : makesIn c.K c.C = true
  keep : keepIn c.K (.ref c.C) = true
  init : ∃ f, findIn c.K (.ref c.C) "__init__" = some (some (.ref f)) ∧ typeIn c.K (.ref f) = some (.type "function") ∧ FnDef c f iparams [] ibody iscope
  free : ∀ x ∈ fields, findIn c.K (.ref c.C) x = some none

theorem new_call {c : Cx} {A : Around} {s : Shared} {rest : List Value} {f : Addr} {Q : Value → Shared → Prop} (X : c.K.In s.heap) (hm : makesIn c.K c.C = true) (hi : findIn c.K (.ref c.C) "__init__" = some (some (.ref f))) (hf : typeIn c.K (.ref f) = some (.type "function"))
    (h : codeAny (model c.prog c.w) (A.under (.builtin "type.__call__" ⟨.ref c.C :: rest, []⟩)) (.call (.ref f) ⟨.ref (s.heap.objs.size + 1) :: rest, []⟩) (InitBack (s.heap.objs.size + 1) fun r s' => match r with | .ok (.ret v) => Q v s' | .ok _ => False | .error e => nE e s') { s with heap := (s.heap.push emptyDict).push (instObj c.C s.heap.objs.size) }) :
    wpAny (model c.prog c.w) A (PySem.call (.ref c.C) rest) Q nE s := by
  obtain ⟨hh, g, d, t, os⟩ := s
  exact wpAny_call (make_core (makes_of X hm) (looks_findIn X hi) (fun self => bind_fn X self hf) (.inl rfl) h)
theorem tc_weight (a : Addr) (rest : List Value) : Code.weight (.builtin "type.__call__" ⟨.ref a :: rest, []⟩) = 1 := by kernel_rfl
theorem tc_units (a : Addr) (rest : List Value) : Code.cUnits (.builtin "type.__call__" ⟨.ref a :: rest, []⟩) = 1 := by kernel_rfl
theorem tc_envs (a : Addr) (rest : List Value) : Code.envs (.builtin "type.__call__" ⟨.ref a :: rest, []⟩) = [] := by kernel_rfl
theorem RoomC.new {A : Around} {n : Nat} {a : Addr} {rest : List Value} (r : RoomC A (n + 1)) : RoomC (A.under (.builtin "type.__call__" ⟨.ref a :: rest, []⟩)) n := by
  obtain ⟨l, hl⟩ := r.fr
  refine ⟨r.hd, ?_, ?_, ⟨l, ?_⟩⟩
  · have := r.dp
    show A.depth + Code.weight _ + n + _ < _
    rw [tc_weight]; (first | lia | omega)
  · have := r.un
    show A.units + Code.cUnits _ + _ + _ < _
    rw [tc_units]; (first | lia | omega)
  · have e : (A.under (.builtin "type.__call__" ⟨.ref a :: rest, []⟩)).frames = pushEnvs (Code.envs (.builtin "type.__call__" ⟨.ref a :: rest, []⟩)) A.frames := rfl
    rw [e, tc_envs, hl]; rfl

noncomputable def F0 (l1 l2 l3 l4 l5 : Addr) : List (Str × V) := [("df", .d (.int 0)), ("rank", .d (.int 0)), ("weights", .d .none), ("residuals", .d (.list [])), ("fitted", .d (.list [])), ("coefficients", .d (.list [])), ("steps", .at l5), ("shares", .at l4), ("norms", .at l3), ("bases", .at l2), ("pivots", .at l1)]
noncomputable def X0 (x dd l1 l2 l3 l4 l5 : Addr) : Res := { ls := [(l5, []), (l1, []), (l2, []), (l3, []), (l4, [])], os := [(x, dd, F0 l1 l2 l3 l4 l5)] }

theorem TopC.no {c : Cx} (T : TopC c) (x : Str) (h : fields.contains x = true := by decide +kernel) : findIn c.K (.ref c.C) x = some none := T.free x (by simpa using h)

theorem init_walk {c : Cx} (T : TopC c) (T1 : Top1 c) {A : Around} {g : Fm} {s : Shared} {x dd l1 l2 l3 l4 : Addr} {Q : Flow → Shared → Prop} (R : RoomE A 2)
    (S : StE c iscope g [("self", .at x), ("pivots", .at l1), ("bases", .at l2), ("norms", .at l3), ("shares", .at l4)] { ls := [(l1, []), (l2, []), (l3, []), (l4, [])], os := [(x, dd, [])] } s)
    (h : ∀ l5 s', l5 ∉ g.W → StE c iscope (gM g l5) [("self", .at x), ("pivots", .at l1), ("bases", .at l2), ("norms", .at l3), ("shares", .at l4)] (X0 x dd l1 l2 l3 l4 l5) s' → Q .next s') :
    wpAny (model c.prog c.w) A (execs ibody g.env) Q nE s := by
  refine (?_ : TR c iscope g 2 _ _ ibody Q) A s R S
  refine t_setattr EV.name rfl (by rfl) (T.no _) (Nat.le_of_ble_eq_true rfl) ?_
  refine t_setattr EV.name rfl (by rfl) (T.no _) (Nat.le_of_ble_eq_true rfl) ?_
  refine t_setattr EV.name rfl (by rfl) (T.no _) (Nat.le_of_ble_eq_true rfl) ?_
  refine t_setattr EV.name rfl (by rfl) (T.no _) (Nat.le_of_ble_eq_true rfl) ?_
  refine t_setN EN.nil rfl (by rfl) (T.no _) (Nat.le_of_ble_eq_true rfl) fun l5 h5 => ?_
  refine t_setattr (EV.list (ds := []) EVs.nil (Nat.zero_le _)) rfl (by rfl) (T.no _) (Nat.le_of_ble_eq_true rfl) ?_
  refine t_setattr (EV.list (ds := []) EVs.nil (Nat.zero_le _)) rfl (by rfl) (T.no _) (Nat.le_of_ble_eq_true rfl) ?_
  refine t_setattr (EV.list (ds := []) EVs.nil (Nat.zero_le _)) rfl (by rfl) (T.no _) (Nat.le_of_ble_eq_true rfl) ?_
  refine t_setattr EV.cnone rfl (by rfl) (T.no _) (Nat.le_of_ble_eq_true rfl) ?_
  refine t_setattr (EV.lenAt (l := l1) (ds := []) (j := 1) EV.name (by rfl) T1.len (Nat.zero_le _)) rfl (by rfl) (T.no _) (Nat.le_of_ble_eq_true rfl) ?_
  refine t_setattr EV.cint rfl (by rfl) (T.no _) (Nat.le_of_ble_eq_true rfl) (t_end fun s S => h l5 s h5 S)

theorem dead_back {s s₁ : Shared} (k : Kp s s₁) {l : Addr} (h : s₁.heap.get? l = none) : s.heap.get? l = none := by
  cases e : s.heap.get? l with
  | none => rfl
  | some o => have := (keeps_sm k).2 l o e; rw [h] at this; cases this
theorem Lst.alive {W : List Addr} {h : Heap} {l : Addr} {ds : List PyData} (x : Lst W h l ds) : Alive h l := let ⟨_, ⟨_, e⟩, _⟩ := x; ⟨_, e⟩
theorem ne_of_dead {h : Heap} {a b : Addr} (x : Alive h a) (y : h.get? b = none) : b ≠ a := fun e => by obtain ⟨o, q⟩ := x; rw [← e, y] at q; cases q

theorem Lst.nil0 {W W' : List Addr} {h h' : Heap} {l : Addr} (x : Lst W h l []) (k : HKeep h h') : Lst W' h' l [] := by
  obtain ⟨vs, ⟨m, e⟩, rs⟩ := x
  refine ⟨vs, ⟨m, k _ _ e⟩, ?_⟩
  generalize vs.toList = l at rs
  cases rs; exact .nil

theorem x_newFit {c : Cx} (T : TopC c) (T1 : Top1 c) {sc : Scope} {g : Fm} {ρ : Rho} {s : Shared} {A : Around} {n : Nat} {y : Str} {py pf p1 p2 p3 p4 pc pos : Pos} {rest : List Stmt} {Q : Flow → Shared → Prop} (R : RoomE A n) (S : StE c sc g ρ {} s) (hn : 4 ≤ n) (hk : canStore sc y)
    (h : ∀ x dd l1 l2 l3 l4 l5 s', [l5, dd, l4, l3, l2, l1].Nodup → (∀ l ∈ [l5, dd, l4, l3, l2, l1], l ∉ g.W) → StE c sc (gA g [l5, dd, l4, l3, l2, l1]) ((y, .at x) :: ρ) (X0 x dd l1 l2 l3 l4 l5) s' → wpAny (model c.prog c.w) A (execs rest (gA g [l5, dd, l4, l3, l2, l1]).env) Q nE s')
    (hkf : sc.names.lookup ("Fit" : Str) = some .globalImplicit := by rfl)
    (hs : ∀ env : Env, env.scope = sc → swapsWith (.Call (.Name "Fit" pf) [.List [] p1, .List [] p2, .List [] p3, .List [] p4] [] pc) (some (.Name y py)) pos.line env = pure false := by intro _ _; rfl) :
    wpAny (model c.prog c.w) A (execs (.Assign [.Name y py] (.Call (.Name "Fit" pf) [.List [] p1, .List [] p2, .List [] p3, .List [] p4] [] pc) pos :: rest) g.env) Q nE s := by
  refine wpAny_execs_cons (wpAny_Assign_Name ?_ (hs _ S.scp))
  refine wpAny_Call_NameR ((EV.glob T.fit hkf (by rfl)).use R S fun v s₁ k₁ S₁ r₁ => ?_)
  obtain rfl : v = .ref c.C := r₁
  refine callWith_K S.wd'.K T.keep ?_ rfl rfl
  refine wpAny_items_cons ((EN.nil (pos := p1)).use R S₁ fun l1 s₂ k₂ S₂ d1 b1 q1 => ?_) rfl
  refine wpAny_items_cons ((EN.nil (pos := p2)).use R S₂ fun l2 s₃ k₃ S₃ d2 b2 q2 => ?_) rfl
  refine wpAny_items_cons ((EN.nil (pos := p3)).use R S₃ fun l3 s₄ k₄ S₄ d3 b3 q3 => ?_) rfl
  refine wpAny_items_cons ((EN.nil (pos := p4)).use R S₄ fun l4 s₅ k₅ S₅ d4 b4 q4 => ?_) rfl
  refine wpAny_pure ⟨S₅.wd'.K, ?_⟩
  refine T.init.elim fun f z => new_call S₅.wd'.K T.makes z.1 z.2.1 ?_
  have a1 := q1.alive.keep (keeps_sm ((k₃.tr k₄).tr k₅)).2
  have a2 := q2.alive.keep (keeps_sm (k₄.tr k₅)).2
  have a3 := q3.alive.keep (keeps_sm k₅).2
  have a4 := q4.alive
  have n21 : l2 ≠ l1 := ne_of_dead q1.alive d2
  have n31 : l3 ≠ l1 := ne_of_dead (q1.alive.keep (keeps_sm k₃).2) d3
  have n32 : l3 ≠ l2 := ne_of_dead q2.alive d3
  have n41 : l4 ≠ l1 := ne_of_dead (q1.alive.keep (keeps_sm (k₃.tr k₄)).2) d4
  have n42 : l4 ≠ l2 := ne_of_dead (q2.alive.keep (keeps_sm k₄).2) d4
  have n43 : l4 ≠ l3 := ne_of_dead q3.alive d4
  generalize hdd : s₅.heap.objs.size = dd
  have k₆ : Kp s₅ { s₅ with heap := (s₅.heap.push emptyDict).push (instObj c.C dd) } := (Kp.push s₅ _ s₅.toks).tr (Kp.push _ _ s₅.toks)
  have hdd' : ((s₅.heap.push emptyDict).push (instObj c.C dd)).get? dd = some emptyDict := Heap.get?_push_of_some _ (by rw [← hdd]; exact Heap.get?_push_size _ rfl)
  have hx' : ((s₅.heap.push emptyDict).push (instObj c.C dd)).get? (dd + 1) = some (instObj c.C dd) := by
    have := Heap.get?_push_size (o := instObj c.C dd) (s₅.heap.push emptyDict) rfl
    rwa [Heap.size_push, hdd] at this
  have hlt : ∀ a, Alive s₅.heap a → a ≠ dd ∧ a ≠ dd + 1 := fun a ha => by
    have : @LT.lt Nat _ a dd := by rw [← hdd]; exact ha.lt
    exact ⟨Nat.ne_of_lt this, Nat.ne_of_lt (Nat.lt_succ_of_lt this)⟩
  have fdd : s₅.heap.get? dd = none ∧ c.base < dd := by
    have := fresh_at S₅ (Kp.rf s₅)
    rwa [hdd] at this
  have kall : Kp s s₅ := (((k₁.tr k₂).tr k₃).tr k₄).tr k₅
  have e1 : s.heap.get? l1 = none := dead_back k₁ d1
  have e2 : s.heap.get? l2 = none := dead_back (k₁.tr k₂) d2
  have e3 : s.heap.get? l3 = none := dead_back ((k₁.tr k₂).tr k₃) d3
  have e4 : s.heap.get? l4 = none := dead_back (((k₁.tr k₂).tr k₃).tr k₄) d4
  have edd : s.heap.get? dd = none := dead_back kall fdd.1
  have S₆ := S₅.exk k₆
  refine enter (n := 2) (dvs := []) (W := dd :: l4 :: l3 :: l2 :: l1 :: g.W) (args := [.at (dd + 1), .at l1, .at l2, .at l3, .at l4]) z.2.2 (by rfl) (fun _ _ => .nil) (R.c.le hn).new S₆.wd' ?_ (.cons rfl (.cons rfl (.cons rfl (.cons rfl (  .cons rfl .nil))))) (fun A' gI s₇ R' S₇ h0 hW hM hfp hG => ?_) (by rfl) (by rfl) (by rfl) (by decide +kernel) (by decide +kernel) (by decide +kernel)
  · have k5 := (keeps_sm k₆).2
    exact fm ⟨⟨_, hdd'⟩, fdd.2⟩ (fm ⟨a4.keep k5, b4⟩ (fm ⟨a3.keep k5, b3⟩ (fm ⟨a2.keep k5, b2⟩ (fm ⟨a1.keep k5, b1⟩ S₆.alive))))
  have hal : ∀ a ∈ [dd, l4, l3, l2, l1], Alive gI.s0.heap a := by
    rw [h0]
    have k5 := (keeps_sm k₆).2
    exact fm ⟨_, hdd'⟩ (fm (a4.keep k5) (fm (a3.keep k5) (fm (a2.keep k5) (fm (a1.keep k5) fm0))))
  have hown : ∀ a ∈ own gI, a ∉ [dd, l4, l3, l2, l1] ∧ a ≠ dd + 1 := fun a m => by
    have hn := S₇.newW a m
    refine ⟨fun q => ?_, fun q => ?_⟩
    · obtain ⟨o, e⟩ := hal a q; rw [hn] at e; cases e
    · rw [h0, q, hx'] at hn; cases hn
  have S₈ := S₇.inherit (s₀ := s) (M := [dd, l4, l3, l2, l1]) (X := { ls := [(l1, []), (l2, []), (l3, []), (l4, [])], os := [(dd + 1, dd, [])] }) hM hfp (by rw [h0]; exact kall.tr k₆) S.wd' (fun a m => by
      rw [hW]; exact List.mem_append_right _ (List.mem_append_left g.W m)) (fun a m => (hown a m).1) (fm edd (fm e4 (fm e3 (fm e2 (fm e1 fm0))))) ?_
  · refine init_walk (g := { gI with s0 := s, M := [dd, l4, l3, l2, l1] }) T T1 R' (S₈.sub (.cons (by rfl) (.cons (by rfl) (.cons (by rfl) (.cons (by rfl) (.cons (by rfl) .nil)))))) fun l5 s₉ h5 S₉ => ⟨.none, .inr ⟨rfl, rfl⟩, rfl, ?_⟩
    have h5' : l5 ∉ own gI ++ dd :: l4 :: l3 :: l2 :: l1 :: g.W := by rw [← hW]; exact h5
    have O : Owned c g.W s s₉ [l5, dd, l4, l3, l2, l1] (X0 (dd + 1) dd l1 l2 l3 l4 l5) := S₉.owned rfl (fun a m => m) (fun a m => by
      show a ∈ l5 :: gI.W
      rw [hW]; exact List.mem_cons_of_mem _ (List.mem_append_right _ (List.mem_append_right [dd, l4, l3, l2, l1] m))) (fun a m => m)
    refine StE.store (g := gA g [l5, dd, l4, l3, l2, l1]) (S.adopt O) (d := .at (dd + 1)) rfl hk fun s' S' _ _ => h (dd + 1) dd l1 l2 l3 l4 l5 s' ?_ (fun l m q => ?_) S'
    · exact .cons (fun b m q => h5' (q ▸ List.mem_append_right _ (List.mem_append_left g.W m))) (.cons (fm (Ne.symm (hlt l4 a4).1) (fm (Ne.symm (hlt l3 a3).1) (fm (Ne.symm (hlt l2 a2).1) (fm (Ne.symm (hlt l1 a1).1) fm0))))
        (.cons (fm n43 (fm n42 (fm n41 fm0))) (.cons (fm n32 (fm n31 fm0)) (.cons (fm n21 fm0) (.cons fm0 .nil)))))
    · obtain ⟨o, e⟩ := (S.alive l q).1
      rw [(O.fresh l m).1] at e; cases e
  · have k7 : HKeep s₅.heap s₇.heap := (keeps_sm k₆).2.trans (by have := S₇.keep; rw [h0] at this; exact this)
    refine ⟨fp ⟨m4, q1.nil0 ((keeps_sm ((k₃.tr k₄).tr k₅)).2.trans k7)⟩ (fp ⟨m3, q2.nil0 ((keeps_sm (k₄.tr k₅)).2.trans k7)⟩ (fp ⟨m2, q3.nil0 ((keeps_sm k₅).2.trans k7)⟩ (fp ⟨m1, q4.nil0 k7⟩ fp0))), fun a d fs m => ?_, ?_⟩
    · cases List.mem_singleton.mp m
      have k8 : HKeep ((s₅.heap.push emptyDict).push (instObj c.C dd)) s₇.heap := by have := S₇.keep; rw [h0] at this; exact this
      refine ⟨.head _, fun q => ?_, k8 _ _ hx', fun _ => none, ⟨Heap.Ns1.of_empty ⟨_, #[], 0, k8 _ _ hdd', rfl, ?_, fun _ => ?_⟩, [], Nat.le_refl _, Within.nil⟩, fun z d e => by simp at e⟩
      · have q' : dd + 1 ∈ gI.W := q
        rw [hW] at q'
        exact (List.mem_append.mp q').elim (fun q => (hown _ q).2 rfl) fun q => fm (P := fun b => b ≠ dd + 1) (Nat.succ_ne_self dd).symm (fm (hlt l4 a4).2 (fm (hlt l3 a3).2 (fm (hlt l2 a2).2 (fm (hlt l1 a1).2 fun b m => (hlt b (S₅.alive b m).1).2)))) _ q rfl
      · intro e he; simp at he
      · rfl
    · exact .cons (fm (Ne.symm n21) (fm (Ne.symm n31) (fm (Ne.symm n41) (fm (hlt l1 a1).1 fm0)))) (.cons (fm (Ne.symm n32) (fm (Ne.symm n42) (fm (hlt l2 a2).1 fm0))) (.cons (fm (Ne.symm n43) (fm (hlt l3 a3).1 fm0)) (.cons (fm (hlt l4 a4).1 fm0) (.cons fm0 .nil))))
end Mine

namespace Mine
open PySem

/-! the model of the elimination -/
structure Row where
  piv : Nat
  base : Nat → Rat
  share : List Rat
noncomputable def coef (n : Nat) (w b : Nat → Rat) : Rat := dot n w b / dot n b b
noncomputable def stp (n : Nat) (w b : Nat → Rat) : Nat → Rat := fun i => w i - coef n w b * b i
noncomputable def redV (n : Nat) (G : List Row) (v : Nat → Rat) : Nat → Rat := G.foldl (fun w r => stp n w r.base) v
noncomputable def redS (n : Nat) : List Row → (Nat → Rat) → List Rat
  | [], _ => []
  | r :: G, v => coef n v r.base :: redS n G (stp n v r.base)
noncomputable def gs (n : Nat) (cols : Nat → Nat → Rat) : Nat → List Row
  | 0 => []
  | p + 1 => if dot n (redV n (gs n cols p) (cols p)) (redV n (gs n cols p) (cols p)) = 0 then gs n cols p else gs n cols p ++ [⟨p, redV n (gs n cols p) (cols p), redS n (gs n cols p) (cols p)⟩]

theorem redV_snoc (n : Nat) (G : List Row) (r : Row) (v : Nat → Rat) : redV n (G ++ [r]) v = stp n (redV n G v) r.base := by simp [redV]
theorem redS_snoc (n : Nat) (r : Row) : ∀ (G : List Row) (v : Nat → Rat), redS n (G ++ [r]) v = redS n G v ++ [coef n (redV n G v) r.base]
  | [], v => rfl
  | a :: G, v => by
    show coef n v a.base :: redS n (G ++ [r]) _ = _
    rw [redS_snoc n r G]; rfl
theorem redS_len (n : Nat) : ∀ (G : List Row) (v : Nat → Rat), (redS n G v).length = G.length
  | [], _ => rfl
  | a :: G, v => by show (redS n G _).length + 1 = _; rw [redS_len n G]; rfl
theorem take_snoc {α : Type} {l : List α} {t : Nat} {r : α} (h : l[t]? = some r) : l.take (t + 1) = l.take t ++ [r] := by
  rw [List.take_add_one, h]; rfl
theorem gs_len (n : Nat) (cols : Nat → Nat → Rat) : ∀ p, (gs n cols p).length ≤ p
  | 0 => Nat.le_refl _
  | p + 1 => by
    have := gs_len n cols p
    unfold gs
    split
    · (first | lia | omega)
    · simp; (first | lia | omega)

/-! sizes -/
noncomputable def tau : Nat → Nat
  | 0 => 24
  | k + 1 => 22 * tau k + 13
theorem tau_mono : ∀ {i j : Nat}, i ≤ j → tau i ≤ tau j
  | i, 0, h => by have : i = 0 := by (first | lia | omega)
                  rw [this]; exact Nat.le_refl _
  | i, j + 1, h => by
    by_cases e : i = j + 1
    · rw [e]; exact Nat.le_refl _
    · have := tau_mono (i := i) (j := j) (by (first | lia | omega))
      show _ ≤ 22 * tau j + 13
      (first | lia | omega)
theorem tau4 : tau 4 = 5767159 := by decide
theorem tau3 : tau 3 = 262143 := by decide
noncomputable def BdR (n : Nat) (G : List Row) : Prop := ∀ j r, G[j]? = some r → (∀ i, i < n → Sz (tau j) (r.base i)) ∧ dot n r.base r.base ≠ 0 ∧ r.share.length = j ∧ ∀ k q, r.share[k]? = some q → Sz (20 * tau k + 12) q
theorem mul5 {n a b : Nat} (h : n ≤ 5) (hab : a ≤ b) : n * a ≤ 5 * b := Nat.mul_le_mul h hab
theorem dot_sz {n t u : Nat} {w b : Nat → Rat} (hn : n ≤ 5) (hw : ∀ i, i < n → Sz t (w i)) (hb : ∀ i, i < n → Sz u (b i)) : Sz (5 * t + 5 * u + 6) (dot n w b) := by
  have := Sz.sm (F := fun k => w k * b k) (k := n) fun i hi => (hw i hi).mul (hb i hi)
  refine this.le ?_
  have := mul5 hn (Nat.le_refl (t + u + 1))
  (first | lia | omega)
theorem coef_sz {n t : Nat} {w b : Nat → Rat} (hn : n ≤ 5) (hw : ∀ i, i < n → Sz t (w i)) (hb : ∀ i, i < n → Sz t (b i)) (h0 : dot n b b ≠ 0) : Sz (20 * t + 12) (coef n w b) :=
  ((dot_sz hn hw hb).div (dot_sz hn hb hb) h0).le (by (first | lia | omega))
theorem stp_sz {n t : Nat} {w b : Nat → Rat} (hn : n ≤ 5) (hw : ∀ i, i < n → Sz t (w i)) (hb : ∀ i, i < n → Sz t (b i)) (h0 : dot n b b ≠ 0) {i : Nat} (hi : i < n) : Sz (22 * t + 13) (stp n w b i) :=
  ((hw i hi).sub ((coef_sz hn hw hb h0).mul (hb i hi))).le (by (first | lia | omega))
theorem redV_sz {n : Nat} {G : List Row} {v : Nat → Rat} (hn : n ≤ 5) (hG : BdR n G) (hv : ∀ i, i < n → Sz 24 (v i)) : ∀ {k : Nat}, k ≤ G.length → ∀ i, i < n → Sz (tau k) (redV n (G.take k) v i)
  | 0, _, i, hi => hv i hi
  | k + 1, hk, i, hi => by
    have hr : G[k]? = some G[k] := List.getElem?_eq_getElem (by (first | lia | omega))
    rw [take_snoc hr, redV_snoc]
    obtain ⟨h1, h2, _⟩ := hG k _ hr
    exact stp_sz hn (redV_sz hn hG hv (by (first | lia | omega))) h1 h2 hi
theorem redS_sz {n : Nat} {G : List Row} {v : Nat → Rat} (hn : n ≤ 5) (hG : BdR n G) (hv : ∀ i, i < n → Sz 24 (v i)) : ∀ {k : Nat}, k ≤ G.length → ∀ i q, (redS n (G.take k) v)[i]? = some q → Sz (20 * tau i + 12) q
  | 0, _, i, q, hq => by simp [redS] at hq
  | k + 1, hk, i, q, hq => by
    have hr : G[k]? = some G[k] := List.getElem?_eq_getElem (by (first | lia | omega))
    rw [take_snoc hr, redS_snoc] at hq
    obtain ⟨h1, h2, _⟩ := hG k _ hr
    have hlen : (redS n (G.take k) v).length = k := by rw [redS_len, List.length_take]; (first | lia | omega)
    rcases Nat.lt_trichotomy i k with q1 | q1 | q1
    · rw [List.getElem?_append_left (by (first | lia | omega))] at hq
      exact redS_sz hn hG hv (by (first | lia | omega)) i q hq
    · rw [List.getElem?_append_right (by (first | lia | omega)), hlen, q1, Nat.sub_self] at hq
      cases hq
      rw [q1]
      exact coef_sz hn (redV_sz hn hG hv (by (first | lia | omega))) h1 h2
    · rw [List.getElem?_append_right (by (first | lia | omega)), List.getElem?_eq_none (by simp; (first | lia | omega))] at hq
      cases hq
theorem gs_bd {n m : Nat} {cols : Nat → Nat → Rat} (hn : n ≤ 5) (hm : m ≤ 4) (hc : ∀ j, j < m → ∀ i, i < n → Sz 24 (cols j i)) : ∀ {p : Nat}, p ≤ m → BdR n (gs n cols p)
  | 0, _ => fun j r h => by simp [gs] at h
  | p + 1, hp => by
    have ih := gs_bd hn hm hc (p := p) (by (first | lia | omega))
    have hl := gs_len n cols p
    unfold gs
    split
    · exact ih
    · rename_i h0
      intro j r h
      have hv := redV_sz hn ih (hc p (by (first | lia | omega))) (Nat.le_refl _)
      have hs := redS_sz hn ih (hc p (by (first | lia | omega))) (Nat.le_refl _)
      rw [List.take_length] at hv hs
      rcases Nat.lt_trichotomy j (gs n cols p).length with q | q | q
      · rw [List.getElem?_append_left q] at h
        exact ih j r h
      · rw [List.getElem?_append_right (by (first | lia | omega)), q, Nat.sub_self] at h
        cases h
        rw [q]
        exact ⟨hv, h0, redS_len .., hs⟩
      · rw [List.getElem?_append_right (by (first | lia | omega))] at h
        have : j - (gs n cols p).length ≠ 0 := by (first | lia | omega)
        rw [List.getElem?_eq_none (by simp; (first | lia | omega))] at h
        cases h

/-! back substitution -/
noncomputable def shF (G : List Row) (j k : Nat) : Rat := (((G[j]?).map fun r => r.share).getD []).getD k 0
noncomputable def upd (sh : Nat → Nat → Rat) (f : Nat → Rat) (k t : Nat) : Nat → Rat := fun i => if i = k then f k - sm t (fun u => sh (k + 1 + u) k * f (k + 1 + u)) else f i
noncomputable def bo (sh : Nat → Nat → Rat) (r : Nat) (st : Nat → Rat) : Nat → Nat → Rat
  | 0 => st
  | i + 1 => upd sh (bo sh r st i) (r - 1 - i) i
noncomputable def Bb : Nat → Nat
  | 0 => 34416447
  | 1 => 11471492
  | 2 => 5719497
  | _ => 5242872
theorem Bb_ok : ∀ k, k < 4 → ∀ t, t < 4 → t + k < 4 → 20 * tau k + 12 + t * (20 * tau k + 12 + Bb (k + 1) + 1) ≤ Bb k := by decide
theorem Bb_mono : ∀ j, j < 5 → ∀ k, k < 5 → k ≤ j → Bb j ≤ Bb k := by decide
theorem upd_succ (sh : Nat → Nat → Rat) (f : Nat → Rat) (k t : Nat) : upd sh f k (t + 1) = fun i => if i = k then upd sh f k t k - sh (k + 1 + t) k * upd sh f k t (k + 1 + t) else upd sh f k t i := by
  funext i
  unfold upd
  by_cases h : i = k
  · rw [if_pos h, if_pos h, if_pos rfl, if_neg (by (first | lia | omega))]
    show _ - (sm t _ + _) = _
    grind
  · rw [if_neg h, if_neg h, if_neg h]
/-- sizes while substituting back: places below k still hold the steps -/
noncomputable def BdB (r i : Nat) (f : Nat → Rat) : Prop := ∀ k, k < r → (k + i < r → Sz (20 * tau k + 12) (f k)) ∧ (r ≤ k + i → Sz (Bb k) (f k))
theorem upd_sz {r i t : Nat} {sh : Nat → Nat → Rat} {f : Nat → Rat} (hr : r ≤ 4) (hi : i < r) (ht : t ≤ i) (hf : BdB r i f) (hs : ∀ j, j < r → ∀ k, k < j → Sz (20 * tau k + 12) (sh j k)) :
    Sz (20 * tau (r - 1 - i) + 12 + t * (20 * tau (r - 1 - i) + 12 + Bb (r - 1 - i + 1) + 1)) (upd sh f (r - 1 - i) t (r - 1 - i)) := by
  induction t with
  | zero =>
    have : upd sh f (r - 1 - i) 0 (r - 1 - i) = f (r - 1 - i) := by
      unfold upd; rw [if_pos rfl]; show _ - (0 : Rat) = _; grind
    rw [this]
    exact ((hf (r - 1 - i) (by (first | lia | omega))).1 (by (first | lia | omega))).le (by (first | lia | omega))
  | succ t ih =>
    have ih := ih (by (first | lia | omega))
    rw [upd_succ]
    simp only [if_true]
    have h1 := hs (r - 1 - i + 1 + t) (by (first | lia | omega)) (r - 1 - i) (by (first | lia | omega))
    have e : upd sh f (r - 1 - i) t (r - 1 - i + 1 + t) = f (r - 1 - i + 1 + t) := by unfold upd; rw [if_neg (by (first | lia | omega))]
    have h2 : Sz (Bb (r - 1 - i + 1)) (f (r - 1 - i + 1 + t)) := ((hf (r - 1 - i + 1 + t) (by (first | lia | omega))).2 (by (first | lia | omega))).le (Bb_mono _ (by (first | lia | omega)) _ (by (first | lia | omega)) (by (first | lia | omega)))
    rw [e]
    refine (ih.sub (h1.mul h2)).le ?_
    have e2 : ∀ Z : Nat, (t + 1) * Z = t * Z + Z := fun Z => Nat.succ_mul t Z
    rw [e2]
    (first | lia | omega)
theorem upd_bd {r i : Nat} {sh : Nat → Nat → Rat} {f : Nat → Rat} (hr : r ≤ 4) (hi : i < r) (hf : BdB r i f) (hs : ∀ j, j < r → ∀ k, k < j → Sz (20 * tau k + 12) (sh j k)) : BdB r (i + 1) (upd sh f (r - 1 - i) i) := by
  intro k hk
  by_cases h : k = r - 1 - i
  · refine ⟨fun q => by omega, fun _ => ?_⟩
    have := upd_sz hr hi (Nat.le_refl i) hf hs
    rw [h]
    exact this.le (Bb_ok _ (by omega) _ (by omega) (by omega))
  · have e : upd sh f (r - 1 - i) i k = f k := by unfold upd; rw [if_neg h]
    rw [e]
    exact ⟨fun q => (hf k hk).1 (by omega), fun q => (hf k hk).2 (by omega)⟩
theorem bo_bd {r : Nat} {sh : Nat → Nat → Rat} {st : Nat → Rat} (hr : r ≤ 4) (hst : ∀ k, k < r → Sz (20 * tau k + 12) (st k)) (hs : ∀ j, j < r → ∀ k, k < j → Sz (20 * tau k + 12) (sh j k)) : ∀ i, i ≤ r → BdB r i (bo sh r st i)
  | 0, _ => fun k hk => ⟨fun _ => hst k hk, fun q => by (first | lia | omega)⟩
  | i + 1, h => upd_bd hr (by (first | lia | omega)) (bo_bd hr hst hs i (by (first | lia | omega))) hs
theorem vec_set (n k : Nat) (f : Nat → Rat) (q : Rat) : ((List.range n).map fun i => q2d (f i)).set k (q2d q) = (List.range n).map fun i => q2d (if i = k then q else f i) := by
  apply List.ext_getElem?
  intro j
  rw [List.getElem?_set]
  simp only [List.getElem?_map, List.length_map, List.length_range]
  by_cases h : k = j
  · subst h
    rw [if_pos rfl]
    by_cases hk : k < n
    · rw [if_pos hk, List.getElem?_range hk]; simp
    · rw [if_neg hk, List.getElem?_eq_none (by simp; (first | lia | omega))]; rfl
  · rw [if_neg h]
    by_cases hj : j < n
    · rw [List.getElem?_range hj]; simp [Ne.symm h]
    · rw [List.getElem?_eq_none (by simp; (first | lia | omega))]; rfl

theorem gs_piv (n : Nat) (cols : Nat → Nat → Rat) : ∀ (p j : Nat) (r : Row), (gs n cols p)[j]? = some r → r.piv < p
  | 0, j, r, h => by simp [gs] at h
  | p + 1, j, r, h => by
    unfold gs at h
    split at h
    · exact Nat.lt_succ_of_lt (gs_piv n cols p j r h)
    · by_cases q : j < (gs n cols p).length
      · rw [List.getElem?_append_left q] at h
        exact Nat.lt_succ_of_lt (gs_piv n cols p j r h)
      · rw [List.getElem?_append_right (by (first | lia | omega))] at h
        have : j - (gs n cols p).length = 0 := by
          have := (List.getElem?_eq_some_iff.mp h).1
          simp at this; (first | lia | omega)
        rw [this] at h
        cases h
        exact Nat.lt_succ_self p
/-! coefficients -/
noncomputable def optD : Option Rat → PyData
  | some q => q2d q
  | none => .none
noncomputable def cf (G : List Row) (vals : Nat → Rat) : Nat → Nat → Option Rat
  | 0, _ => none
  | t + 1, j => match G[t]? with
    | some r => if j = r.piv then some (vals t) else cf G vals t j
    | none => cf G vals t j
noncomputable def optL (m : Nat) (f : Nat → Option Rat) : List PyData := (List.range m).map fun j => optD (f j)
theorem optL_none (m : Nat) : optL m (fun _ => none) = List.replicate m .none := by
  apply List.ext_getElem?
  intro j
  unfold optL
  by_cases h : j < m
  · simp [h, optD]
  · rw [List.getElem?_eq_none (by simp; (first | lia | omega)), List.getElem?_eq_none (by simp; (first | lia | omega))]
theorem optL_set (m k : Nat) (f : Nat → Option Rat) (q : Rat) : (optL m f).set k (q2d q) = optL m fun i => if i = k then some q else f i := by
  unfold optL
  apply List.ext_getElem?
  intro j
  rw [List.getElem?_set]
  simp only [List.getElem?_map, List.length_map, List.length_range]
  by_cases h : k = j
  · subst h
    rw [if_pos rfl]
    by_cases hk : k < m
    · rw [if_pos hk, List.getElem?_range hk]; simp [optD]
    · rw [if_neg hk, List.getElem?_eq_none (by simp; (first | lia | omega))]; rfl
  · rw [if_neg h]
    by_cases hj : j < m
    · rw [List.getElem?_range hj]; simp [Ne.symm h]
    · rw [List.getElem?_eq_none (by simp; (first | lia | omega))]; rfl
/-- steps, coefficients, residuals of the fit -/
noncomputable def rnk (n m : Nat) (cols : Nat → Nat → Rat) : Nat := (gs n cols m).length
noncomputable def stF (n m : Nat) (cols : Nat → Nat → Rat) (y : Nat → Rat) (k : Nat) : Rat := (redS n (gs n cols m) y).getD k 0
noncomputable def valF (n m : Nat) (cols : Nat → Nat → Rat) (y : Nat → Rat) : Nat → Rat := bo (shF (gs n cols m)) (rnk n m cols) (stF n m cols y) (rnk n m cols)
noncomputable def coF (n m : Nat) (cols : Nat → Nat → Rat) (y : Nat → Rat) : Nat → Option Rat := cf (gs n cols m) (valF n m cols y) (rnk n m cols)
noncomputable def resF (n m : Nat) (cols : Nat → Nat → Rat) (y : Nat → Rat) : Nat → Rat := redV n (gs n cols m) y
noncomputable def fitD (n m : Nat) (cols : Nat → Nat → Rat) (y : Nat → Rat) : List (Str × PyData) :=
  [("coefficients", .list (optL m (coF n m cols y))), ("residuals", vec n (resF n m cols y)), ("fitted", vec n fun i => y i - resF n m cols y i), ("weights", .none), ("rank", .int (rnk n m cols)), ("pivots", .list ((gs n cols m).map fun r => .int r.piv))]
noncomputable def mvd (y : Nat → Rat) (mv : Nat → Rat) (cols : Nat → Nat → Rat) : Nat → Nat → Rat
  | 0 => y
  | t + 1 => fun r => mvd y mv cols t r + mv t * cols t r
end Mine

namespace Mine
open PySem PySem.W PySem.Calls PyProof.Rows PySem.Spec PySem.Challenge
variable {c : Cx}

noncomputable def mat (n m : Nat) (cols : Nat → Nat → Rat) : PyData := .list ((List.range m).map fun j => vec n (cols j))
theorem mat_at {n m j : Nat} {cols : Nat → Nat → Rat} (h : j < m) : ((List.range m).map fun j => vec n (cols j))[j]? = some (vec n (cols j)) := by simp [h]
noncomputable def pivD (G : List Row) : List PyData := G.map fun r => .int r.piv
noncomputable def basD (n : Nat) (G : List Row) : List PyData := G.map fun r => vec n r.base
noncomputable def nrmD (n : Nat) (G : List Row) : List PyData := G.map fun r => q2d (dot n r.base r.base)
noncomputable def ratsD (l : List Rat) : List PyData := l.map q2d
noncomputable def shaD (G : List Row) : List PyData := G.map fun r => .list (ratsD r.share)
noncomputable def Xo (x dd l1 l2 l3 l4 l5 : Addr) (n : Nat) (G : List Row) : Res := { ls := [(l5, []), (l1, pivD G), (l2, basD n G), (l3, nrmD n G), (l4, shaD G)], os := [(x, dd, F0 l1 l2 l3 l4 l5)] }
noncomputable def OF (n : Nat) (G : List Row) (l5 : Addr) : List (Str × V) := [("rank", .d (.int G.length)), ("df", .d (.int 0)), ("rank", .d (.int G.length)), ("weights", .d .none), ("residuals", .d (.list [])), ("fitted", .d (.list [])), ("coefficients", .d (.list [])), ("steps", .at l5), ("shares", .d (.list (shaD G))), ("norms", .d (.list (nrmD n G))), ("bases", .d (.list (basD n G))), ("pivots", .d (.list (pivD G)))]

structure Top3 (c : Cx) : Prop extends Top2 c, TopC c where
  ortho : Def c "orthogonal" 23 []
  back : Def c "back_coefficients" 24 []

theorem EV.colLen {sc : Scope} {X : Res} {k : Nat} {ρ : Rho} {px pos : Pos} {e : Expr} {n m : Nat} {cols : Nat → Nat → Rat} (ha : EV c sc X k ρ e (.d (mat n m cols))) (hg : c.gv "len" = some (.builtin "len")) (hN : m ≤ 2 ^ 20) (hk : sc.names.lookup ("len" : Str) = some .globalImplicit := by rfl)
    (he : ∀ rest env, starEach (e :: rest) env = (false, eval e env) :: starEach rest env := by intro _ _; rfl) : EV c sc X k ρ (.Call (.Name "len" px) [e] [] pos) (.d (.int m)) :=
  EV.cast (EV.len ha hg (by simp; (first | lia | omega)) hk he) (by simp)

/-- coef as the program computes it -/
theorem EV.coef (T : Top3 c) {sc : Scope} {X : Res} {k : Nat} {ρ : Rho} {n t : Nat} {w b : Nat → Rat} {e1 e2 e3 e4 : Expr} {p1 p2 p3 p4 p5 p6 : Pos} (hn : n ≤ 5) (ht : t ≤ 262143) (hw : ∀ i, i < n → Sz t (w i)) (hb : ∀ i, i < n → Sz t (b i)) (h0 : dot n b b ≠ 0)
    (h1 : EV c sc X k ρ e1 (.d (vec n w))) (h2 : EV c sc X k ρ e2 (.d .none)) (h3 : EV c sc X k ρ e3 (.d (vec n b))) (h4 : EV c sc X k ρ e4 (.d (q2d (dot n b b)))) (hk : 8 ≤ k)
    (hd : sc.names.lookup ("div" : Str) = some .globalImplicit := by rfl) (hdt : sc.names.lookup ("dot" : Str) = some .globalImplicit := by rfl) (hwt : sc.names.lookup ("weighted" : Str) = some .globalImplicit := by rfl)
    (s1 : ∀ rest env, starEach (e1 :: rest) env = (false, eval e1 env) :: starEach rest env := by intro _ _; rfl) (s2 : ∀ rest env, starEach (e2 :: rest) env = (false, eval e2 env) :: starEach rest env := by intro _ _; rfl)
    (s3 : ∀ rest env, starEach (e3 :: rest) env = (false, eval e3 env) :: starEach rest env := by intro _ _; rfl) (s4 : ∀ rest env, starEach (e4 :: rest) env = (false, eval e4 env) :: starEach rest env := by intro _ _; rfl) :
    EV c sc X k ρ (.Call (.Name "div" p1) [.Call (.Name "dot" p2) [.Call (.Name "weighted" p3) [e1, e2] [] p4, e3] [] p5, e4] [] p6) (.d (q2d (coef n w b))) := by
  have hm := mul5 hn (Nat.le_refl (t + t + 1))
  exact EV.call' (div_ok T.toTop1 (dot_sz hn hw hb) (dot_sz hn hb hb) h0 (by (first | lia | omega))) (EVs.two (EV.call' (dot_ok T.toTop2 hw hb (by (first | lia | omega)) (by (first | lia | omega))) (EVs.two (EV.call' (weighted_ok T.toTop2 _) (EVs.two h1 h2 s1 s2) (by (first | lia | omega)) hwt (by rfl) s1) h3 (by intro _ _; rfl) s3) (by (first | lia | omega)) hdt (by rfl)) h4 (by intro _ _; rfl) s4) (by (first | lia | omega)) hd (by rfl)

theorem dotS_ok (T : Top3 c) {n t : Nat} {w b : Nat → Rat} (hn : n ≤ 5) (ht : t ≤ 5767159) (hw : ∀ i, i < n → Sz t (w i)) (hb : ∀ i, i < n → Sz t (b i)) : Ok c 8 "dot" [.d (vec n w), .d (vec n b)] (.d (q2d (dot n w b))) := by
  have hm := mul5 hn (Nat.le_refl (t + t + 1))
  exact dot_ok T.toTop2 hw hb (by (first | lia | omega)) (by (first | lia | omega))
theorem bas_at {n k : Nat} {G : List Row} {r : Row} (h : G[k]? = some r) : (basD n G)[((k : Nat) : Int).toNat]? = some (vec n r.base) := by simp [basD, h]
theorem nrm_at {n k : Nat} {G : List Row} {r : Row} (h : G[k]? = some r) : (nrmD n G)[((k : Nat) : Int).toNat]? = some (q2d (dot n r.base r.base)) := by simp [nrmD, h]

theorem t_newFit (T : TopC c) (T1 : Top1 c) {sc : Scope} {g : Fm} {ρ : Rho} {n : Nat} {y : Str} {py pf p1 p2 p3 p4 pc pos : Pos} {rest : List Stmt} {Q : Flow → Shared → Prop} (hn : 4 ≤ n) (hk : canStore sc y)
    (h : ∀ x dd l1 l2 l3 l4 l5, [l5, dd, l4, l3, l2, l1].Nodup → (∀ l ∈ [l5, dd, l4, l3, l2, l1], l ∉ g.W) → TR c sc (gA g [l5, dd, l4, l3, l2, l1]) n (X0 x dd l1 l2 l3 l4 l5) ((y, .at x) :: ρ) rest Q)
    (hkf : sc.names.lookup ("Fit" : Str) = some .globalImplicit := by rfl)
    (hs : ∀ env : Env, env.scope = sc → swapsWith (.Call (.Name "Fit" pf) [.List [] p1, .List [] p2, .List [] p3, .List [] p4] [] pc) (some (.Name y py)) pos.line env = pure false := by intro _ _; rfl) :
    TR c sc g n {} ρ (.Assign [.Name y py] (.Call (.Name "Fit" pf) [.List [] p1, .List [] p2, .List [] p3, .List [] p4] [] pc) pos :: rest) Q :=
  fun A s R S => x_newFit T T1 R S hn hk (fun x dd l1 l2 l3 l4 l5 s nd nW S => h x dd l1 l2 l3 l4 l5 nd nW A s R S) hkf hs
theorem piv_z {G : List Row} (h : G.length ≤ 999) : (pivD G).length ≤ 2 ^ 20 := by rw [pivD, List.length_map]; exact Nat.le_trans h (by decide)
theorem bas_z {n : Nat} {G : List Row} (h : G.length ≤ 999) : (basD n G).length ≤ 2 ^ 20 := by rw [basD, List.length_map]; exact Nat.le_trans h (by decide)
theorem nrm_z {n : Nat} {G : List Row} (h : G.length ≤ 999) : (nrmD n G).length ≤ 2 ^ 20 := by rw [nrmD, List.length_map]; exact Nat.le_trans h (by decide)
theorem sha_z {G : List Row} (h : G.length ≤ 999) : (shaD G).length ≤ 2 ^ 20 := by rw [shaD, List.length_map]; exact Nat.le_trans h (by decide)
theorem ratsD_snoc (l : List Rat) (q : Rat) : ratsD (l ++ [q]) = ratsD l ++ [q2d q] := by rw [ratsD, List.map_append]; rfl
theorem rats_z {n : Nat} {G : List Row} {f : Nat → Rat} (h : G.length ≤ 999) : (ratsD (redS n G f)).length ≤ 2 ^ 20 := by rw [ratsD, List.length_map, redS_len]; exact Nat.le_trans h (by decide)
theorem take_z {G : List Row} {t : Nat} (h : G.length ≤ 999) : (G.take t).length ≤ 999 := by rw [List.length_take]; exact Nat.le_trans (Nat.min_le_right _ _) h
theorem vecl_z {n : Nat} {f : Nat → Rat} (h : n ≤ 5) : ((List.range n).map fun i => q2d (f i)).length ≤ 2 ^ 20 := by rw [List.length_map, List.length_range]; exact Nat.le_trans h (by decide)
theorem Xo_snoc {x dd l1 l2 l3 l4 l5 : Addr} {n p : Nat} {G : List Row} (b : Nat → Rat) (sh : List Rat) : (Xo x dd l1 l2 l3 l4 l5 n (G ++ [⟨p, b, sh⟩])) = { ls := [(l5, []), (l1, pivD G ++ [.int p]), (l2, basD n G ++ [vec n b]), (l3, nrmD n G ++ [q2d (dot n b b)]), (l4, shaD G ++ [.list (ratsD sh)])], os := [(x, dd, F0 l1 l2 l3 l4 l5)] } := by
  simp [Xo, pivD, basD, nrmD, shaD]
theorem tau_z {t k : Nat} (h : t ≤ k) (hk : k ≤ 3) : tau t ≤ 262143 := by rw [← tau3]; exact tau_mono (Nat.le_trans h hk)

theorem ortho_walk (T : Top3 c) {n m : Nat} {cols : Nat → Nat → Rat} (hn : n ≤ 5) (hm : m ≤ 4) (hc : ∀ j, j < m → ∀ i, i < n → Sz 24 (cols j i)) {A : Around} {g : Fm} {s : Shared} {Q : Flow → Shared → Prop} (R : RoomE A 14)
    (S : StE c (fscope 23) g [("columns", .d (mat n m cols)), ("weights", .d .none)] {} s) (hM : g.M = [])
    (h : ∀ x dd l5 s', [l5, dd].Nodup → (∀ l ∈ [l5, dd], l ∉ g.W) → StE c (fscope 23) (gW g (l5 :: dd :: g.W) [l5, dd]) [] { ls := [(l5, [])], os := [(x, dd, OF n (gs n cols m) l5)] } s' → Q (.ret (.ref x)) s') :
    wpAny (model c.prog c.w) A (execs (fbody 23) g.env) Q nE s := by
  refine (?_ : TR c (fscope 23) g 14 {} _ (fbody 23) Q) A s R S
  refine t_get fun _ hO => ?_
  refine t_newFit T.toTopC T.toTop1 (by decide) (.inl (by rfl)) fun x dd l1 l2 l3 l4 l5 nd nW => ?_
  refine t_for (IT.range1 (EV.colLen EV.name T.len (n20 (n4z hm))) (n60 (n4z hm)) T.range) (.inl (by rfl)) (fun _ => [("columns", .d (mat n m cols)), ("weights", .d .none), ("found", .at x)]) (fun p => Xo x dd l1 l2 l3 l4 l5 n (gs n cols p)) (.cons (by rfl) (.cons (by rfl) (.cons (by rfl) .nil))) rfl ?_ ?_
  · intro p d hd g'
    obtain ⟨hp, rfl⟩ := rng1 hd
    have hG := gs_bd hn hm hc (p := p) (by (first | lia | omega))
    have hGl := gs_len n cols p
    have hG3 : (gs n cols p).length ≤ 3 := by (first | lia | omega)
    generalize hg : gs n cols p = G at hG hGl hG3 ⊢
    have hGz : G.length ≤ 999 := by (first | lia | omega)
    have hv := hc p hp
    refine t_asg (EV.listOf (EV.item (p := vec n (cols p)) EV.name EV.name iz0 (i62 hp (n4z hm)) (mat_at hp)) T.list (vecl_z hn)) (.inl (by rfl)) ?_
    refine t_get fun hMW hOW => ?_
    refine t_asgN EN.nil (.inl (by rfl)) fun l6 h6 => ?_
    refine t_for (IT.range1 (k := G.length) (EV.cast (EV.lenAt (l := l2) (ds := basD n G) (j := 3) (EV.attrM (a := x) (dd := dd) (fs := F0 l1 l2 l3 l4 l5) rfl (by rfl) (by rfl) (T.no _)) (by rfl) T.len (bas_z hGz)) (by simp [basD])) (n60 hGz) T.range) (.inl (by rfl))
      (fun t => [("base", .d (vec n (redV n (G.take t) (cols p)))), ("share", .at l6), ("place", .d (.int p)), ("columns", .d (mat n m cols)), ("weights", .d .none), ("found", .at x)]) (fun t => { ls := (l6, ratsD (redS n (G.take t) (cols p))) :: (Xo x dd l1 l2 l3 l4 l5 n G).ls, os := (Xo x dd l1 l2 l3 l4 l5 n G).os })
      (.cons (by rfl) (.cons (by rfl) (.cons (by rfl) (.cons (by rfl) (.cons (by rfl) (.cons (by rfl) .nil)))))) rfl ?_ ?_
    · intro t d hd g''
      obtain ⟨ht, rfl⟩ := rng1 hd
      have hr : G[t]? = some G[t] := List.getElem?_eq_getElem ht
      generalize G[t] = r at hr
      obtain ⟨hb, hn0, _⟩ := hG t r hr
      have hw := redV_sz hn hG hv (k := t) (by (first | lia | omega))
      have htau : tau t ≤ 262143 := tau_z (Nat.le_of_lt ht) hG3
      refine t_asg (EV.coef T hn htau hw hb hn0 EV.name EV.name (EV.itemAt (l := l2) (ds := basD n G) (j := 3) (EV.attrM (a := x) (dd := dd) (fs := F0 l1 l2 l3 l4 l5) rfl (by rfl) (by rfl) (T.no _)) (by rfl) EV.name iz0 (i62 ht hGz) (bas_at hr)) (EV.itemAt (l := l3) (ds := nrmD n G) (j := 4) (EV.attrM (a := x) (dd := dd) (fs := F0 l1 l2 l3 l4 l5) rfl (by rfl) (by rfl) (T.no _)) (by rfl) EV.name iz0 (i62 ht hGz) (nrm_at hr)) (by decide)) (.inl (by rfl)) ?_
      refine t_append (l := l6) (ds := ratsD (redS n (G.take t) (cols p))) (j := 0) EV.name (by rfl) EV.name (rats_z (take_z hGz)) ?_
      refine t_asg (EV.call' (less_ok T.toTop2 hw hb (coef_sz hn hw hb hn0) (by (first | lia | omega)) (by (first | lia | omega))) (EVs.three EV.name EV.name (EV.itemAt (l := l2) (ds := basD n G) (j := 3) (EV.attrM (a := x) (dd := dd) (fs := F0 l1 l2 l3 l4 l5) rfl (by rfl) (by rfl) (T.no _)) (by rfl) EV.name iz0 (i62 ht hGz) (bas_at hr)))) (.inl (by rfl)) ?_
      rw [take_snoc hr, redV_snoc, redS_snoc, ratsD_snoc]
      exact t_nx (.cons (by rfl) (.cons (by rfl) (.cons (by rfl) (.cons (by rfl) (.cons (by rfl) (.cons (by rfl) .nil))))))
    · rw [rng_len, List.take_length]
      have hw := redV_sz hn hG hv (Nat.le_refl _)
      rw [List.take_length] at hw
      have htau : tau G.length ≤ 262143 := tau_z (Nat.le_refl _) hG3
      have eg : gs n cols (p + 1) = if dot n (redV n G (cols p)) (redV n G (cols p)) = 0 then G else G ++ [⟨p, redV n G (cols p), redS n G (cols p)⟩] := by rw [gs, hg]
      rw [eg]
      generalize redV n G (cols p) = b at hw ⊢
      generalize redS n G (cols p) = sh
      refine t_map (g' := g') (ρ' := [("base", .d (vec n b)), ("share", .d (.list (ratsD sh))), ("place", .d (.int p)), ("columns", .d (mat n m cols)), ("weights", .d .none), ("found", .at x)]) (X' := Xo x dd l1 l2 l3 l4 l5 n G) rfl
        (fun s S => S.unM0 hMW hOW h6 (.keep (by rfl) (.turn (j := 0) (by rfl) h6 (by rfl) (.keep (by rfl) (.keep (by rfl) (.keep (by rfl) (.keep (by rfl) .nil))))))) ?_
      refine t_asg (EV.call' (dotS_ok T hn (by (first | lia | omega)) hw hw) (EVs.two (EV.call' (weighted_ok T.toTop2 _) (EVs.two EV.name EV.name)) EV.name)) (.inl (by rfl)) ?_
      by_cases h0 : dot n b b = 0
      · rw [if_pos h0]
        refine t_ifF ((TV.cmpO (EV.num (q := dot n b b) EV.name) EV.cint CmpOk.ne).cast (by rw [num_ne]; simp [h0])) ?_
        exact t_nx (.cons (by rfl) (.cons (by rfl) (.cons (by rfl) .nil)))
      · rw [if_neg h0, Xo_snoc]
        refine t_ifT _ _ ((TV.cmpO (EV.num (q := dot n b b) EV.name) EV.cint CmpOk.ne).cast (by rw [num_ne]; simp [h0])) ?_ (t_nx fun _ _ e => e)
        refine t_append (l := l1) (ds := pivD G) (j := 1) (EV.attrM (a := x) (dd := dd) (fs := F0 l1 l2 l3 l4 l5) rfl (by rfl) (by rfl) (T.no _)) (by rfl) EV.name (piv_z hGz) ?_
        refine t_append (l := l2) (ds := basD n G) (j := 2) (EV.attrM (a := x) (dd := dd) (fs := F0 l1 l2 l3 l4 l5) rfl (by rfl) (by rfl) (T.no _)) (by rfl) EV.name (bas_z hGz) ?_
        refine t_append (l := l3) (ds := nrmD n G) (j := 3) (EV.attrM (a := x) (dd := dd) (fs := F0 l1 l2 l3 l4 l5) rfl (by rfl) (by rfl) (T.no _)) (by rfl) EV.name (nrm_z hGz) ?_
        refine t_append (l := l4) (ds := shaD G) (j := 4) (EV.attrM (a := x) (dd := dd) (fs := F0 l1 l2 l3 l4 l5) rfl (by rfl) (by rfl) (T.no _)) (by rfl) EV.name (sha_z hGz) ?_
        exact t_nx (.cons (by rfl) (.cons (by rfl) (.cons (by rfl) .nil)))
  · rw [rng_len]
    have hl := gs_len n cols m
    generalize gs n cols m = G at hl h ⊢
    have hGz : G.length ≤ 999 := by (first | lia | omega)
    refine t_setattr (EV.cast (EV.lenAt (l := l1) (ds := pivD G) (j := 1) (EV.attrM (a := x) (dd := dd) (fs := F0 l1 l2 l3 l4 l5) rfl (by rfl) (by rfl) (T.no _)) (by rfl) T.len (piv_z hGz)) (d' := .d (.int G.length)) (by simp [pivD])) rfl (by rfl) (T.no _) (Nat.le_of_ble_eq_true rfl) ?_
    refine t_ret EV.name fun v s S r => ?_
    obtain rfl : v = .ref x := r
    have p := (List.nodup_cons.mp nd).1
    have m := (List.nodup_cons.mp (List.nodup_cons.mp nd).2).1
    have w : ∀ l, l ∈ [l4, l3, l2, l1] → l ∉ l5 :: dd :: g.W := fun l h q => (List.mem_cons.mp q).elim (fun e => p (e ▸ .tail _ h)) fun q => (List.mem_cons.mp q).elim (fun e => m (e ▸ h)) (nW l (.tail _ (.tail _ h)))
    have nd2 : [l5, dd].Nodup := .cons (fm (fun e => p (e ▸ .head _)) fm0) (.cons fm0 .nil)
    refine h x dd l5 s nd2 (fm (nW l5 (.head _)) (fm (nW dd m1) fm0)) ?_
    refine S.freeze (W2 := l5 :: dd :: g.W) (M2 := [l5, dd]) (fm (.head _) (fm m1 fun a m => List.mem_append_right [l5, dd, l4, l3, l2, l1] m)) (fm ⟨.head _, .head _⟩ (fm ⟨m1, m1⟩ fm0)) (fun a m => .tail _ (.tail _ (hO a m))) .nil (X' := { ls := [(l5, [])], os := [(x, dd, OF n G l5)] }) (fp ⟨.head _, .head _⟩ fp0) (fun a d fs m => ?_) nd2
    cases List.mem_singleton.mp m
    refine ⟨_, .head _, m1, Nat.le_of_ble_eq_true rfl, ?_⟩
    exact .keep (by rfl) (.keep (by rfl) (.keep (by rfl) (.keep (by rfl) (.keep (by rfl) (.keep (by rfl) (.keep (by rfl) (.keep (by rfl) (.turn (j := 4) (by rfl) (w l4 (.head _)) (by rfl) (.turn (j := 3) (by rfl) (w l3 m1) (by rfl) (.turn (j := 2) (by rfl) (w l2 m2) (by rfl) (.turn (j := 1) (by rfl) (w l1 m3) (by rfl) .nil)))))))))))
end Mine

namespace Mine
open PySem PySem.W PySem.Calls PyProof.Rows PySem.Spec PySem.Challenge
variable {c : Cx}
noncomputable def vecL (n : Nat) (f : Nat → Rat) : List PyData := (List.range n).map fun i => q2d (f i)
theorem vecL_at {n i : Nat} {f : Nat → Rat} (h : i < n) : (vecL n f)[((i : Nat) : Int).toNat]? = some (q2d (f i)) := by simp [vecL, h]
theorem vecL_lt {n k : Nat} {f : Nat → Rat} (h : k < n) : (k : Int) < (vecL n f).length := by rw [vecL, List.length_map, List.length_range]; exact Int.ofNat_lt.mpr h
theorem vecL_set (n k : Nat) (f : Nat → Rat) (q : Rat) : (vecL n f).set k (q2d q) = vecL n fun i => if i = k then q else f i := vec_set n k f q

theorem sha_at {G : List Row} {j : Nat} {w : Row} (h : G[j]? = some w) : (shaD G)[((j : Nat) : Int).toNat]? = some (.list (ratsD w.share)) := by simp [shaD, h]
theorem rats_at {l : List Rat} {j : Nat} {q : Rat} (h : l[j]? = some q) : (ratsD l)[((j : Nat) : Int).toNat]? = some (q2d q) := by simp [ratsD, h]

theorem rngD {k i : Nat} {d : PyData} (h : (rng ((k : Int) - 1) (-1) k)[i]? = some d) : i < k ∧ d = .int ((k - 1 - i : Nat) : Int) := by
  have hi : i < k := by
    have := (List.getElem?_eq_some_iff.mp h).1
    rwa [rng_len] at this
  refine ⟨hi, ?_⟩
  rw [rng_at hi] at h
  have := Option.some.inj h
  rw [← this]
  congr 1; omega
theorem rng2 {a k i : Nat} {d : PyData} (h : (rng (a : Int) 1 k)[i]? = some d) : i < k ∧ d = .int ((a + i : Nat) : Int) := by
  have hi : i < k := by
    have := (List.getElem?_eq_some_iff.mp h).1
    rwa [rng_len] at this
  refine ⟨hi, ?_⟩
  rw [rng_at hi] at h
  have := Option.some.inj h
  rw [← this]
  congr 1; (first | lia | omega)

theorem bk1 {r i t k : Nat} (h : k + 1 + i = r) (ht : t < i) : k + 1 + t < r ∧ r ≤ k + 1 + t + i := h ▸ ⟨Nat.add_lt_add_left ht (k + 1), Nat.add_le_add_right (Nat.le_add_right (k + 1) t) i⟩
theorem bk2 {k t : Nat} : k < k + 1 + t := Nat.lt_of_lt_of_le (Nat.lt_succ_self k) (Nat.le_add_right _ _)
theorem bk3 {r i k : Nat} (hr4 : r ≤ 4) (h : k + 1 + i = r) : i + k < 4 :=
  Nat.lt_of_lt_of_le (Nat.lt_of_succ_le (Nat.le_of_eq (by rw [← h, Nat.add_comm i k, Nat.add_right_comm]))) hr4
theorem bk4 {i k t : Nat} (h : i + k < 4) (ht : t < i) : t < 4 ∧ t + k < 4 ∧ k < 3 ∧ k + 1 + t < 5 :=
  have a : t + k < 4 := Nat.lt_trans (Nat.add_lt_add_right ht k) h
  ⟨Nat.lt_of_le_of_lt (Nat.le_add_right t k) a, a, Nat.lt_of_succ_lt_succ (Nat.lt_of_le_of_lt (Nat.add_comm k i ▸ Nat.add_le_add_left (Nat.succ_le_of_lt (Nat.lt_of_le_of_lt (Nat.zero_le t) ht)) k) h), by rw [Nat.add_right_comm, Nat.add_comm k t]; exact Nat.succ_lt_succ a⟩
theorem bk5 {k t : Nat} (h3 : k < 3) (ht : t < 4) (h4 : t + k < 4) : (20 * tau k + 12 + t * (20 * tau k + 12 + Bb (k + 1) + 1)) ≤ 34416447 ∧ Bb (k + 1) ≤ 11471492 ∧ 20 * tau k + 12 ≤ 5242872 := by
  refine ⟨Nat.le_trans (Bb_ok k (Nat.lt_succ_of_lt h3) t ht h4) (Bb_mono k (Nat.lt_of_lt_of_le h3 (by decide)) 0 (by decide) (Nat.zero_le _)), Bb_mono (k + 1) (Nat.succ_lt_succ (Nat.lt_succ_of_lt h3)) 1 (by decide) (Nat.succ_le_succ (Nat.zero_le _)), ?_⟩
  have := tau_mono (i := k) (j := 3) (Nat.le_of_lt h3)
  rw [tau3] at this; (first | lia | omega)
theorem bk6 {a b d : Nat} (h1 : a ≤ 34416447) (h2 : b ≤ 11471492) (h3 : d ≤ 5242872) : a + (d + b) + 2 ≤ 2 ^ 27 ∧ d + b + 2 ≤ 2 ^ 27 := by (first | lia | omega)
theorem bk7 {r i : Nat} (hi : i < r) : r - 1 - i < r ∧ r - 1 - i + 1 + i = r := by (first | lia | omega)
theorem bk8 {r i k : Nat} (hr4 : r ≤ 4) (h : k + 1 + i = r) : (0 : Int) ≤ ((k + 1 : Nat) : Int) ∧ ((k + 1 : Nat) : Int) < 2 ^ 60 ∧ (0 : Int) ≤ (r : Int) ∧ (r : Int) < 2 ^ 60 ∧ i = ((r : Int) - ((k + 1 : Nat) : Int)).toNat :=
  ⟨iz0, c60 (Nat.le_trans (h ▸ Nat.le_add_right _ i) (n4z hr4)), iz0, c60 (n4z hr4), by rw [Int.toNat_sub, ← h, Nat.add_sub_cancel_left]⟩
theorem upd_0 {sh : Nat → Nat → Rat} {f : Nat → Rat} {k : Nat} : upd sh f k 0 = f := by
  funext j; unfold upd
  by_cases h : j = k
  · rw [if_pos h, h]; show _ - (0 : Rat) = _; grind
  · rw [if_neg h]
theorem back_ok (T : Top3 c) {G : List Row} {r : Nat} {st : Nat → Rat} (hr : G.length = r) (hr4 : r ≤ 4) (hst : ∀ k, k < r → Sz (20 * tau k + 12) (st k)) (hG : ∀ (j : Nat) (w : Row), G[j]? = some w → w.share.length = j ∧ ∀ k q, w.share[k]? = some q → Sz (20 * tau k + 12) q)
    {fs : List (Str × PyData)} (f1 : fs.lookup ("steps" : Str) = some (vec r st)) (f2 : fs.lookup ("rank" : Str) = some (.int r)) (f3 : fs.lookup ("shares" : Str) = some (.list (shaD G))) : Ok c 11 "back_coefficients" [.ob fs] (.d (vec r (bo (shF G) r st r))) := by
  refine Ok.of (n := 10) T.back (by rfl) fun A g s R S => ?_
  have S0 : StE c (fscope 24) g [("fitted", .ob fs)] {} s := S.sub (.cons (by rfl) .nil)
  have hsA : ∀ j, j < r → ∃ w, G[j]? = some w ∧ w.share.length = j := fun j hj => have hj := hr ▸ hj; ⟨G[j], List.getElem?_eq_getElem hj, (hG j _ (List.getElem?_eq_getElem hj)).1⟩
  have hsh : ∀ j, j < r → ∀ k, k < j → ∃ w, G[j]? = some w ∧ w.share[k]? = some (shF G j k) := fun j hj k hk => by
    obtain ⟨w, h1, h2⟩ := hsA j hj
    refine ⟨w, h1, ?_⟩
    unfold shF
    rw [h1]
    simp only [Option.map_some, Option.getD_some, List.getD_eq_getElem?_getD]
    rw [List.getElem?_eq_getElem (h2.symm ▸ hk)]; rfl
  have hs : ∀ j, j < r → ∀ k, k < j → Sz (20 * tau k + 12) (shF G j k) := fun j hj k hk => by
    obtain ⟨w, h1, h2⟩ := hsh j hj k hk
    exact (hG j w h1).2 k _ h2
  refine (?_ : TR c (fscope 24) g 10 {} _ (fbody 24) (RetOk c g (.d (vec r (bo (shF G) r st r))))) A s R S0
  refine t_get fun hMW hOW => ?_
  refine t_asgN (EN.listOf (ds := vecL r st) (EV.attr EV.name f1 (T.no _)) T.list (rz (n4z hr4))) (.inl (by rfl)) fun l hl => ?_
  refine t_for (IT.rangeDown (a := (r : Int) - 1) (k := r) (EV.sub (EV.attr EV.name f2 (T.no _)) EV.cint) (EV.neg EV.cint) (EV.neg EV.cint) rfl (Nat.lt_succ_of_le hr4) T.range) (.inl (by rfl)) (fun i => [("fitted", .ob fs), ("values", .at l)]) (fun i => { ls := [(l, vecL r (bo (shF G) r st i))] }) (.cons (by rfl) (.cons (by rfl) .nil)) rfl ?_ ?_
  · intro i d hd g'
    obtain ⟨hi, rfl⟩ := rngD hd
    have hbd := bo_bd hr4 hst hs i (Nat.le_of_lt hi)
    have eb : bo (shF G) r st (i + 1) = upd (shF G) (bo (shF G) r st i) (r - 1 - i) i := rfl
    rw [eb]
    generalize bo (shF G) r st i = f at hbd ⊢
    obtain ⟨hk1, hki⟩ := bk7 hi
    generalize hk : r - 1 - i = k at hk1 hki ⊢
    have h8 := bk8 hr4 hki
    refine t_for (IT.range2 (a := ((k + 1 : Nat) : Int)) (b := (r : Int)) (k := i) (EV.cast (EV.add EV.name EV.cint) (by norm_cast)) (EV.attr EV.name f2 (T.no _)) h8.1 h8.2.1 h8.2.2.1 h8.2.2.2.1 h8.2.2.2.2 T.range) (.inl (by rfl))
      (fun t => [("k", .d (.int k)), ("fitted", .ob fs), ("values", .at l)]) (fun t => { ls := [(l, vecL r (upd (shF G) f k t))] }) (.cons (by rfl) (.cons (by rfl) (.cons (by rfl) .nil))) ?_ ?_ ?_
    · rw [upd_0]
    · intro t d hd g''
      obtain ⟨ht, rfl⟩ := rng2 hd
      have hsz := upd_sz (t := t) hr4 hi (Nat.le_of_lt ht) hbd hs
      rw [hk] at hsz
      have hb4 := bk4 (bk3 hr4 hki) ht
      obtain ⟨hkt, hri⟩ := bk1 hki ht
      have h5 := bk5 hb4.2.2.1 hb4.1 hb4.2.1
      have h6 := bk6 h5.1 h5.2.1 h5.2.2
      obtain ⟨w, hw1, hw2⟩ := hsh (k + 1 + t) hkt k bk2
      have h1 := hs (k + 1 + t) hkt k bk2
      have e : upd (shF G) f k t (k + 1 + t) = f (k + 1 + t) := by unfold upd; rw [if_neg (Nat.ne_of_gt bk2)]
      have h2 : Sz (Bb (k + 1)) (upd (shF G) f k t (k + 1 + t)) := by
        rw [e]; exact ((hbd (k + 1 + t) hkt).2 hri).le (Bb_mono _ hb4.2.2.2 _ (Nat.succ_lt_succ (Nat.lt_succ_of_lt hb4.2.2.1)) (Nat.le_add_right _ _))
      refine t_setitem (l := l) (ds := vecL r (upd (shF G) f k t)) (j := 0) (k := (k : Int)) (EV.call' (sub_ok T.toTop1 hsz (h1.mul h2) h6.1) (EVs.two (EV.itemAt (l := l) (ds := vecL r (upd (shF G) f k t)) (j := 0) EV.name (by rfl) EV.name iz0 (i62 hk1 (n4z hr4)) (vecL_at hk1))
        (EV.call' (mul_ok T.toTop1 h1 h2 h6.2) (EVs.two (EV.item (ds := ratsD w.share) (EV.item (ds := shaD G) (EV.attr EV.name f3 (T.no _)) EV.name iz0 (i62 hkt (n4z hr4)) (sha_at hw1)) EV.name iz0 (i62 hk1 (n4z hr4)) (rats_at hw2)) (EV.itemAt (l := l) (ds := vecL r (upd (shF G) f k t)) (j := 0) EV.name (by rfl) EV.name iz0 (i62 hkt (n4z hr4)) (vecL_at hkt))))))
        EV.name EV.name (by rfl) iz0 (vecL_lt hk1) (rz (n4z hr4)) ?_
      rw [upd_succ, Int.toNat_natCast, vecL_set]
      exact t_nx (.cons (by rfl) (.cons (by rfl) (.cons (by rfl) .nil)))
    · rw [rng_len]
      exact t_nx (.cons (by rfl) (.cons (by rfl) .nil))
  · rw [rng_len]
    exact t_map (g' := g) (ρ' := [("values", .d (vec r (bo (shF G) r st r)))]) (X' := {}) rfl (fun s S => S.unM0 hMW hOW hl (.turn (j := 0) (by rfl) hl (by rfl) .nil)) (t_retOk EV.name)
end Mine

namespace Mine
open PySem PySem.W PySem.Calls PyProof.Rows PySem.Spec PySem.Challenge
variable {c : Cx}

theorem x_asgOrtho (T : Top3 c) {n m : Nat} {cols : Nat → Nat → Rat} (hn : n ≤ 5) (hm : m ≤ 4) (hc : ∀ j, j < m → ∀ i, i < n → Sz 24 (cols j i)) {sc : Scope} {g : Fm} {ρ : Rho} {s : Shared} {A : Around} {k : Nat} {y : Str} {py pf pc pos : Pos} {e1 e2 : Expr} {rest : List Stmt} {Q : Flow → Shared → Prop} (R : RoomE A k) (S : StE c sc g ρ {} s) (hk15 : 15 ≤ k)
    (ha : EVs c sc {} k ρ [e1, e2] [.d (mat n m cols), .d .none]) (hk : canStore sc y)
    (h : ∀ x dd l5 s', [l5, dd].Nodup → (∀ l ∈ [l5, dd], l ∉ g.W) → StE c sc (gA g [l5, dd]) ((y, .at x) :: ρ) { ls := [(l5, [])], os := [(x, dd, OF n (gs n cols m) l5)] } s' → wpAny (model c.prog c.w) A (execs rest (gA g [l5, dd]).env) Q nE s')
    (hkf : sc.names.lookup ("orthogonal" : Str) = some .globalImplicit := by rfl)
    (he : ∀ rest env, starEach (e1 :: rest) env = (false, eval e1 env) :: starEach rest env := by intro _ _; rfl)
    (hs : ∀ env : Env, env.scope = sc → swapsWith (.Call (.Name "orthogonal" pf) [e1, e2] [] pc) (some (.Name y py)) pos.line env = pure false := by intro _ _; rfl) :
    wpAny (model c.prog c.w) A (execs (.Assign [.Name y py] (.Call (.Name "orthogonal" pf) [e1, e2] [] pc) pos :: rest) g.env) Q nE s := by
  refine wpAny_execs_cons (wpAny_Assign_Name ?_ (hs _ S.scp))
  obtain ⟨f, hf, D⟩ := T.ortho
  refine wpAny_Call_NameR ((EV.glob hf hkf (by rfl)).use R S fun v s₁ k₁ S₁ r₁ => ?_)
  obtain rfl : v = .ref f := r₁
  obtain ⟨o, fd, ho, hfd⟩ : ∃ o fd, s₁.heap.get? f = some o ∧ o.data = .func fd := let ⟨o, fd, a, b, _⟩ := D.here _ S₁.wd'.K; ⟨o, fd, a, b⟩
  have main := ha.use (pos := pc) R S₁ (Q := fun vs s₂ => (s₂.heap.get? f = some o ∧ o.data = .func fd) ∧ wpAny (model c.prog c.w) A (PySem.call (.ref f) vs) (fun v s' => wpAny (model c.prog c.w) A (storeName g.env y v) (fun _ s'' => wpAny (model c.prog c.w) A (execs rest g.env) Q nE s'') nE s') nE s₂) fun vs s₂ k₂ S₂ r₂ => by
    refine ⟨⟨(keeps_sm k₂).2 _ _ ho, hfd⟩, wpAny_call ?_⟩
    refine enter (n := 14) (dvs := []) D (by rfl) (fun _ _ => .nil) (R.c.le hk15) S₂.wd' S₂.alive r₂ (fun A' g' s₃ R' S₃ h0 hW hM hfp hG => ?_) (by rfl) (by rfl) (by rfl) (by decide +kernel) (by decide +kernel) (by decide +kernel)
    have S₃' : StE c (fscope 23) g' [("columns", .d (mat n m cols)), ("weights", .d .none)] {} s₃ := S₃.sub (.cons (by rfl) (.cons (by rfl) .nil))
    refine ortho_walk T hn hm hc R' S₃' hM fun x dd l5 s₄ nd nW S₄ => ⟨_, .inl rfl, ?_⟩
    have hsub : ∀ a ∈ g.W, a ∈ g'.W := fun a q => by rw [hW]; exact List.mem_append_right _ q
    have O : Owned c g.W s₂ s₄ [l5, dd] { ls := [(l5, [])], os := [(x, dd, OF n (gs n cols m) l5)] } := S₄.owned h0 (fun a q => q) (fun a q => List.mem_cons_of_mem _ (List.mem_cons_of_mem _ (hsub a q))) (fun a q => q)
    exact StE.store (g := gA g [l5, dd]) (S₂.adopt O) (d := .at x) rfl hk fun s₅ S₅ _ _ => h x dd l5 s₅ nd (fun l q r => nW l q (hsub l r)) S₅
  rw [he] at main ⊢
  exact callWith_function (o := o) (fd := fd) (evalArgs_plain main)
structure Top4 (c : Cx) : Prop extends Top3 c where
  fit_ : Def c "fit" 26 [.none]

theorem x_expr {sc : Scope} {g : Fm} {ρ : Rho} {X : Res} {s : Shared} {A : Around} {n : Nat} {e : Expr} {pos : Pos} {rest : List Stmt} {Q : Flow → Shared → Prop} (he : EV c sc X n ρ e (.d .none)) (R : RoomE A n) (S : StE c sc g ρ X s)
    (h : ∀ s', StE c sc g ρ X s' → wpAny (model c.prog c.w) A (execs rest g.env) Q nE s')
    (hs : ∀ env : Env, env.scope = sc → swapsWith e none pos.line env = pure false := by intro _ _; rfl) : wpAny (model c.prog c.w) A (execs (.Expr e pos :: rest) g.env) Q nE s := by
  have hint : interactive g.env = false := by
    unfold interactive
    rw [S.scp, S.kind]; rfl
  refine wpAny_execs_cons (wpAny_Expr (he.use R S fun v s₁ k₁ S₁ r₁ => ?_) hint (hs _ S.scp))
  obtain rfl := Rv.none_inv r₁
  exact h _ S₁

theorem Sub.fs {fs : List (Str × V)} : ∀ {fs' : List (Str × PyData)}, (∀ p ∈ fs', fs.lookup p.1 = some (.d p.2)) → ∀ y p, fs'.lookup y = some p → fs.lookup y = some (.d p)
  | [], _, y, p, e => by simp at e
  | (z, q) :: r, h, y, p, e => by
    rw [List.lookup_cons] at e
    cases hy : y == z with
    | true => rw [hy] at e; cases e; rw [beq_iff_eq.mp hy]; exact h (z, q) (.head _)
    | false => rw [hy] at e; exact Sub.fs (fun p m => h p (List.mem_cons_of_mem _ m)) y p e

/-- the object's names once the steps are taken -/
noncomputable def OF2 (n : Nat) (G : List Row) (st : List Rat) : List (Str × V) := [("steps", .d (.list (ratsD st))), ("rank", .d (.int G.length)), ("df", .d (.int 0)), ("rank", .d (.int G.length)), ("weights", .d .none), ("residuals", .d (.list [])), ("fitted", .d (.list [])), ("coefficients", .d (.list [])), ("shares", .d (.list (shaD G))), ("norms", .d (.list (nrmD n G))), ("bases", .d (.list (basD n G))), ("pivots", .d (.list (pivD G)))]

/-- the object as it is given back -/
noncomputable def OF3 (m n : Nat) (G : List Row) (co : Nat → Option Rat) (rs y : Nat → Rat) : List (Str × V) := [("coefficients", .d (.list (optL m co))), ("residuals", .d (vec n rs)), ("fitted", .d (.list (vecL n fun i => y i - rs i))), ("weights", .d .none), ("pivots", .d (.list (pivD G))), ("rank", .d (.int G.length)), ("rank", .d (.int G.length)), ("rank", .d (.int G.length)), ("rank", .d (.int G.length)), ("rank", .d (.int G.length)), ("rank", .d (.int G.length)), ("rank", .d (.int G.length)), ("rank", .d (.int G.length)), ("rank", .d (.int G.length)), ("rank", .d (.int G.length)), ("rank", .d (.int G.length)), ("rank", .d (.int G.length))]

theorem t_asgOrtho (T : Top3 c) {n m : Nat} {cols : Nat → Nat → Rat} (hn : n ≤ 5) (hm : m ≤ 4) (hc : ∀ j, j < m → ∀ i, i < n → Sz 24 (cols j i)) {sc : Scope} {g : Fm} {ρ : Rho} {k : Nat} {y : Str} {py pf pc pos : Pos} {e1 e2 : Expr} {rest : List Stmt} {Q : Flow → Shared → Prop} (hk15 : 15 ≤ k)
    (ha : EVs c sc {} k ρ [e1, e2] [.d (mat n m cols), .d .none]) (hk : canStore sc y)
    (h : ∀ x dd l5, [l5, dd].Nodup → (∀ l ∈ [l5, dd], l ∉ g.W) → TR c sc (gA g [l5, dd]) k { ls := [(l5, [])], os := [(x, dd, OF n (gs n cols m) l5)] } ((y, .at x) :: ρ) rest Q)
    (hkf : sc.names.lookup ("orthogonal" : Str) = some .globalImplicit := by rfl)
    (he : ∀ rest env, starEach (e1 :: rest) env = (false, eval e1 env) :: starEach rest env := by intro _ _; rfl)
    (hs : ∀ env : Env, env.scope = sc → swapsWith (.Call (.Name "orthogonal" pf) [e1, e2] [] pc) (some (.Name y py)) pos.line env = pure false := by intro _ _; rfl) :
    TR c sc g k {} ρ (.Assign [.Name y py] (.Call (.Name "orthogonal" pf) [e1, e2] [] pc) pos :: rest) Q :=
  fun A s R S => x_asgOrtho T hn hm hc R S hk15 ha hk (fun x dd l5 s nd nW S => h x dd l5 nd nW A s R S) hkf he hs
theorem t_expr {sc : Scope} {g : Fm} {ρ : Rho} {X : Res} {n : Nat} {e : Expr} {pos : Pos} {rest : List Stmt} {Q : Flow → Shared → Prop} (he : EV c sc X n ρ e (.d .none)) (h : TR c sc g n X ρ rest Q)
    (hs : ∀ env : Env, env.scope = sc → swapsWith e none pos.line env = pure false := by intro _ _; rfl) : TR c sc g n X ρ (.Expr e pos :: rest) Q := fun A s R S => x_expr he R S (fun s S => h A s R S) hs
theorem ratsD_vec {n : Nat} {G : List Row} {y : Nat → Rat} : ratsD (redS n G y) = vecL G.length (fun k => (redS n G y).getD k 0) := by
  apply List.ext_getElem?
  intro j
  unfold ratsD vecL
  by_cases h : j < G.length
  · have h' : j < (redS n G y).length := by rw [redS_len]; exact h
    simp [h, h']
  · have h' : (redS n G y).length ≤ j := by rw [redS_len]; exact Nat.not_lt.mp h
    rw [List.getElem?_eq_none (by rw [List.length_map]; exact h'), List.getElem?_eq_none (by rw [List.length_map, List.length_range]; exact Nat.not_lt.mp h)]
theorem opt_lt {m k : Nat} {f : Nat → Option Rat} (h : k < m) : (k : Int) < (optL m f).length := by rw [optL, List.length_map, List.length_range]; exact Int.ofNat_lt.mpr h
theorem opt_z {m : Nat} {f : Nat → Option Rat} (h : m ≤ 4) : (optL m f).length ≤ 2 ^ 20 := by rw [optL, List.length_map, List.length_range]; exact Nat.le_trans h (by decide)
theorem piv_at {G : List Row} {t : Nat} {r : Row} (h : G[t]? = some r) : (pivD G)[((t : Nat) : Int).toNat]? = some (.int r.piv) := by rw [Int.toNat_natCast, pivD, List.getElem?_map, h]; rfl
theorem fit_walk (T : Top4 c) {n m : Nat} {cols : Nat → Nat → Rat} {y : Nat → Rat} (hn : n ≤ 5) (hm : m ≤ 4) (hc : ∀ j, j < m → ∀ i, i < n → Sz 24 (cols j i)) (hy : ∀ i, i < n → Sz 24 (y i)) {A : Around} {g : Fm} {s : Shared} (R : RoomE A 15)
    (S : StE c (fscope 26) g [("columns", .d (mat n m cols)), ("y", .d (vec n y)), ("weights", .d .none)] {} s) :
    wpAny (model c.prog c.w) A (execs (fbody 26) g.env) (RetOk c g (.ob (fitD n m cols y))) nE s := by
  have hn20 : n ≤ 2 ^ 20 := Nat.le_trans hn (by decide)
  have hn60 : n < 2 ^ 60 := Nat.lt_of_le_of_lt hn (by decide)
  have hm20 : m ≤ 2 ^ 20 := Nat.le_trans hm (by decide)
  refine (?_ : TR c (fscope 26) g 15 {} _ (fbody 26) (RetOk c g (.ob (fitD n m cols y)))) A s R S
  refine t_for (IT.list EV.name) (.inl (by rfl)) (fun _ => [("columns", .d (mat n m cols)), ("y", .d (vec n y)), ("weights", .d .none)]) (fun _ => {}) (.cons (by rfl) (.cons (by rfl) (.cons (by rfl) .nil))) rfl ?_ ?_
  · intro i d hd g'
    have hi : i < m := by
      have := (List.getElem?_eq_some_iff.mp hd).1
      simpa using this
    rw [mat_at hi] at hd
    obtain rfl := Option.some.inj hd
    refine t_ifF ((TV.cmpO (EV.vecLen (f := cols i) EV.name T.len hn20) (EV.vecLen (f := y) EV.name T.len hn20) CmpOk.ne).cast (by simp)) ?_
    refine t_expr (EV.call' (check_ok T.toTop2 (n := n) (f := cols i) (by (first | lia | omega))) (EVs.two EV.name EV.cstr)) ?_
    exact t_nx (.cons (by rfl) (.cons (by rfl) (.cons (by rfl) .nil)))
  · refine t_expr (EV.call' (check_ok T.toTop2 (n := n) (f := y) (by (first | lia | omega))) (EVs.two EV.name EV.cstr)) ?_
    refine t_ifF (TV.cmpO EV.name EV.cnone (CmpOk.isNotN (p := .none))) ?_
    refine t_get fun hMW hOW => ?_
    refine t_asgOrtho T.toTop3 hn hm hc (by decide) (EVs.two EV.name EV.name) (.inl (by rfl)) fun x dd l5 nd nW => ?_
    have hG := gs_bd hn hm hc (p := m) (Nat.le_refl _)
    have hGl := gs_len n cols m
    have hpv := gs_piv n cols m
    have hrk : rnk n m cols = (gs n cols m).length := rfl
    have eco : coF n m cols y = cf (gs n cols m) (valF n m cols y) (gs n cols m).length := rfl
    have eva : valF n m cols y = bo (shF (gs n cols m)) (gs n cols m).length (fun k => (redS n (gs n cols m) y).getD k 0) (gs n cols m).length := rfl
    have ere : resF n m cols y = redV n (gs n cols m) y := rfl
    unfold fitD
    rw [eco, eva, ere, hrk]
    have hG4 : (gs n cols m).length ≤ 4 := Nat.le_trans hGl hm
    generalize gs n cols m = G at hG hGl hpv hG4 ⊢
    have hGz : G.length ≤ 999 := Nat.le_trans hG4 (by decide)
    have hG20 : G.length ≤ 2 ^ 20 := Nat.le_trans hG4 (by decide)
    have hG60 : G.length < 2 ^ 60 := Nat.lt_of_le_of_lt hG4 (by decide)
    clear hrk eco eva ere
    refine t_asg (EV.listOf (ds := (List.range n).map fun i => q2d (y i)) EV.name T.list (vecl_z hn)) (.inr (by rfl)) ?_
    refine t_for (IT.range1 (k := G.length) (EV.attrM (a := x) (dd := dd) (fs := OF n G l5) rfl (by rfl) (by rfl) (T.no _)) hG60 T.range) (.inl (by rfl))
      (fun t => [("rest", .d (vec n (redV n (G.take t) y))), ("found", .at x), ("columns", .d (mat n m cols)), ("y", .d (vec n y)), ("weights", .d .none)]) (fun t => { ls := [(l5, ratsD (redS n (G.take t) y))], os := [(x, dd, OF n G l5)] })
      (.cons (by rfl) (.cons (by rfl) (.cons (by rfl) (.cons (by rfl) (.cons (by rfl) .nil))))) rfl ?_ ?_
    · intro t d hd g'
      obtain ⟨ht, rfl⟩ := rng1 hd
      have hr : G[t]? = some G[t] := List.getElem?_eq_getElem ht
      generalize G[t] = r at hr
      obtain ⟨hb, hn0, _⟩ := hG t r hr
      have hw := redV_sz hn hG hy (k := t) (by (first | lia | omega))
      have htau : tau t ≤ 262143 := tau_z (Nat.le_of_lt_succ (Nat.lt_of_lt_of_le ht hG4)) (Nat.le_refl _)
      refine t_asg (EV.coef T.toTop3 hn htau hw hb hn0 EV.name EV.name (EV.item (ds := basD n G) (EV.attrM (a := x) (dd := dd) (fs := OF n G l5) rfl (by rfl) (by rfl) (T.no _)) EV.name iz0 (i62 ht hGz) (bas_at hr)) (EV.item (ds := nrmD n G) (EV.attrM (a := x) (dd := dd) (fs := OF n G l5) rfl (by rfl) (by rfl) (T.no _)) EV.name iz0 (i62 ht hGz) (nrm_at hr)) (by decide)) (.inl (by rfl)) ?_
      refine t_append (l := l5) (ds := ratsD (redS n (G.take t) y)) (j := 0) (EV.attrM (a := x) (dd := dd) (fs := OF n G l5) rfl (by rfl) (by rfl) (T.no _)) (by rfl) EV.name (rats_z (take_z hGz)) ?_
      refine t_asg (EV.call' (less_ok T.toTop2 hw hb (coef_sz hn hw hb hn0) (by (first | lia | omega)) (by (first | lia | omega))) (EVs.three EV.name EV.name (EV.item (ds := basD n G) (EV.attrM (a := x) (dd := dd) (fs := OF n G l5) rfl (by rfl) (by rfl) (T.no _)) EV.name iz0 (i62 ht hGz) (bas_at hr)))) (.inr (by rfl)) ?_
      rw [take_snoc hr, redV_snoc, redS_snoc, ratsD_snoc]
      exact t_nx (.cons (by rfl) (.cons (by rfl) (.cons (by rfl) (.cons (by rfl) (.cons (by rfl) .nil)))))
    · rw [rng_len, List.take_length]
      have hst : ∀ k, k < G.length → Sz (20 * tau k + 12) ((redS n G y).getD k 0) := fun k hk => by
        have := redS_sz hn hG hy (Nat.le_refl _)
        rw [List.take_length] at this
        refine this k _ ?_
        rw [List.getD_eq_getElem?_getD, List.getElem?_eq_getElem (by rw [redS_len]; exact hk)]; rfl
      have hrs := redV_sz hn hG hy (Nat.le_refl _)
      rw [List.take_length] at hrs
      have hvec : ratsD (redS n G y) = vecL G.length (fun k => (redS n G y).getD k 0) := ratsD_vec
      generalize redV n G y = rs at hrs ⊢
      generalize redS n G y = st at hst hvec ⊢
      have hl5 : l5 ∉ (gA g [dd]).W := fun q => (List.mem_cons.mp q).elim (fun q => (List.nodup_cons.mp nd).1 (q ▸ .head _)) (nW l5 (.head _))
      have hMW' : ∀ a ∈ (gA g [dd]).M, a ∈ (gA g [dd]).W := fm (.head _) fun a q => .tail _ (hMW a q)
      have hOW' : ∀ a ∈ own (gA g [dd]), a ∈ (gA g [dd]).W := fun a q => List.mem_cons_of_mem _ (hOW a q)
      refine t_map (g' := gA g [dd]) (ρ' := [("rest", .d (vec n rs)), ("found", .at x), ("columns", .d (mat n m cols)), ("y", .d (vec n y)), ("weights", .d .none)]) (X' := { ls := [], os := [(x, dd, OF2 n G st)] }) rfl (fun s S => ?_) ?_
      · refine StE.unM (l := l5) (ds := ratsD st) (L := []) (O := [(x, dd, OF n G l5)]) hMW' hOW' hl5 S (.keep (by rfl) (.keep (by rfl) (.keep (by rfl) (.keep (by rfl) (.keep (by rfl) .nil))))) (fun a d fs q => ?_) rfl
        cases List.mem_singleton.mp q
        refine ⟨_, .head _, Nat.le_of_ble_eq_true rfl, ?_⟩
        exact .turn (j := 0) (by rfl) hl5 (by rfl) (.keep (by rfl) (.keep (by rfl) (.keep (by rfl) (.keep (by rfl) (.keep (by rfl) (.keep (by rfl) (.keep (by rfl) (.keep (by rfl) (.keep (by rfl) (.keep (by rfl) (.keep (by rfl) .nil)))))))))))
      refine t_setN (EN.rep (EV.colLen (m := m) EV.name T.len hm20) hm20) rfl (by rfl) (T.no _) (Nat.le_of_ble_eq_true rfl) fun lc hlc => ?_
      rw [← optL_none]
      have hB : ∀ (j : Nat) (w : Row), G[j]? = some w → w.share.length = j ∧ ∀ k q, w.share[k]? = some q → Sz (20 * tau k + 12) q := fun j w q => (hG j w q).2.2
      obtain ⟨f, hf, hfo⟩ := back_ok T.toTop3 (G := G) (r := G.length) (st := fun k => st.getD k 0) rfl hG4 hst hB (fs := [("steps", vec G.length fun k => st.getD k 0), ("rank", .int G.length), ("shares", .list (shaD G))]) (by rfl) (by rfl) (by rfl)
      have hvec' : PyData.list (ratsD st) = vec G.length fun k => st.getD k 0 := by rw [hvec]; rfl
      refine t_asg (EV.callOb hfo rfl (by rfl) (Sub.fs (fm (by rw [← hvec']; rfl) (fm (by rfl) (fm (by rfl) fm0)))) hf (by decide)) (.inl (by rfl)) ?_
      generalize bo (shF G) G.length (fun k => st.getD k 0) G.length = vals
      refine t_for (IT.range1 (k := G.length) (EV.attrM (a := x) (dd := dd) (fs := ("coefficients", .at lc) :: OF2 n G st) rfl (by rfl) (by rfl) (T.no _)) hG60 T.range) (.inl (by rfl))
        (fun t => [("values", .d (vec G.length vals)), ("rest", .d (vec n rs)), ("found", .at x), ("columns", .d (mat n m cols)), ("y", .d (vec n y)), ("weights", .d .none)]) (fun t => { ls := [(lc, optL m (cf G vals t))], os := [(x, dd, ("coefficients", .at lc) :: OF2 n G st)] })
        (.cons (by rfl) (.cons (by rfl) (.cons (by rfl) (.cons (by rfl) (.cons (by rfl) (.cons (by rfl) .nil)))))) rfl ?_ ?_
      · intro t d hd g'
        obtain ⟨ht, rfl⟩ := rng1 hd
        have hr : G[t]? = some G[t] := List.getElem?_eq_getElem ht
        have ecf : cf G vals (t + 1) = fun j => if j = G[t].piv then some (vals t) else cf G vals t j := by
          funext j; show (match G[t]? with | some r => _ | none => _) = _; rw [hr]
        rw [ecf]
        have hpm := hpv t _ hr
        generalize G[t] = r at hr hpm ⊢
        refine t_setitem (l := lc) (ds := optL m (cf G vals t)) (j := 0) (k := (r.piv : Int)) (d := q2d (vals t)) (EV.vecAt EV.name EV.name ht hG20) (EV.attrM (a := x) (dd := dd) (fs := ("coefficients", .at lc) :: OF2 n G st) rfl (by rfl) (by rfl) (T.no _))
          (EV.item (ds := pivD G) (EV.attrM (a := x) (dd := dd) (fs := ("coefficients", .at lc) :: OF2 n G st) rfl (by rfl) (by rfl) (T.no _)) EV.name iz0 (i62 ht hGz) (piv_at hr)) (by rfl) (Int.natCast_nonneg _) (opt_lt hpm) (opt_z hm) ?_
        rw [Int.toNat_natCast, optL_set]
        exact t_nx (.cons (by rfl) (.cons (by rfl) (.cons (by rfl) (.cons (by rfl) (.cons (by rfl) (.cons (by rfl) .nil))))))
      · rw [rng_len]
        generalize cf G vals G.length = co
        refine t_setattr EV.name rfl (by rfl) (T.no _) (Nat.le_of_ble_eq_true rfl) ?_
        have hres := tau_mono (i := G.length) (j := 4) (by (first | lia | omega))
        rw [tau4] at hres
        refine t_setattr (EV.comp [("y", .d (vec n y)), ("rest", .d (vec n rs))] (rs := vecL n fun i => y i - rs i) (IT.range1 (EV.vecLen (f := y) EV.name T.len hn20) hn60 T.range) (fun i d hd => ?_) (by rw [rng_len]; simp [vecL]) (fre_cons (by rfl) (by rfl) (fre_cons (by rfl) (by rfl) fre_nil)) (by rw [rng_len]; exact hn20)) rfl (by rfl) (T.no _) (Nat.le_of_ble_eq_true rfl) ?_
        · obtain ⟨hi, rfl⟩ := rng1 hd
          exact ⟨_, vec_at (f := fun i => y i - rs i) hi, EV.call' (sub_ok T.toTop1 (hy i hi) (hrs i hi) (by (first | lia | omega))) (EVs.two (EV.vecAt EV.name EV.name hi hn20) (EV.vecAt EV.name EV.name hi hn20))⟩
        refine t_setattr EV.name rfl (by rfl) (T.no _) (Nat.le_of_ble_eq_true rfl) ?_
        refine t_setattr (EV.sub (EV.call' (used_ok T.toTop2 n) (EVs.two (EV.vecLen (f := y) EV.name T.len hn20) EV.name)) (EV.attrM (a := x) (dd := dd) (d := .d (.int G.length)) rfl (by rfl) (by rfl) (T.no _))) rfl (by rfl) (T.no _) (Nat.le_of_ble_eq_true rfl) ?_
        refine t_ret EV.name fun v s S r => ?_
        obtain rfl : v = .ref x := r
        have hlc' : lc ∉ (gA g [dd]).W := hlc
        have S : StE c (fscope 26) (gA g [dd]) [] { ls := [], os := [(x, dd, OF3 m n G co rs y)] } s := by
          refine StE.unM (l := lc) (ds := optL m co) (L := []) hMW' hOW' hlc' S .nil (fun a d fs q => ?_) rfl
          cases List.mem_singleton.mp q
          refine ⟨_, .head _, Nat.le_of_ble_eq_true rfl, ?_⟩
          exact .turn (j := 0) (by rfl) hlc' (by rfl) (.keep (by rfl) (.keep (by rfl) (.keep (by rfl) (.keep (by rfl) (.keep (by rfl) (.keep (by rfl) (.keep (by rfl) (.keep (by rfl) (.keep (by rfl) (.keep (by rfl) (.keep (by rfl) (.keep (by rfl) (.keep (by rfl) (.keep (by rfl) (.keep (by rfl) (.keep (by rfl) .nil))))))))))))))))
        refine RetOk.ob (W := g.W) S rfl (fun b q => List.mem_cons_of_mem _ q) (nW dd m1) rfl rfl (Sub.fs (fm (by rfl) (fm (by rfl) (fm (by rfl) (fm (by rfl) (fm (by rfl) (fm (by rfl) fm0)))))))

theorem fit_ok (T : Top4 c) {n m : Nat} {cols : Nat → Nat → Rat} {y : Nat → Rat} (hn : n ≤ 5) (hm : m ≤ 4) (hc : ∀ j, j < m → ∀ i, i < n → Sz 24 (cols j i)) (hy : ∀ i, i < n → Sz 24 (y i)) : Ok c 16 "fit" [.d (mat n m cols), .d (vec n y)] (.ob (fitD n m cols y)) := by
  obtain ⟨f, hf, D⟩ := T.fit_
  refine ⟨f, hf, FnOk.of (n := 15) (dvs := [.d .none]) D (by rfl) (fun _ _ => .cons .none .nil) (fun A g s R S => ?_) (by rfl) (by rfl) (by rfl) (by decide +kernel) (by decide +kernel) (by decide +kernel)⟩
  exact fit_walk T hn hm hc hy R (S.sub (.cons (by rfl) (.cons (by rfl) (.cons (by rfl) .nil))))
end Mine

namespace Mine
open PySem PySem.W PySem.Calls PyProof.Rows PySem.Spec PySem.Challenge
variable {c : Cx}

structure Top5 (c : Cx) : Prop extends Top4 c where
  cell : Def c "_law_cell" 29 []
  small : Def c "_law_small" 30 []
  red : Def c "_law_reduced" 31 []
  plus : Def c "_law_plus" 32 []
  by_ : Def c "_law_by" 33 []
  scaled : Def c "_law_scaled" 34 []
  moved : Def c "_law_moved" 35 []

noncomputable def scD (xs : List Int) : PyData := .list (xs.map .int)
noncomputable def cellZ (xs : List Int) (a : Nat) : Int := (xs[a]?).getD (3 * a + 1)
theorem cell_ok (T : Top5 c) (xs : List Int) (a : Nat) (ha : a < 1000) (hx : xs.length ≤ 1000) : Ok c 3 "_law_cell" [.d (scD xs), .d (.int a)] (.d (.int (cellZ xs a))) := by
  refine Ok.of (n := 2) T.cell (by rfl) fun A g s R S => ?_
  have S0 : StE c (fscope 29) g [("script", .d (scD xs)), ("at", .d (.int a))] {} s := S.sub (.cons (by rfl) (.cons (by rfl) .nil))
  by_cases h : a < xs.length
  · refine x_ifF ((TV.cmpO EV.name (EV.cast (EV.len (ds := xs.map .int) EV.name T.len (by simp; (first | lia | omega))) (d' := .d (.int xs.length)) (by simp)) CmpOk.ge).cast (by simp; exact h)) R S0 fun s S => x_nil ?_
    refine x_retOk (EV.item (ds := xs.map .int) EV.name EV.name (by (first | lia | omega)) (by (first | lia | omega)) (by rw [Int.toNat_natCast]; simp [cellZ, h])) R S
  · refine x_ifT ((TV.cmpO EV.name (EV.cast (EV.len (ds := xs.map .int) EV.name T.len (by simp; (first | lia | omega))) (d' := .d (.int xs.length)) (by simp)) CmpOk.ge).cast (by simp; (first | lia | omega))) R S0 fun s S => ?_
    have e : cellZ xs a = 3 * (a : Int) + 1 := by simp [cellZ, h]
    rw [e]
    exact x_ret (EV.add (EV.mul EV.cint EV.name (mulOk (a := 2) (b := 10) (by decide) (by simp; (first | lia | omega)) (by decide))) EV.cint) R S fun v s' S' r => .mk S' r

noncomputable def smallQ : Nat → Rat
  | 0 => 0
  | 1 => 1
  | 2 => -2
  | 3 => 1 / 2
  | 4 => 3
  | 5 => -1 / 3
  | _ => 4
theorem smallQ_sz : ∀ k, k < 7 → Sz 3 (smallQ k) := by
  have h : ∀ k, k < 7 → (smallQ k).num.natAbs < 2 ^ 3 ∧ (smallQ k).den < 2 ^ 3 := by decide +kernel
  exact h
noncomputable def smallF (xs : List Int) (a : Nat) : Rat := smallQ ((cellZ xs a).fmod 7).toNat
theorem smallF_sz (xs : List Int) (a : Nat) : Sz 3 (smallF xs a) := smallQ_sz _ (by have := Int.fmod_lt_of_pos (cellZ xs a) (show (0 : Int) < 7 by decide); have := Int.fmod_nonneg_of_pos (cellZ xs a) (show (0 : Int) < 7 by decide); (first | lia | omega))
noncomputable def menuD : List PyData := [.tuple [.int 0, .int 1], .tuple [.int 1, .int 1], .tuple [.int (-2), .int 1], .tuple [.int 1, .int 2], .tuple [.int 3, .int 1], .tuple [.int (-1), .int 3], .tuple [.int 4, .int 1]]
theorem menu7 : menuD = (List.range 7).map fun k => q2d (smallQ k) := by kernel_rfl
theorem menu_at {k : Nat} (h : k < 7) : menuD[k]? = some (q2d (smallQ k)) := by rw [menu7]; simp [h]
section
variable {sc : Scope} {X : Res} {n : Nat} {ρ : Rho}
theorem sub_BinOp (l r : Expr) (op : Operator) (p : Pos) (o i : Value) : subscripted (.BinOp l op r p) false o i = operate [o, i] (getItem o i) := rfl
noncomputable def plainE (e : Expr) : Prop := ∀ rest env, starEach (e :: rest) env = (false, eval e env) :: starEach rest env
theorem EV.tup2 {e1 e2 : Expr} {k : Nat} {p : Pos} {d1 d2 : PyData} (h1 : EV c sc X n ρ e1 (.d d1)) (h2 : EV c sc X n ρ e2 (.d d2)) (s1 : plainE e1 := by intro _ _; rfl) (s2 : plainE e2 := by intro _ _; rfl) : EV c sc X n ρ (.Tuple [e1, e2] k p) (.d (.tuple [d1, d2])) :=
  EV.tuple (ds := [d1, d2]) (EVs.two h1 h2 s1 s2)
theorem EV.list7 {e1 e2 e3 e4 e5 e6 e7 : Expr} {p : Pos} {d1 d2 d3 d4 d5 d6 d7 : PyData} (h1 : EV c sc X n ρ e1 (.d d1)) (h2 : EV c sc X n ρ e2 (.d d2)) (h3 : EV c sc X n ρ e3 (.d d3)) (h4 : EV c sc X n ρ e4 (.d d4)) (h5 : EV c sc X n ρ e5 (.d d5)) (h6 : EV c sc X n ρ e6 (.d d6)) (h7 : EV c sc X n ρ e7 (.d d7))
    (s1 : plainE e1 := by intro _ _; rfl) (s2 : plainE e2 := by intro _ _; rfl) (s3 : plainE e3 := by intro _ _; rfl) (s4 : plainE e4 := by intro _ _; rfl) (s5 : plainE e5 := by intro _ _; rfl) (s6 : plainE e6 := by intro _ _; rfl) (s7 : plainE e7 := by intro _ _; rfl) : EV c sc X n ρ (.List [e1, e2, e3, e4, e5, e6, e7] p) (.d (.list [d1, d2, d3, d4, d5, d6, d7])) :=
  EV.list (ds := [d1, d2, d3, d4, d5, d6, d7]) (EVs.cons h1 (EVs.cons h2 (EVs.cons h3 (EVs.cons h4 (EVs.cons h5 (EVs.cons h6 (EVs.cons h7 EVs.nil s7) s6) s5) s4) s3) s2) s1)
theorem EV.list4 {e1 e2 e3 e4 : Expr} {p : Pos} {d1 d2 d3 d4 : PyData} (h1 : EV c sc X n ρ e1 (.d d1)) (h2 : EV c sc X n ρ e2 (.d d2)) (h3 : EV c sc X n ρ e3 (.d d3)) (h4 : EV c sc X n ρ e4 (.d d4))
    (s1 : plainE e1 := by intro _ _; rfl) (s2 : plainE e2 := by intro _ _; rfl) (s3 : plainE e3 := by intro _ _; rfl) (s4 : plainE e4 := by intro _ _; rfl) : EV c sc X n ρ (.List [e1, e2, e3, e4] p) (.d (.list [d1, d2, d3, d4])) :=
  EV.list (ds := [d1, d2, d3, d4]) (EVs.cons h1 (EVs.cons h2 (EVs.cons h3 (EVs.cons h4 EVs.nil s4) s3) s2) s1)
end
theorem small_ok (T : Top5 c) (xs : List Int) (a : Nat) (ha : a < 1000) (hx : xs.length ≤ 1000) : Ok c 4 "_law_small" [.d (scD xs), .d (.int a)] (.d (q2d (smallF xs a))) := by
  refine Ok.of (n := 3) T.small (by rfl) fun A g s R S => ?_
  have S0 : StE c (fscope 30) g [("script", .d (scD xs)), ("at", .d (.int a))] {} s := S.sub (.cons (by rfl) (.cons (by rfl) .nil))
  have h1 := Int.fmod_lt_of_pos (cellZ xs a) (show (0 : Int) < 7 by decide)
  have h0 := Int.fmod_nonneg_of_pos (cellZ xs a) (show (0 : Int) < 7 by decide)
  unfold smallF
  have hm := menu_at (k := ((cellZ xs a).fmod 7).toNat) (by (first | lia | omega))
  generalize hz : (cellZ xs a).fmod 7 = z at hm h0 h1 ⊢
  generalize smallQ z.toNat = q at hm ⊢
  have h62 : z < 2 ^ 62 := by (first | lia | omega)
  unfold menuD at hm
  conv in fbody 30 => whnf
  with_reducible refine x_retOk ?_ R S0
  with_reducible refine EV.item ?_ ?_ h0 h62 hm ?_
  · refine EV.list7 (EV.tup2 EV.cint EV.cint) (EV.tup2 EV.cint EV.cint) (EV.tup2 (EV.neg EV.cint) EV.cint) (EV.tup2 EV.cint EV.cint) (EV.tup2 EV.cint EV.cint) (EV.tup2 (EV.neg EV.cint) EV.cint) (EV.tup2 EV.cint EV.cint)
  · refine EV.cast (EV.mod (EV.call' (cell_ok T xs a ha hx) (EVs.two EV.name EV.name)) EV.cint (by decide)) (by rw [hz])
  · exact fun _ _ => sub_BinOp _ _ _ _ _ _

theorem emod_pos_lt {y x : Int} (hx : 0 < x) : 0 ≤ y.fmod x ∧ y.fmod x < x := ⟨Int.fmod_nonneg_of_pos _ hx, Int.fmod_lt_of_pos _ hx⟩
theorem red_pos (T : Top5 c) {n d : Int} (hd : 0 < d) : Ok c 3 "_law_reduced" [.d (.int n), .d (.int d)] (.d (q2d (Rat.divInt n d))) := by
  refine Ok.of (n := 2) T.red (by rfl) fun A g s R S => ?_
  have S0 : StE c (fscope 31) g [("n", .d (.int n)), ("d", .d (.int d))] {} s := S.sub (.cons (by rfl) (.cons (by rfl) .nil))
  refine x_ifF ((TV.cmpO EV.name EV.cint CmpOk.lt).cast (by simp; (first | lia | omega))) R S0 fun s S => x_nil ?_
  refine x_asg (EV.abs (i := n) EV.name T.abs) R S (.inl (by rfl)) fun s S => x_asg EV.name R S (.inl (by rfl)) fun s S => ?_
  obtain ⟨e1, e2⟩ := divInt_nat (n := n) hd
  have ha : 0 ≤ (if n < 0 then -n else n) := by split <;> (first | lia | omega)
  generalize (if n < 0 then -n else n) = a at S e1 e2 ha
  refine x_while a.toNat R (fun m s => ∃ x y, 0 ≤ x ∧ 0 < y ∧ m = x.toNat ∧ Int.gcd y x = Int.gcd a d ∧ StE c (fscope 31) g [("x", .d (.int x)), ("y", .d (.int y)), ("n", .d (.int n)), ("d", .d (.int d))] {} s) ⟨a, d, ha, hd, rfl, Int.gcd_comm _ _, S.sub (.cons (by rfl) (.cons (by rfl) (.cons (by rfl) (.cons (by rfl) .nil))))⟩ ?_
  rintro m s ⟨x, y, hx, hy, rfl, he, S⟩
  refine (TV.cmpO EV.name EV.cint CmpOk.ne).use R S fun s k S => ?_
  by_cases h : x = 0
  · rw [if_neg (by simpa using h)]
    have eg : (Int.gcd a d : Int) = y := by rw [← he, h, Int.gcd_zero_right]; exact Int.natAbs_of_nonneg (Int.le_of_lt hy)
    have : q2d (Rat.divInt n d) = .tuple [.int (n.fdiv y), .int (d.fdiv y)] := by unfold q2d; rw [e1, e2, eg]
    rw [this]
    exact x_ret (EV.tup2 (EV.fdiv EV.name EV.name (Int.ne_of_gt hy)) (EV.fdiv EV.name EV.name (Int.ne_of_gt hy))) R S fun v s' S' r => .mk S' r
  · rw [if_pos (by simpa using h)]
    have hx0 : 0 < x := Int.lt_iff_le_and_ne.mpr ⟨hx, Ne.symm h⟩
    obtain ⟨g0, g1⟩ := emod_pos_lt (y := y) hx0
    refine x_asg (EV.mod EV.name EV.name h) R S (.inl (by rfl)) fun s S => x_asg EV.name R S (.inl (by rfl)) fun s S => x_asg EV.name R S (.inl (by rfl)) fun s S => x_nil ⟨rfl, (y.fmod x).toNat, toNat_l g0 g1, y.fmod x, x, g0, hx0, rfl, ?_, S.sub (.cons (by rfl) (.cons (by rfl) (.cons (by rfl) (.cons (by rfl) .nil))))⟩
    rw [← he, Int.fmod_eq_emod_of_nonneg _ hx, gcd_emod' (Int.le_of_lt hy) hx, Int.gcd_comm]
theorem red_ok (T : Top5 c) {n d : Int} (hd : d ≠ 0) : Ok c 4 "_law_reduced" [.d (.int n), .d (.int d)] (.d (q2d (Rat.divInt n d))) := by
  by_cases hp : 0 < d
  · obtain ⟨f, h1, h2⟩ := red_pos T (n := n) hp
    exact ⟨f, h1, h2.fn, fun A s W vs Q R => h2.run A s W vs Q (R.le (by (first | lia | omega)))⟩
  · refine Ok.of (n := 3) T.red (by rfl) fun A g s R S => ?_
    have S0 : StE c (fscope 31) g [("n", .d (.int n)), ("d", .d (.int d))] {} s := S.sub (.cons (by rfl) (.cons (by rfl) .nil))
    refine x_ifT ((TV.cmpO EV.name EV.cint CmpOk.lt).cast (by simp; (first | lia | omega))) R S0 fun s S => ?_
    have := red_pos T (n := -n) (d := -d) (by (first | lia | omega))
    rw [Rat.neg_divInt_neg] at this
    exact x_ret (EV.call' this (EVs.two (EV.neg EV.name) (EV.neg EV.name))) R S fun v s' S' r => .mk S' r

theorem plus_ok (T : Top5 c) {x y : Rat} {a b : Nat} (hx : Sz a x) (hy : Sz b y) (hab : a + b ≤ 2 ^ 27) : Ok c 5 "_law_plus" [.d (q2d x), .d (q2d y)] (.d (q2d (x + y))) := by
  refine Ok.of (n := 4) T.plus (by rfl) fun A g s R S => ?_
  have S0 : StE c (fscope 32) g [("p", .d (q2d x)), ("q", .d (q2d y))] {} s := S.sub (.cons (by rfl) (.cons (by rfl) .nil))
  have hd : ((x.den : Int) * y.den) ≠ 0 := by have := x.den_pos; have := y.den_pos; exact Int.mul_ne_zero (by (first | lia | omega)) (by (first | lia | omega))
  rw [← add_divInt]
  exact x_retOk (EV.call' (red_ok T hd) (EVs.two (EV.add (EV.mul (EV.num (q := x) EV.name) (EV.den (q := y) EV.name) (mulOk hx.1 (by simpa using hy.2) hab)) (EV.mul (EV.num (q := y) EV.name) (EV.den (q := x) EV.name) (mulOk hy.1 (by simpa using hx.2) (by (first | lia | omega))))) (EV.mul (EV.den (q := x) EV.name) (EV.den (q := y) EV.name) (mulOk (a := a) (by simpa using hx.2) (by simpa using hy.2) hab)))) R S0
theorem by_ok (T : Top5 c) {x y : Rat} {a b : Nat} (hx : Sz a x) (hy : Sz b y) (hab : a + b ≤ 2 ^ 27) : Ok c 5 "_law_by" [.d (q2d x), .d (q2d y)] (.d (q2d (x * y))) := by
  refine Ok.of (n := 4) T.by_ (by rfl) fun A g s R S => ?_
  have S0 : StE c (fscope 33) g [("p", .d (q2d x)), ("q", .d (q2d y))] {} s := S.sub (.cons (by rfl) (.cons (by rfl) .nil))
  have hd : ((x.den : Int) * y.den) ≠ 0 := by have := x.den_pos; have := y.den_pos; exact Int.mul_ne_zero (by (first | lia | omega)) (by (first | lia | omega))
  rw [← mul_divInt]
  exact x_retOk (EV.call' (red_ok T hd) (EVs.two (EV.mul (EV.num (q := x) EV.name) (EV.num (q := y) EV.name) (mulOk hx.1 hy.1 hab)) (EV.mul (EV.den (q := x) EV.name) (EV.den (q := y) EV.name) (mulOk (a := a) (by simpa using hx.2) (by simpa using hy.2) hab)))) R S0

noncomputable def OSz (b : Nat) : Option Rat → Prop
  | some q => Sz b q
  | none => True
theorem optL_at {m i : Nat} {f : Nat → Option Rat} (h : i < m) : (optL m f)[i]? = some (optD (f i)) := by simp [optL, h]
theorem scaled_ok (T : Top5 c) {m : Nat} {f : Nat → Option Rat} {q : Rat} {a b : Nat} (hf : ∀ i, i < m → OSz a (f i)) (hq : Sz b q) (hab : a + b ≤ 2 ^ 27) (hm : m ≤ 100) : Ok c 7 "_law_scaled" [.d (.list (optL m f)), .d (q2d q)] (.d (.list (optL m fun i => (f i).map (· * q)))) := by
  refine Ok.of (n := 6) T.scaled (by rfl) fun A g s R S => ?_
  have S0 : StE c (fscope 34) g [("column", .d (.list (optL m f))), ("factor_of_it", .d (q2d q))] {} s := S.sub (.cons (by rfl) (.cons (by rfl) .nil))
  refine x_retOk (EV.comp [("factor_of_it", .d (q2d q))] (rs := optL m fun i => (f i).map (· * q)) (IT.list (EV.name (d := .d (.list (optL m f))))) (fun i d hd => ?_) (by simp [optL]) (fre_cons (by rfl) (by rfl) fre_nil) (by simp [optL]; (first | lia | omega))) R S0
  have hi : i < m := by
    have := (List.getElem?_eq_some_iff.mp hd).1
    simpa [optL] using this
  rw [optL_at hi] at hd
  obtain rfl := Option.some.inj hd
  refine ⟨_, optL_at hi, ?_⟩
  have := hf i hi
  generalize f i = o at this ⊢
  cases o with
  | none => exact EV.ifT (TV.cmpO EV.name EV.cnone (CmpOk.isN (p := .none))) EV.cnone
  | some p => exact EV.ifF (TV.cmpO EV.name EV.cnone (CmpOk.isN (p := q2d p))) (EV.call' (by_ok T this hq hab) (EVs.two EV.name EV.name))
end Mine

namespace Mine
open PySem PySem.W PySem.Calls PyProof.Rows PySem.Spec PySem.Challenge
variable {c : Cx}
theorem mvd_sz {n : Nat} {y mv : Nat → Rat} {cols : Nat → Nat → Rat} {m : Nat} (hy : ∀ i, i < n → Sz 3 (y i)) (hm : ∀ j, j < m → Sz 3 (mv j)) (hc : ∀ j, j < m → ∀ i, i < n → Sz 3 (cols j i)) : ∀ t, t ≤ m → ∀ i, i < n → Sz (3 + 7 * t) (mvd y mv cols t i)
  | 0, _, i, hi => hy i hi
  | t + 1, ht, i, hi => ((mvd_sz hy hm hc t (by (first | lia | omega)) i hi).add ((hm t (by (first | lia | omega))).mul (hc t (by (first | lia | omega)) i hi))).le (by (first | lia | omega))

theorem moved_ok (T : Top5 c) {n m : Nat} {y mv : Nat → Rat} {cols : Nat → Nat → Rat} (hn : n ≤ 5) (hm3 : m ≤ 3) (hy : ∀ i, i < n → Sz 3 (y i)) (hm : ∀ j, j < m → Sz 3 (mv j)) (hc : ∀ j, j < m → ∀ i, i < n → Sz 3 (cols j i)) :
    Ok c 7 "_law_moved" [.d (vec n y), .d (mat n m cols), .d (vec m mv)] (.d (vec n (mvd y mv cols m))) := by
  refine Ok.of (n := 6) T.moved (by rfl) fun A g s R S => ?_
  have S0 : StE c (fscope 35) g [("y", .d (vec n y)), ("columns", .d (mat n m cols)), ("moves", .d (vec m mv))] {} s := S.sub (.cons (by rfl) (.cons (by rfl) (.cons (by rfl) .nil)))
  refine x_for (IT.range1 (EV.colLen (m := m) EV.name T.len (by (first | lia | omega))) (by (first | lia | omega)) T.range) R S0 (.inr (by rfl)) (fun t => [("y", .d (vec n (mvd y mv cols t))), ("columns", .d (mat n m cols)), ("moves", .d (vec m mv))]) (fun _ => {}) (.cons (by rfl) (.cons (by rfl) (.cons (by rfl) .nil))) rfl ?_ ?_
  · intro t d hd g' s he h0 hM hsub S
    obtain ⟨ht, rfl⟩ := rng1 hd
    refine x_asg (EV.comp [("y", .d (vec n (mvd y mv cols t))), ("columns", .d (mat n m cols)), ("moves", .d (vec m mv)), ("c", .d (.int t))] (rs := vecL n (mvd y mv cols (t + 1))) (IT.range1 (EV.vecLen (f := mvd y mv cols t) EV.name T.len (by (first | lia | omega))) (by (first | lia | omega)) T.range) (fun i d hd => ?_) (by rw [rng_len]; simp [vecL]) (fre_cons (by rfl) (by rfl) (fre_cons (by rfl) (by rfl) (fre_cons (by rfl) (by rfl) (fre_cons (by rfl) (by rfl) fre_nil)))) (by rw [rng_len]; (first | lia | omega))) R S (.inr (by rfl)) (fun s S => x_nil ⟨rfl, ?_⟩) (by intro env h; cases env; cases h; rfl)
    · obtain ⟨hi, rfl⟩ := rng1 hd
      refine ⟨_, vec_at (f := mvd y mv cols (t + 1)) hi, ?_⟩
      refine EV.call' (plus_ok T (mvd_sz hy hm hc t (by (first | lia | omega)) i hi) ((hm t ht).mul (hc t ht i hi)) (by (first | lia | omega))) (EVs.two (EV.vecAt EV.name EV.name hi (by (first | lia | omega))) (EV.call' (by_ok T (hm t ht) (hc t ht i hi) (by (first | lia | omega))) (EVs.two (EV.vecAt EV.name EV.name ht (by (first | lia | omega))) (EV.vecAt (EV.item (ds := (List.range m).map fun j => vec n (cols j)) EV.name EV.name iz0 (i62 ht (n3z hm3)) (mat_at ht)) EV.name hi (by (first | lia | omega))))))
    · exact S.sub (.cons (by rfl) (.cons (by rfl) (.cons (by rfl) .nil)))
  · intro s S
    rw [rng_len] at S
    exact x_retOk EV.name R S
end Mine

namespace Mine
open PySem

theorem snoc_ind {α : Type} {P : List α → Prop} (h0 : P []) (h1 : ∀ l a, P l → P (l ++ [a])) (l : List α) : P l := by
  have : ∀ l : List α, P l.reverse := fun l => by
    induction l with
    | nil => exact h0
    | cons a l ih => rw [List.reverse_cons]; exact h1 _ _ ih
  rw [← List.reverse_reverse l]; exact this _
theorem sm_congr {F G : Nat → Rat} : ∀ {k : Nat}, (∀ i, i < k → F i = G i) → sm k F = sm k G
  | 0, _ => rfl
  | k + 1, h => by show sm k F + F k = sm k G + G k; rw [sm_congr fun i hi => h i (by (first | lia | omega)), h k (by (first | lia | omega))]
theorem sm_add (F G : Nat → Rat) : ∀ k : Nat, sm k (fun i => F i + G i) = sm k F + sm k G
  | 0 => by show (0 : Rat) = 0 + 0; grind
  | k + 1 => by show sm k _ + _ = sm k F + F k + (sm k G + G k); rw [sm_add F G k]; grind
theorem sm_mul (a : Rat) (F : Nat → Rat) : ∀ k : Nat, sm k (fun i => a * F i) = a * sm k F
  | 0 => by show (0 : Rat) = a * 0; grind
  | k + 1 => by show sm k _ + _ = a * (sm k F + F k); rw [sm_mul a F k]; grind
theorem sm_zero (k : Nat) {F : Nat → Rat} (h : ∀ i, i < k → F i = 0) : sm k F = 0 := by
  induction k with
  | zero => rfl
  | succ k ih => show sm k F + F k = 0; rw [ih fun i hi => h i (by (first | lia | omega)), h k (by (first | lia | omega))]; grind
theorem sm_sub (F G : Nat → Rat) (k : Nat) : sm k (fun i => F i - G i) = sm k F - sm k G := by
  have := sm_add F (fun i => (-1) * G i) k
  rw [sm_mul] at this
  rw [show (fun i => F i - G i) = fun i => F i + (-1) * G i by funext i; grind, this]; grind
/-- swapping a triangular double sum -/
theorem sm_swap (F : Nat → Nat → Rat) : ∀ r : Nat, sm r (fun k => sm k (fun u => F k u)) = sm r (fun u => sm (r - 1 - u) (fun t => F (u + 1 + t) u))
  | 0 => rfl
  | r + 1 => by
    show sm r _ + sm r (fun u => F r u) = sm r _ + sm (r + 1 - 1 - r) _
    rw [sm_swap F r, show r + 1 - 1 - r = 0 by (first | lia | omega), ← sm_add]
    show _ = _ + (0 : Rat)
    rw [Rat.add_zero]
    refine sm_congr fun u hu => ?_
    rw [show r + 1 - 1 - u = (r - 1 - u) + 1 by (first | lia | omega)]
    show _ = sm (r - 1 - u) _ + F (u + 1 + (r - 1 - u)) u
    rw [show u + 1 + (r - 1 - u) = r by (first | lia | omega)]

theorem dot_congr {n : Nat} {f f' g g' : Nat → Rat} (h1 : ∀ i, i < n → f i = f' i) (h2 : ∀ i, i < n → g i = g' i) : dot n f g = dot n f' g' := sm_congr fun i hi => by rw [h1 i hi, h2 i hi]
theorem dot_comm (n : Nat) (f g : Nat → Rat) : dot n f g = dot n g f := sm_congr fun i _ => Rat.mul_comm _ _
theorem dot_add (n : Nat) (f g h : Nat → Rat) : dot n (fun i => f i + g i) h = dot n f h + dot n g h := by
  unfold dot
  rw [← sm_add]; exact sm_congr fun i _ => by grind
theorem dot_mul (n : Nat) (a : Rat) (f h : Nat → Rat) : dot n (fun i => a * f i) h = a * dot n f h := by
  unfold dot
  rw [← sm_mul]; exact sm_congr fun i _ => by grind
theorem dot_lin (n : Nat) (a : Rat) (f g h : Nat → Rat) : dot n (fun i => f i - a * g i) h = dot n f h - a * dot n g h := by
  unfold dot
  rw [← sm_mul, ← sm_sub]; exact sm_congr fun i _ => by grind
theorem dot_zero (n : Nat) {f : Nat → Rat} (g : Nat → Rat) (h : ∀ i, i < n → f i = 0) : dot n f g = 0 := sm_zero n fun i hi => by rw [h i hi]; grind
theorem sq_nonneg (q : Rat) : 0 ≤ q * q := by
  by_cases h : 0 ≤ q
  · exact Rat.mul_nonneg h h
  · have h' : 0 ≤ -q := by grind
    have := Rat.mul_nonneg h' h'
    grind
theorem sm_nonneg {F : Nat → Rat} : ∀ {k : Nat}, (∀ i, i < k → 0 ≤ F i) → 0 ≤ sm k F
  | 0, _ => by show (0 : Rat) ≤ 0; grind
  | k + 1, h => by have h1 := sm_nonneg (k := k) fun i hi => h i (by (first | lia | omega)); have h2 := h k (by (first | lia | omega)); show (0 : Rat) ≤ sm k F + F k; grind
theorem sm_nonneg_zero {F : Nat → Rat} : ∀ {k : Nat}, (∀ i, i < k → 0 ≤ F i) → sm k F = 0 → ∀ i, i < k → F i = 0
  | 0, _, _, i, hi => by (first | lia | omega)
  | k + 1, h, e, i, hi => by
    have h1 := sm_nonneg (k := k) fun i hi => h i (by (first | lia | omega))
    have h2 := h k (by (first | lia | omega))
    have e' : sm k F + F k = 0 := e
    have z1 : sm k F = 0 := by grind
    have z2 : F k = 0 := by grind
    by_cases q : i = k
    · rw [q]; exact z2
    · exact sm_nonneg_zero (fun i hi => h i (by (first | lia | omega))) z1 i (by (first | lia | omega))
theorem dot_self_nonneg (n : Nat) (f : Nat → Rat) : 0 ≤ dot n f f := sm_nonneg fun i _ => sq_nonneg _
theorem dot_self_zero {n : Nat} {f : Nat → Rat} (h : dot n f f = 0) (i : Nat) (hi : i < n) : f i = 0 := by
  have := sm_nonneg_zero (fun i _ => sq_nonneg (f i)) h i hi
  rcases Rat.mul_eq_zero.mp this with q | q <;> exact q
end Mine

namespace Mine
open PySem

/-! orthogonal rows -/
structure Orth (n : Nat) (G : List Row) : Prop where
  pw : G.Pairwise fun a b => dot n a.base b.base = 0
  nz : ∀ r ∈ G, dot n r.base r.base ≠ 0
theorem Orth.snoc {n : Nat} {G : List Row} {r : Row} (h : Orth n (G ++ [r])) : Orth n G ∧ (∀ a ∈ G, dot n a.base r.base = 0) ∧ dot n r.base r.base ≠ 0 := by
  obtain ⟨h1, h2⟩ := h
  rw [List.pairwise_append] at h1
  exact ⟨⟨h1.1, fun a m => h2 a (List.mem_append_left _ m)⟩, fun a m => h1.2.2 a m r (by simp), h2 r (by simp)⟩
theorem coef_self {n : Nat} {b : Nat → Rat} (h : dot n b b ≠ 0) : coef n b b = 1 := by unfold coef; grind
theorem dot_stp (n : Nat) (w b x : Nat → Rat) : dot n (stp n w b) x = dot n w x - coef n w b * dot n b x := dot_lin ..
theorem dot_stp_self {n : Nat} {w b : Nat → Rat} (h : dot n b b ≠ 0) : dot n (stp n w b) b = 0 := by
  rw [dot_stp]; unfold coef; grind
theorem redV_orth {n : Nat} (v : Nat → Rat) : ∀ G : List Row, Orth n G → ∀ r ∈ G, dot n (redV n G v) r.base = 0 := by
  refine snoc_ind (fun _ r m => by simp at m) fun G a ih h r m => ?_
  obtain ⟨h1, h2, h3⟩ := h.snoc
  rw [redV_snoc]
  rcases List.mem_append.mp m with m | m
  · rw [dot_stp, ih h1 r m, dot_comm n a.base, h2 r m]; grind
  · rw [List.mem_singleton.mp m]; exact dot_stp_self h3
theorem gs_orth (n : Nat) (cols : Nat → Nat → Rat) : ∀ p, Orth n (gs n cols p)
  | 0 => ⟨.nil, fun r m => by simp [gs] at m⟩
  | p + 1 => by
    have ih := gs_orth n cols p
    unfold gs
    split
    · exact ih
    · rename_i h0
      refine ⟨List.pairwise_append.mpr ⟨ih.pw, List.pairwise_singleton _ _, fun a m b m' => ?_⟩, fun r m => ?_⟩
      · rw [List.mem_singleton.mp m', dot_comm]; exact redV_orth _ _ ih a m
      · rcases List.mem_append.mp m with m | m
        · exact ih.nz r m
        · rw [List.mem_singleton.mp m]; exact h0

/-! reduction is linear, and depends on the rows of v below n alone -/
theorem coef_congr {n : Nat} {w w' b b' : Nat → Rat} (h1 : ∀ i, i < n → w i = w' i) (h2 : ∀ i, i < n → b i = b' i) : coef n w b = coef n w' b' := by
  unfold coef; rw [dot_congr h1 h2, dot_congr h2 h2]
theorem redV_congr {n : Nat} {v v' : Nat → Rat} (h : ∀ i, i < n → v i = v' i) : ∀ G : List Row, ∀ i, i < n → redV n G v i = redV n G v' i := by
  refine snoc_ind h fun G a ih i hi => ?_
  rw [redV_snoc, redV_snoc]
  show _ - _ * _ = _ - _ * _
  rw [ih i hi, coef_congr ih fun _ _ => rfl]
theorem redV_lin {n : Nat} (a : Rat) (v w : Nat → Rat) : ∀ G : List Row, ∀ i, redV n G (fun i => v i + a * w i) i = redV n G v i + a * redV n G w i := by
  refine snoc_ind (fun _ => rfl) fun G r ih i => ?_
  rw [redV_snoc, redV_snoc, redV_snoc]
  have e : redV n G (fun i => v i + a * w i) = fun i => redV n G v i + a * redV n G w i := funext ih
  rw [e]
  have ec : coef n (fun i => redV n G v i + a * redV n G w i) r.base = coef n (redV n G v) r.base + a * coef n (redV n G w) r.base := by
    unfold coef; rw [dot_add, dot_mul]; grind
  show _ - _ * _ = _ - _ * _ + a * (_ - _ * _)
  rw [ec]; grind
theorem redV_zero {n : Nat} {v : Nat → Rat} (h : ∀ i, i < n → v i = 0) : ∀ G : List Row, ∀ i, i < n → redV n G v i = 0 := by
  refine snoc_ind h fun G a ih i hi => ?_
  rw [redV_snoc]
  show _ - dot n _ _ / _ * _ = _
  rw [ih i hi, dot_zero n a.base ih]; grind
theorem redV_append (n : Nat) (G G' : List Row) (v : Nat → Rat) : redV n (G ++ G') v = redV n G' (redV n G v) := by simp [redV]
theorem gs_prefix (n : Nat) (cols : Nat → Nat → Rat) (p : Nat) : ∀ q, p ≤ q → ∃ G', gs n cols q = gs n cols p ++ G'
  | 0, h => ⟨[], by have : p = 0 := by (first | lia | omega)
                    rw [this]; simp⟩
  | q + 1, h => by
    by_cases e : p = q + 1
    · exact ⟨[], by rw [e]; simp⟩
    · obtain ⟨G', hG⟩ := gs_prefix n cols p q (by (first | lia | omega))
      have eq : gs n cols (q + 1) = if dot n (redV n (gs n cols q) (cols q)) (redV n (gs n cols q) (cols q)) = 0 then gs n cols q else gs n cols q ++ [⟨q, redV n (gs n cols q) (cols q), redS n (gs n cols q) (cols q)⟩] := rfl
      rw [eq]
      split
      · exact ⟨G', hG⟩
      · exact ⟨G' ++ [⟨q, redV n (gs n cols q) (cols q), redS n (gs n cols q) (cols q)⟩], by rw [← List.append_assoc, ← hG]⟩
theorem redV_col {n : Nat} {cols : Nat → Nat → Rat} {m j : Nat} (hj : j < m) : ∀ i, i < n → redV n (gs n cols m) (cols j) i = 0 := by
  obtain ⟨G', hG⟩ := gs_prefix n cols (j + 1) m hj
  have ho := gs_orth n cols (j + 1)
  rw [hG, redV_append]
  refine redV_zero ?_ G'
  intro i hi
  unfold gs at ho ⊢
  split
  · rename_i h0
    exact dot_self_zero h0 i hi
  · rename_i h0
    rw [if_neg h0] at ho
    rw [redV_snoc]
    show _ - coef n _ _ * _ = _
    rw [coef_self h0]; grind

/-! v is its remainder plus what was taken -/
theorem redV_sum (n : Nat) (v : Nat → Rat) : ∀ G : List Row, ∀ i, v i = redV n G v i + sm G.length (fun u => (redS n G v).getD u 0 * ((G[u]?).map fun r => r.base i).getD 0) := by
  refine snoc_ind (fun i => ?_) fun G r ih i => ?_
  · show v i = v i + (0 : Rat); grind
  · rw [List.length_append, List.length_singleton]
    show v i = _ + (sm G.length _ + (redS n (G ++ [r]) v).getD G.length 0 * (((G ++ [r])[G.length]?).map fun r => r.base i).getD 0)
    have e1 : (redS n (G ++ [r]) v).getD G.length 0 = coef n (redV n G v) r.base := by
      rw [redS_snoc, List.getD_eq_getElem?_getD, List.getElem?_append_right (by rw [redS_len]; exact Nat.le_refl _), redS_len, Nat.sub_self]; rfl
    have e2 : (((G ++ [r])[G.length]?).map fun r => r.base i).getD 0 = r.base i := by
      rw [List.getElem?_append_right (Nat.le_refl _), Nat.sub_self]; rfl
    have e3 : sm G.length (fun u => (redS n (G ++ [r]) v).getD u 0 * (((G ++ [r])[u]?).map fun r => r.base i).getD 0) = sm G.length (fun u => (redS n G v).getD u 0 * ((G[u]?).map fun r => r.base i).getD 0) := by
      refine sm_congr fun u hu => ?_
      rw [redS_snoc, List.getD_eq_getElem?_getD, List.getD_eq_getElem?_getD, List.getElem?_append_left (by rw [redS_len]; exact hu), List.getElem?_append_left hu]
    rw [e1, e2, e3, redV_snoc]
    have := ih i
    show v i = (redV n G v i - coef n (redV n G v) r.base * r.base i) + _
    grind
end Mine

namespace Mine
open PySem

noncomputable def pv (G : List Row) (k : Nat) : Nat := ((G[k]?).map fun r => r.piv).getD 0
noncomputable def bs (G : List Row) (k : Nat) : Nat → Rat := fun i => ((G[k]?).map fun r => r.base i).getD 0
theorem bs_at {G : List Row} {k : Nat} {r : Row} (h : G[k]? = some r) : bs G k = r.base := by funext i; unfold bs; rw [h]; rfl
theorem pv_at {G : List Row} {k : Nat} {r : Row} (h : G[k]? = some r) : pv G k = r.piv := by unfold pv; rw [h]; rfl
theorem shF_at {G : List Row} {k u : Nat} {r : Row} (h : G[k]? = some r) : shF G k u = r.share.getD u 0 := by unfold shF; rw [h]; rfl
theorem row_at {G : List Row} {k : Nat} (h : k < G.length) : ∃ r, G[k]? = some r := ⟨G[k], List.getElem?_eq_getElem h⟩

theorem gs_row (n : Nat) (cols : Nat → Nat → Rat) : ∀ (m k : Nat) (r : Row), (gs n cols m)[k]? = some r → r.base = redV n ((gs n cols m).take k) (cols r.piv) ∧ r.share = redS n ((gs n cols m).take k) (cols r.piv)
  | 0, k, r, h => by simp [gs] at h
  | m + 1, k, r, h => by
    have eq : gs n cols (m + 1) = if dot n (redV n (gs n cols m) (cols m)) (redV n (gs n cols m) (cols m)) = 0 then gs n cols m else gs n cols m ++ [⟨m, redV n (gs n cols m) (cols m), redS n (gs n cols m) (cols m)⟩] := rfl
    rw [eq] at h ⊢
    split at h
    · rename_i h0
      rw [if_pos h0]; exact gs_row n cols m k r h
    · rename_i h0
      rw [if_neg h0]
      by_cases q : k < (gs n cols m).length
      · rw [List.getElem?_append_left q] at h
        rw [List.take_append_of_le_length (by (first | lia | omega))]
        exact gs_row n cols m k r h
      · have hk : k = (gs n cols m).length := by
          have := (List.getElem?_eq_some_iff.mp h).1
          simp at this; (first | lia | omega)
        rw [List.getElem?_append_right (by (first | lia | omega)), hk, Nat.sub_self] at h
        have : r = ⟨m, redV n (gs n cols m) (cols m), redS n (gs n cols m) (cols m)⟩ := (Option.some.inj h).symm
        rw [this, hk, List.take_left]
        exact ⟨rfl, rfl⟩

theorem sm_single {F : Nat → Rat} {k : Nat} : ∀ {r : Nat}, k < r → (∀ i, i < r → i ≠ k → F i = 0) → sm r F = F k
  | 0, h, _ => by (first | lia | omega)
  | r + 1, h, hz => by
    show sm r F + F r = _
    by_cases q : k = r
    · rw [sm_zero r fun i hi => hz i (by (first | lia | omega)) (by (first | lia | omega)), q]; grind
    · rw [sm_single (r := r) (by (first | lia | omega)) fun i hi => hz i (by (first | lia | omega)), hz r (by (first | lia | omega)) (by (first | lia | omega))]; grind
theorem dot_sm (n : Nat) (g : Nat → Rat) (c : Nat → Rat) (f : Nat → Nat → Rat) : ∀ k : Nat, dot n (fun i => sm k fun t => c t * f t i) g = sm k fun t => c t * dot n (f t) g
  | 0 => dot_zero n g fun _ _ => rfl
  | k + 1 => by
    show dot n (fun i => sm k (fun t => c t * f t i) + c k * f k i) g = sm k _ + c k * dot n (f k) g
    rw [dot_add, dot_sm n g c f k, dot_mul]

section
variable {n m : Nat} {cols : Nat → Nat → Rat}
theorem col_sum {k : Nat} (hk : k < (gs n cols m).length) (i : Nat) : cols (pv (gs n cols m) k) i = bs (gs n cols m) k i + sm k fun u => shF (gs n cols m) k u * bs (gs n cols m) u i := by
  obtain ⟨r, hr⟩ := row_at hk
  obtain ⟨h1, h2⟩ := gs_row n cols m k r hr
  have := redV_sum n (cols r.piv) ((gs n cols m).take k) i
  rw [pv_at hr, bs_at hr, h1, this]
  congr 1
  rw [List.length_take, Nat.min_eq_left (by (first | lia | omega))]
  refine sm_congr fun u hu => ?_
  rw [shF_at hr, h2, List.getElem?_take_of_lt hu]; rfl
theorem bs_orth {j k : Nat} (hj : j < (gs n cols m).length) (hk : k < (gs n cols m).length) (h : j ≠ k) : dot n (bs (gs n cols m) j) (bs (gs n cols m) k) = 0 := by
  have ho := gs_orth n cols m
  rw [bs_at (List.getElem?_eq_getElem hj), bs_at (List.getElem?_eq_getElem hk)]
  rcases Nat.lt_or_gt_of_ne h with q | q
  · exact List.pairwise_iff_getElem.mp ho.pw j k hj hk q
  · rw [dot_comm]; exact List.pairwise_iff_getElem.mp ho.pw k j hk hj q
theorem bs_nz {k : Nat} (hk : k < (gs n cols m).length) : dot n (bs (gs n cols m) k) (bs (gs n cols m) k) ≠ 0 := by
  rw [bs_at (List.getElem?_eq_getElem hk)]; exact (gs_orth n cols m).nz _ (List.getElem_mem hk)
theorem col_dot {j k : Nat} (hj : j < (gs n cols m).length) (hk : k < (gs n cols m).length) (h : j ≤ k) : dot n (cols (pv (gs n cols m) j)) (bs (gs n cols m) k) = if j = k then dot n (bs (gs n cols m) k) (bs (gs n cols m) k) else 0 := by
  rw [show cols (pv (gs n cols m) j) = fun i => bs (gs n cols m) j i + sm j fun u => shF (gs n cols m) j u * bs (gs n cols m) u i from funext (col_sum hj), dot_add, dot_sm]
  rw [sm_zero j fun u hu => by rw [bs_orth (by (first | lia | omega)) hk (by (first | lia | omega))]; grind]
  by_cases e : j = k
  · rw [if_pos e, e]; grind
  · rw [if_neg e, bs_orth hj hk e]; grind
/-- the columns in use are independent -/
theorem indep {w : Nat → Rat} (h : ∀ i, i < n → sm (gs n cols m).length (fun k => w k * cols (pv (gs n cols m) k) i) = 0) : ∀ e, e ≤ (gs n cols m).length → ∀ k, k < (gs n cols m).length → (gs n cols m).length ≤ k + e → w k = 0
  | 0, _, k, h1, h2 => by (first | lia | omega)
  | e + 1, he, k, h1, h2 => by
    by_cases q : (gs n cols m).length ≤ k + e
    · exact indep h e (by (first | lia | omega)) k h1 q
    · have hd : dot n (fun i => sm (gs n cols m).length (fun k => w k * cols (pv (gs n cols m) k) i)) (bs (gs n cols m) k) = 0 := dot_zero n _ h
      rw [dot_sm, sm_single (k := k) h1 fun j hj hne => ?_, col_dot h1 h1 (Nat.le_refl _), if_pos rfl] at hd
      · rcases Rat.mul_eq_zero.mp hd with z | z
        · exact z
        · exact absurd z (bs_nz h1)
      · rcases Nat.lt_or_gt_of_ne hne with z | z
        · rw [col_dot hj h1 (by (first | lia | omega)), if_neg (by (first | lia | omega))]; grind
        · rw [indep h e (by (first | lia | omega)) j hj (by (first | lia | omega))]; grind

/-! back substitution solves the triangle -/
theorem bo_old (sh : Nat → Nat → Rat) (r : Nat) (st : Nat → Rat) : ∀ i k, k + i < r → bo sh r st i k = st k
  | 0, _, _ => rfl
  | i + 1, k, h => by
    show upd sh (bo sh r st i) (r - 1 - i) i k = _
    unfold upd; rw [if_neg (by omega)]; exact bo_old sh r st i k (by omega)
theorem bo_keep (sh : Nat → Nat → Rat) (r : Nat) (st : Nat → Rat) (i : Nat) : ∀ d k, k < r → r ≤ k + i → i + d ≤ r → bo sh r st (i + d) k = bo sh r st i k
  | 0, _, _, _, _ => rfl
  | d + 1, k, h, h2, h3 => by
    show upd sh (bo sh r st (i + d)) (r - 1 - (i + d)) (i + d) k = _
    unfold upd; rw [if_neg (by omega)]; exact bo_keep sh r st i d k h h2 (by omega)
theorem bo_solves (sh : Nat → Nat → Rat) (r : Nat) (st : Nat → Rat) {k : Nat} (hk : k < r) : st k = bo sh r st r k + sm (r - 1 - k) fun t => sh (k + 1 + t) k * bo sh r st r (k + 1 + t) := by
  have e1 : bo sh r st r k = bo sh r st (r - 1 - k + 1) k := by
    have := bo_keep sh r st (r - 1 - k + 1) k k hk (by omega) (by omega)
    rwa [show r - 1 - k + 1 + k = r by omega] at this
  have e2 : bo sh r st (r - 1 - k + 1) k = st k - sm (r - 1 - k) fun t => sh (k + 1 + t) k * bo sh r st (r - 1 - k) (k + 1 + t) := by
    show upd sh (bo sh r st (r - 1 - k)) (r - 1 - (r - 1 - k)) (r - 1 - k) k = _
    rw [show r - 1 - (r - 1 - k) = k by omega]
    unfold upd; rw [if_pos rfl, bo_old sh r st (r - 1 - k) k (by omega)]
  have e3 : sm (r - 1 - k) (fun t => sh (k + 1 + t) k * bo sh r st (r - 1 - k) (k + 1 + t)) = sm (r - 1 - k) fun t => sh (k + 1 + t) k * bo sh r st r (k + 1 + t) := by
    refine sm_congr fun t ht => ?_
    have := bo_keep sh r st (r - 1 - k) (k + 1) (k + 1 + t) (by omega) (by omega) (by omega)
    rw [show r - 1 - k + (k + 1) = r by omega] at this
    rw [this]
  rw [e1, e2, e3]; grind

/-- the fit: what is left of y is y less the columns in use, each by its number -/
theorem val_sum (y : Nat → Rat) (i : Nat) : sm (rnk n m cols) (fun k => valF n m cols y k * cols (pv (gs n cols m) k) i) = y i - resF n m cols y i := by
  have hB := redV_sum n y (gs n cols m) i
  have e : ∀ k, k < rnk n m cols → valF n m cols y k * cols (pv (gs n cols m) k) i = valF n m cols y k * bs (gs n cols m) k i + sm k fun u => valF n m cols y k * (shF (gs n cols m) k u * bs (gs n cols m) u i) := by
    intro k hk
    rw [col_sum hk, sm_mul]; grind
  rw [sm_congr e, sm_add, sm_swap, ← sm_add]
  have e2 : ∀ u, u < rnk n m cols → valF n m cols y u * bs (gs n cols m) u i + sm (rnk n m cols - 1 - u) (fun t => valF n m cols y (u + 1 + t) * (shF (gs n cols m) (u + 1 + t) u * bs (gs n cols m) u i)) = (redS n (gs n cols m) y).getD u 0 * bs (gs n cols m) u i := by
    intro u hu
    have hs : (redS n (gs n cols m) y).getD u 0 = valF n m cols y u + sm (rnk n m cols - 1 - u) fun t => shF (gs n cols m) (u + 1 + t) u * valF n m cols y (u + 1 + t) := bo_solves (shF (gs n cols m)) (rnk n m cols) (stF n m cols y) hu
    rw [hs]
    have e3 : sm (rnk n m cols - 1 - u) (fun t => valF n m cols y (u + 1 + t) * (shF (gs n cols m) (u + 1 + t) u * bs (gs n cols m) u i)) = bs (gs n cols m) u i * sm (rnk n m cols - 1 - u) fun t => shF (gs n cols m) (u + 1 + t) u * valF n m cols y (u + 1 + t) := by
      rw [← sm_mul]; exact sm_congr fun t _ => by grind
    rw [e3]; grind
  rw [sm_congr e2]
  have hB' : y i = resF n m cols y i + sm (rnk n m cols) fun u => (redS n (gs n cols m) y).getD u 0 * bs (gs n cols m) u i := hB
  rw [hB']; grind
theorem val_uniq {y w : Nat → Rat} (h : ∀ i, i < n → sm (rnk n m cols) (fun k => w k * cols (pv (gs n cols m) k) i) = y i - resF n m cols y i) {k : Nat} (hk : k < rnk n m cols) : w k = valF n m cols y k := by
  have := indep (n := n) (m := m) (cols := cols) (w := fun k => w k - valF n m cols y k) (fun i hi => by
    have e : sm (gs n cols m).length (fun k => (w k - valF n m cols y k) * cols (pv (gs n cols m) k) i) = sm (rnk n m cols) (fun k => w k * cols (pv (gs n cols m) k) i - valF n m cols y k * cols (pv (gs n cols m) k) i) := sm_congr fun k _ => by grind
    rw [e, sm_sub, h i hi, val_sum]; grind) (gs n cols m).length (Nat.le_refl _) k hk (by (first | lia | omega))
  grind
end
end Mine

namespace Mine
open PySem

theorem cf_map {G G' : List Row} {vals vals' : Nat → Rat} {φ : Nat → Rat → Rat} (hp : G'.map (·.piv) = G.map (·.piv)) (j : Nat) : ∀ t, (∀ k, k < t → k < G.length → vals' k = φ (pv G k) (vals k)) → cf G' vals' t j = (cf G vals t j).map (φ j)
  | 0, _ => rfl
  | t + 1, hv => by
    have ih := cf_map (φ := φ) hp j t fun k hk => hv k (by (first | lia | omega))
    have h1 : (G'[t]?).map (·.piv) = (G[t]?).map (·.piv) := by rw [← List.getElem?_map, ← List.getElem?_map, hp]
    unfold cf
    cases e : G[t]? with
    | none =>
      rw [e] at h1
      cases e' : G'[t]? with
      | none => exact ih
      | some r' => rw [e'] at h1; cases h1
    | some r =>
      rw [e] at h1
      cases e' : G'[t]? with
      | none => rw [e'] at h1; cases h1
      | some r' =>
        rw [e'] at h1
        have h2 : r'.piv = r.piv := Option.some.inj h1
        simp only [h2]
        by_cases q : j = r.piv
        · rw [if_pos q, if_pos q, hv t (by (first | lia | omega)) (List.getElem?_eq_some_iff.mp e).1, pv_at e, q]; rfl
        · rw [if_neg q, if_neg q]; exact ih

theorem redV_smul {n : Nat} (a : Rat) (w : Nat → Rat) : ∀ G : List Row, ∀ i, redV n G (fun i => a * w i) i = a * redV n G w i := by
  refine snoc_ind (fun _ => rfl) fun G r ih i => ?_
  rw [redV_snoc, redV_snoc]
  have e : redV n G (fun i => a * w i) = fun i => a * redV n G w i := funext ih
  rw [e]
  have ec : coef n (fun i => a * redV n G w i) r.base = a * coef n (redV n G w) r.base := by
    unfold coef; rw [dot_mul]; grind
  show _ - _ * _ = _ * (_ - _ * _)
  rw [ec]; grind

/-! 1: a response moved by the columns in use -/
theorem mvd_eq (y mv : Nat → Rat) (cols : Nat → Nat → Rat) (i : Nat) : ∀ t, mvd y mv cols t i = y i + sm t fun j => mv j * cols j i
  | 0 => by show y i = y i + (0 : Rat); grind
  | t + 1 => by
    show mvd y mv cols t i + mv t * cols t i = y i + (sm t (fun j => mv j * cols j i) + mv t * cols t i)
    rw [mvd_eq y mv cols i t]; grind
section
variable {n m : Nat} {cols : Nat → Nat → Rat} {y : Nat → Rat}
theorem res_moved {mv : Nat → Rat} : ∀ t, t ≤ m → ∀ i, i < n → redV n (gs n cols m) (mvd y mv cols t) i = resF n m cols y i
  | 0, _, i, _ => rfl
  | t + 1, ht, i, hi => by
    have e : mvd y mv cols (t + 1) = fun i => mvd y mv cols t i + mv t * cols t i := rfl
    rw [e, redV_lin, res_moved t (by (first | lia | omega)) i hi, redV_col (by (first | lia | omega)) i hi]; grind
theorem piv_sum (n : Nat) (cols : Nat → Nat → Rat) (F : Nat → Rat) : ∀ m, (∀ j, j < m → j ∉ (gs n cols m).map (·.piv) → F j = 0) → sm (gs n cols m).length (fun k => F (pv (gs n cols m) k)) = sm m F
  | 0, _ => rfl
  | m + 1, h => by
    have eq : gs n cols (m + 1) = if dot n (redV n (gs n cols m) (cols m)) (redV n (gs n cols m) (cols m)) = 0 then gs n cols m else gs n cols m ++ [⟨m, redV n (gs n cols m) (cols m), redS n (gs n cols m) (cols m)⟩] := rfl
    have hlt : ∀ j, j ∈ (gs n cols m).map (·.piv) → j < m := fun j hj => by
      obtain ⟨r, hr, rfl⟩ := List.mem_map.mp hj
      obtain ⟨k, hk⟩ := List.mem_iff_getElem?.mp hr
      exact gs_piv n cols m k r hk
    rw [eq] at h ⊢
    by_cases h0 : dot n (redV n (gs n cols m) (cols m)) (redV n (gs n cols m) (cols m)) = 0
    · rw [if_pos h0] at h ⊢
      rw [piv_sum n cols F m fun j hj q => h j (by (first | lia | omega)) q]
      show _ = sm m F + F m
      rw [h m (by (first | lia | omega)) fun q => Nat.lt_irrefl _ (hlt m q)]; grind
    · rw [if_neg h0] at h ⊢
      rw [List.length_append, List.length_singleton]
      show sm (gs n cols m).length _ + F (pv (gs n cols m ++ [_]) (gs n cols m).length) = sm m F + F m
      have e1 : pv (gs n cols m ++ [⟨m, redV n (gs n cols m) (cols m), redS n (gs n cols m) (cols m)⟩]) (gs n cols m).length = m := by
        unfold pv; rw [List.getElem?_append_right (Nat.le_refl _), Nat.sub_self]; rfl
      rw [e1, ← piv_sum n cols F m fun j hj q => h j (by (first | lia | omega)) fun q' => by
        rw [List.map_append, List.mem_append] at q'
        rcases q' with q' | q'
        · exact q q'
        · simp at q'; (first | lia | omega)]
      congr 1
      refine sm_congr fun k hk => ?_
      unfold pv; rw [List.getElem?_append_left hk]
theorem co_moved {mv : Nat → Rat} (hmv : ∀ j, j < m → j ∉ (gs n cols m).map (·.piv) → mv j = 0) (j : Nat) : coF n m cols (mvd y mv cols m) j = (coF n m cols y j).map (· + mv j) := by
  refine cf_map (φ := fun j q => q + mv j) rfl j (rnk n m cols) fun k hk _ => ?_
  refine (val_uniq (w := fun k => valF n m cols y k + mv (pv (gs n cols m) k)) (fun i hi => ?_) hk).symm
  have e : sm (rnk n m cols) (fun k => (valF n m cols y k + mv (pv (gs n cols m) k)) * cols (pv (gs n cols m) k) i) = sm (rnk n m cols) (fun k => valF n m cols y k * cols (pv (gs n cols m) k) i + mv (pv (gs n cols m) k) * cols (pv (gs n cols m) k) i) := sm_congr fun k _ => by grind
  have e2 := piv_sum n cols (fun j => mv j * cols j i) m fun j hj q => by show mv j * _ = _; rw [hmv j hj q]; grind
  have e3 : resF n m cols (mvd y mv cols m) i = resF n m cols y i := res_moved m (Nat.le_refl _) i hi
  have e4 : sm (rnk n m cols) (fun k => mv (pv (gs n cols m) k) * cols (pv (gs n cols m) k) i) = sm m fun j => mv j * cols j i := e2
  rw [e, sm_add, val_sum, e4, e3, mvd_eq]; grind

/-! 2: a response times a factor; the response 0 -/
theorem res_scaled (s : Rat) (i : Nat) : resF n m cols (fun i => y i * s) i = resF n m cols y i * s := by
  have := redV_smul (n := n) s y (gs n cols m) i
  have e : (fun i => y i * s) = fun i => s * y i := by funext i; grind
  unfold resF
  rw [e, this]; grind
theorem co_scaled (s : Rat) (j : Nat) : coF n m cols (fun i => y i * s) j = (coF n m cols y j).map (· * s) := by
  refine cf_map (φ := fun _ q => q * s) rfl j (rnk n m cols) fun k hk _ => ?_
  refine (val_uniq (w := fun k => valF n m cols y k * s) (fun i hi => ?_) hk).symm
  have e : sm (rnk n m cols) (fun k => valF n m cols y k * s * cols (pv (gs n cols m) k) i) = sm (rnk n m cols) (fun k => s * (valF n m cols y k * cols (pv (gs n cols m) k) i)) := sm_congr fun k _ => by grind
  rw [e, sm_mul, val_sum, res_scaled]; grind
theorem res_nought {z : Nat → Rat} (hz : ∀ i, i < n → z i = 0) (i : Nat) (hi : i < n) : resF n m cols z i = 0 := redV_zero hz _ i hi
theorem co_nought {z : Nat → Rat} (hz : ∀ i, i < n → z i = 0) (j : Nat) : coF n m cols z j = (coF n m cols y j).map fun _ => 0 := by
  refine cf_map (φ := fun _ _ => 0) rfl j (rnk n m cols) fun k hk _ => ?_
  refine (val_uniq (w := fun k => 0) (fun i hi => ?_) hk).symm
  rw [res_nought hz i hi, hz i hi, sm_zero]
  · grind
  · intro k _; grind
end

/-! 3: a column times a factor -/
noncomputable def lam (spot : Nat) (s : Rat) (j : Nat) : Rat := if j = spot then s else 1
noncomputable def scl (spot : Nat) (s : Rat) (cols : Nat → Nat → Rat) : Nat → Nat → Rat := fun j i => lam spot s j * cols j i
noncomputable def bas2 (G : List Row) : List (Nat × (Nat → Rat)) := G.map fun r => (r.piv, r.base)
theorem redV_bas2 (n : Nat) : ∀ (G : List Row) (v : Nat → Rat), redV n G v = (bas2 G).foldl (fun w r => stp n w r.2) v
  | [], v => rfl
  | r :: G, v => redV_bas2 n G (stp n v r.base)
theorem stp_smul {n : Nat} {a : Rat} (ha : a ≠ 0) (w b : Nat → Rat) : stp n w (fun i => a * b i) = stp n w b := by
  funext i
  have e1 : dot n w (fun i => a * b i) = a * dot n w b := by rw [dot_comm, dot_mul, dot_comm]
  have e2 : dot n (fun i => a * b i) (fun i => a * b i) = a * (a * dot n b b) := by rw [dot_mul, dot_comm, dot_mul]
  show w i - dot n w (fun i => a * b i) / dot n (fun i => a * b i) (fun i => a * b i) * (a * b i) = w i - dot n w b / dot n b b * b i
  rw [e1, e2]
  by_cases h : dot n b b = 0
  · rw [h]; grind
  · grind
theorem fold_scl {n : Nat} {μ : Nat → Rat} (hμ : ∀ j, μ j ≠ 0) : ∀ (l : List (Nat × (Nat → Rat))) (v : Nat → Rat), (l.map fun r => (r.1, fun i => μ r.1 * r.2 i)).foldl (fun w r => stp n w r.2) v = l.foldl (fun w r => stp n w r.2) v
  | [], v => rfl
  | r :: l, v => by
    show (l.map _).foldl _ (stp n v fun i => μ r.1 * r.2 i) = l.foldl _ (stp n v r.2)
    rw [stp_smul (hμ r.1)]; exact fold_scl hμ l _
section
variable {n m : Nat} {cols : Nat → Nat → Rat} {y : Nat → Rat} {spot : Nat} {s : Rat}
theorem lam_nz (hs : s ≠ 0) (j : Nat) : lam spot s j ≠ 0 := by unfold lam; split <;> grind
theorem gs_scl (hs : s ≠ 0) : ∀ p, bas2 (gs n (scl spot s cols) p) = (bas2 (gs n cols p)).map fun r => (r.1, fun i => lam spot s r.1 * r.2 i)
  | 0 => rfl
  | p + 1 => by
    have ih := gs_scl hs p
    have hr : ∀ v, redV n (gs n (scl spot s cols) p) v = redV n (gs n cols p) v := fun v => by rw [redV_bas2, redV_bas2, ih, fold_scl (lam_nz hs)]
    have hb : redV n (gs n (scl spot s cols) p) (scl spot s cols p) = fun i => lam spot s p * redV n (gs n cols p) (cols p) i := by
      rw [hr]; funext i; exact redV_smul ..
    have e2 : dot n (redV n (gs n (scl spot s cols) p) (scl spot s cols p)) (redV n (gs n (scl spot s cols) p) (scl spot s cols p)) = lam spot s p * (lam spot s p * dot n (redV n (gs n cols p) (cols p)) (redV n (gs n cols p) (cols p))) := by
      rw [hb, dot_mul, dot_comm, dot_mul]
    have hl := lam_nz (spot := spot) hs p
    unfold gs
    by_cases h0 : dot n (redV n (gs n cols p) (cols p)) (redV n (gs n cols p) (cols p)) = 0
    · rw [if_pos h0, if_pos (by rw [e2, h0]; grind)]; exact ih
    · rw [if_neg h0, if_neg (by rw [e2]; grind)]
      unfold bas2 at ih ⊢
      rw [List.map_append, List.map_append, List.map_append, ih, hb]; rfl
theorem scl_piv (hs : s ≠ 0) : (gs n (scl spot s cols) m).map (·.piv) = (gs n cols m).map (·.piv) := by
  have := congrArg (List.map Prod.fst) (gs_scl (n := n) (cols := cols) (spot := spot) hs m)
  simpa [bas2, Function.comp_def] using this
theorem scl_len (hs : s ≠ 0) : rnk n m (scl spot s cols) = rnk n m cols := by
  have := congrArg List.length (scl_piv (n := n) (m := m) (cols := cols) (spot := spot) hs)
  simpa [rnk] using this
theorem scl_pv (hs : s ≠ 0) (k : Nat) : pv (gs n (scl spot s cols) m) k = pv (gs n cols m) k := by
  have h := congrArg (fun l => l[k]?) (scl_piv (n := n) (m := m) (cols := cols) (spot := spot) hs)
  unfold pv
  simp only [List.getElem?_map] at h
  rw [h]
theorem res_scl (hs : s ≠ 0) : resF n m (scl spot s cols) y = resF n m cols y := by
  unfold resF; rw [redV_bas2, redV_bas2, gs_scl hs, fold_scl (lam_nz hs)]
theorem co_scl (hs : s ≠ 0) (j : Nat) : coF n m (scl spot s cols) y j = (coF n m cols y j).map fun q => if j = spot then q * s⁻¹ else q := by
  unfold coF
  refine (congrArg (fun t => cf (gs n (scl spot s cols) m) (valF n m (scl spot s cols) y) t j) (scl_len (n := n) (m := m) (cols := cols) (spot := spot) hs)).trans ?_
  refine cf_map (φ := fun j q => if j = spot then q * s⁻¹ else q) (scl_piv hs) j (rnk n m cols) fun k hk _ => ?_
  refine (val_uniq (n := n) (m := m) (cols := scl spot s cols) (y := y) (w := fun k => if pv (gs n cols m) k = spot then valF n m cols y k * s⁻¹ else valF n m cols y k) (fun i hi => ?_) (by rw [scl_len hs]; exact hk)).symm
  rw [scl_len hs, res_scl hs, ← val_sum]
  refine sm_congr fun k _ => ?_
  rw [scl_pv hs]
  unfold scl lam
  by_cases q : pv (gs n cols m) k = spot
  · rw [if_pos q, if_pos q]; grind
  · rw [if_neg q, if_neg q]; grind
end
end Mine

namespace Mine
open PySem

/-! 4: rows in another order -/
noncomputable def prow (π : Nat → Nat) (r : Row) : Row := ⟨r.piv, fun i => r.base (π i), r.share⟩
section
variable {n m : Nat} {cols : Nat → Nat → Rat} {y : Nat → Rat} {π : Nat → Nat}
theorem stp_perm (hd : ∀ f g : Nat → Rat, dot n (fun i => f (π i)) (fun i => g (π i)) = dot n f g) (w b : Nat → Rat) : stp n (fun i => w (π i)) (fun i => b (π i)) = fun i => stp n w b (π i) := by
  funext i; show _ - dot n _ _ / dot n _ _ * _ = _ - dot n _ _ / dot n _ _ * _; rw [hd, hd]
theorem redV_perm (hd : ∀ f g : Nat → Rat, dot n (fun i => f (π i)) (fun i => g (π i)) = dot n f g) : ∀ (G : List Row) (v : Nat → Rat), redV n (G.map (prow π)) (fun i => v (π i)) = fun i => redV n G v (π i)
  | [], v => rfl
  | r :: G, v => by
    show redV n (G.map (prow π)) (stp n (fun i => v (π i)) fun i => r.base (π i)) = _
    rw [stp_perm hd]; exact redV_perm hd G _
theorem redS_perm (hd : ∀ f g : Nat → Rat, dot n (fun i => f (π i)) (fun i => g (π i)) = dot n f g) : ∀ (G : List Row) (v : Nat → Rat), redS n (G.map (prow π)) (fun i => v (π i)) = redS n G v
  | [], v => rfl
  | r :: G, v => by
    show coef n (fun i => v (π i)) (fun i => r.base (π i)) :: redS n (G.map (prow π)) (stp n (fun i => v (π i)) fun i => r.base (π i)) = coef n v r.base :: redS n G _
    rw [stp_perm hd, redS_perm hd G]; unfold coef; rw [hd, hd]
theorem gs_perm (hd : ∀ f g : Nat → Rat, dot n (fun i => f (π i)) (fun i => g (π i)) = dot n f g) : ∀ p, gs n (fun j i => cols j (π i)) p = (gs n cols p).map (prow π)
  | 0 => rfl
  | p + 1 => by
    have ih := gs_perm hd p
    unfold gs
    rw [ih, redV_perm hd, redS_perm hd, hd]
    split
    · rfl
    · rw [List.map_append]; rfl
theorem shF_perm (G : List Row) : shF (G.map (prow π)) = shF G := by
  funext j k
  unfold shF
  rw [List.getElem?_map]
  cases G[j]? <;> rfl
theorem res_perm (hd : ∀ f g : Nat → Rat, dot n (fun i => f (π i)) (fun i => g (π i)) = dot n f g) : resF n m (fun j i => cols j (π i)) (fun i => y (π i)) = fun i => resF n m cols y (π i) := by
  unfold resF; rw [gs_perm hd, redV_perm hd]
theorem co_perm (hd : ∀ f g : Nat → Rat, dot n (fun i => f (π i)) (fun i => g (π i)) = dot n f g) (j : Nat) : coF n m (fun j i => cols j (π i)) (fun i => y (π i)) j = coF n m cols y j := by
  have hl : rnk n m (fun j i => cols j (π i)) = rnk n m cols := by unfold rnk; rw [gs_perm hd, List.length_map]
  have hst : stF n m (fun j i => cols j (π i)) (fun i => y (π i)) = stF n m cols y := by funext k; unfold stF; rw [gs_perm hd, redS_perm hd]
  have hv : valF n m (fun j i => cols j (π i)) (fun i => y (π i)) = valF n m cols y := by unfold valF; rw [hl, hst, gs_perm hd, shF_perm]
  unfold coF
  rw [hl, hv]
  have := cf_map (G := gs n cols m) (G' := gs n (fun j i => cols j (π i)) m) (vals := valF n m cols y) (vals' := valF n m cols y) (φ := fun _ q => q) (by rw [gs_perm hd, List.map_map]; rfl) j (rnk n m cols) fun k _ _ => rfl
  rw [this]
  cases cf (gs n cols m) (valF n m cols y) (rnk n m cols) j <;> rfl
end

noncomputable def lsum : List Rat → Rat
  | [] => 0
  | a :: l => a + lsum l
theorem lsum_append : ∀ a b : List Rat, lsum (a ++ b) = lsum a + lsum b
  | [], b => by show lsum b = 0 + lsum b; grind
  | x :: a, b => by show x + lsum (a ++ b) = x + lsum a + lsum b; rw [lsum_append a b]; grind
theorem lsum_rev : ∀ a : List Rat, lsum a.reverse = lsum a
  | [] => rfl
  | x :: a => by rw [List.reverse_cons, lsum_append, lsum_rev a]; show lsum a + (x + 0) = x + lsum a; grind
theorem lsum_range (F : Nat → Rat) : ∀ n, lsum ((List.range n).map F) = sm n F
  | 0 => rfl
  | n + 1 => by rw [List.range_succ, List.map_append, lsum_append, lsum_range F n]; show _ + (F n + 0) = _ + F n; grind
/-- the order of the rows in the law -/
noncomputable def ord (n a : Nat) : List Nat := (((List.range n).drop a) ++ ((List.range n).take a)).reverse
theorem ord_len {n a : Nat} (h : a ≤ n) : (ord n a).length = n := by simp [ord]; (first | lia | omega)
theorem ord_lt {n a : Nat} : ∀ x ∈ ord n a, x < n := fun x hx => by
  unfold ord at hx
  rw [List.mem_reverse, List.mem_append] at hx
  rcases hx with hx | hx
  · exact List.mem_range.mp (List.mem_of_mem_drop hx)
  · exact List.mem_range.mp (List.mem_of_mem_take hx)
noncomputable def ordF (n a : Nat) (i : Nat) : Nat := (ord n a).getD i 0
theorem ord_map {n a : Nat} (h : a ≤ n) : (List.range n).map (ordF n a) = ord n a := by
  apply List.ext_getElem?
  intro i
  by_cases hi : i < n
  · have : i < (ord n a).length := by rw [ord_len h]; exact hi
    rw [List.getElem?_map, List.getElem?_range hi, List.getElem?_eq_getElem this]
    simp [ordF, this]
  · rw [List.getElem?_eq_none (by simp; (first | lia | omega)), List.getElem?_eq_none (by rw [ord_len h]; (first | lia | omega))]
theorem ordF_lt {n a i : Nat} (h : a ≤ n) (hi : i < n) : ordF n a i < n := by
  have : i < (ord n a).length := by rw [ord_len h]; exact hi
  unfold ordF
  rw [List.getD_eq_getElem?_getD, List.getElem?_eq_getElem this]
  exact ord_lt _ (List.getElem_mem this)
theorem ord_dot {n a : Nat} (h : a ≤ n) (f g : Nat → Rat) : dot n (fun i => f (ordF n a i)) (fun i => g (ordF n a i)) = dot n f g := by
  have e : (List.range n).map (fun i => f (ordF n a i) * g (ordF n a i)) = (ord n a).map fun j => f j * g j := by rw [← ord_map h, List.map_map]; rfl
  show sm n (fun i => f (ordF n a i) * g (ordF n a i)) = sm n fun i => f i * g i
  rw [← lsum_range, e, ← lsum_range]
  unfold ord
  rw [List.map_reverse, lsum_rev, List.map_append, lsum_append, Rat.add_comm, ← lsum_append, ← List.map_append, List.take_append_drop]

/-! 5: one more column -/
section
variable {n m : Nat} {cols cols' : Nat → Nat → Rat} {y : Nat → Rat}
theorem gs_congr (h : ∀ j, j < m → cols' j = cols j) : ∀ p, p ≤ m → gs n cols' p = gs n cols p
  | 0, _ => rfl
  | p + 1, hp => by unfold gs; rw [gs_congr h p (by (first | lia | omega)), h p (by (first | lia | omega))]
theorem more_gs (h : ∀ j, j < m → cols' j = cols j) : gs n cols' (m + 1) = gs n cols m ∨ ∃ r : Row, r.piv = m ∧ gs n cols' (m + 1) = gs n cols m ++ [r] ∧ dot n r.base r.base ≠ 0 := by
  have eq : gs n cols' (m + 1) = if dot n (redV n (gs n cols' m) (cols' m)) (redV n (gs n cols' m) (cols' m)) = 0 then gs n cols' m else gs n cols' m ++ [⟨m, redV n (gs n cols' m) (cols' m), redS n (gs n cols' m) (cols' m)⟩] := rfl
  rw [gs_congr h m (Nat.le_refl _)] at eq
  rw [eq]
  split
  · exact .inl rfl
  · rename_i h0; exact .inr ⟨_, rfl, rfl, h0⟩
theorem more_rss (h : ∀ j, j < m → cols' j = cols j) : dot n (resF n (m + 1) cols' y) (resF n (m + 1) cols' y) ≤ dot n (resF n m cols y) (resF n m cols y) := by
  unfold resF
  rcases more_gs (n := n) h with e | ⟨r, _, e, h0⟩
  · rw [e]; exact Rat.le_refl
  · rw [e, redV_snoc, dot_stp, dot_comm n _ (stp n _ _), dot_stp, dot_comm n r.base (stp n _ _), dot_stp_self h0]
    generalize redV n (gs n cols m) y = w
    have h1 : coef n w r.base * dot n r.base w = coef n w r.base * coef n w r.base * dot n r.base r.base := by
      rw [dot_comm n r.base w]; unfold coef; grind
    have h2 := Rat.mul_nonneg (sq_nonneg (coef n w r.base)) (dot_self_nonneg n r.base)
    grind
end
end Mine

namespace Mine
open PySem PySem.W PySem.Calls PyProof.Rows PySem.Spec PySem.Challenge PySem.SeqAt
variable {c : Cx}
structure Top6 (c : Cx) : Prop extends Top5 c where
  law : Def c "law" 36 []

theorem flat_q (q : Rat) : flatD (q2d q) = true := by
  unfold flatD q2d
  simp [PyData.canLay0, PyData.canLayAll0, PyData.depth, PyData.depthAll]
theorem flat_o (o : Option Rat) : flatD (optD o) = true := by
  cases o with
  | none => rfl
  | some q => exact flat_q q
theorem shaped_q (q : Rat) : shaped (q2d q) = true := by
  unfold shaped q2d
  simp [PyData.canLay0, PyData.canLayAll0, PyData.depth, PyData.depthAll]
theorem shaped_optL (m : Nat) (f : Nat → Option Rat) : shaped (.list (optL m f)) = true := shaped_list fun d hd => by
  obtain ⟨j, _, rfl⟩ := List.mem_map.mp hd
  exact flat_o _
theorem shaped_vec (n : Nat) (f : Nat → Rat) : shaped (vec n f) = true := shaped_list fun d hd => by
  obtain ⟨j, _, rfl⟩ := List.mem_map.mp hd
  exact flat_q _

section
variable {sc : Scope} {X : Res} {n : Nat} {ρ : Rho}
/-- two things that are the same datum do not differ -/
theorem TV.ne {a b : Expr} {pos : Pos} {p q : PyData} (ha : EV c sc X n ρ a (.d p)) (hb : EV c sc X n ρ b (.d q)) (e : p = q) (hs : shaped q = true) (hm : behindInMarks .NotEq b = false := by with_unfolding_all rfl) : TV c sc X n ρ (.Compare a [.NotEq] [b] pos) false :=
  TV.cmpO (EV.cast ha (by rw [e])) hb (CmpOk.neS hs) hm
end

/-! sizes of what a fit gives -/
theorem co_sz {n m : Nat} {cols : Nat → Nat → Rat} {y : Nat → Rat} (hn : n ≤ 5) (hm : m ≤ 4) (hc : ∀ j, j < m → ∀ i, i < n → Sz 24 (cols j i)) (hy : ∀ i, i < n → Sz 24 (y i)) (j : Nat) : OSz 34416447 (coF n m cols y j) := by
  have hG := gs_bd hn hm hc (p := m) (Nat.le_refl _)
  have hl := gs_len n cols m
  have hst : ∀ k, k < rnk n m cols → Sz (20 * tau k + 12) (stF n m cols y k) := fun k hk => by
    have := redS_sz hn hG hy (Nat.le_refl _)
    rw [List.take_length] at this
    refine this k _ ?_
    unfold stF
    have hk' : k < (gs n cols m).length := hk
    rw [List.getD_eq_getElem?_getD, List.getElem?_eq_getElem (by rw [redS_len]; exact hk')]; rfl
  have hs : ∀ j, j < rnk n m cols → ∀ k, k < j → Sz (20 * tau k + 12) (shF (gs n cols m) j k) := fun j hj k hk => by
    have hj' : j < (gs n cols m).length := hj
    obtain ⟨w, hw⟩ := row_at hj'
    obtain ⟨_, _, h3, h4⟩ := hG j w hw
    rw [shF_at hw]
    refine h4 k _ ?_
    rw [List.getD_eq_getElem?_getD, List.getElem?_eq_getElem (by (first | lia | omega))]; rfl
  have hb := bo_bd (r := rnk n m cols) (by unfold rnk; (first | lia | omega)) hst hs (rnk n m cols) (Nat.le_refl _)
  have hv : ∀ k, k < rnk n m cols → Sz 34416447 (valF n m cols y k) := fun k hk => ((hb k hk).2 (by (first | lia | omega))).le (Bb_mono k (by unfold rnk at hk; (first | lia | omega)) 0 (by (first | lia | omega)) (by (first | lia | omega)))
  unfold coF
  generalize valF n m cols y = vals at hv
  have : ∀ t, t ≤ rnk n m cols → OSz 34416447 (cf (gs n cols m) vals t j) := by
    intro t
    induction t with
    | zero => intro _; exact trivial
    | succ t ih =>
      intro ht
      unfold cf
      cases (gs n cols m)[t]? with
      | none => exact ih (by (first | lia | omega))
      | some r =>
        dsimp only
        split
        · exact hv t (by (first | lia | omega))
        · exact ih (by (first | lia | omega))
  exact this _ (Nat.le_refl _)
theorem res_sz {n m : Nat} {cols : Nat → Nat → Rat} {y : Nat → Rat} (hn : n ≤ 5) (hm : m ≤ 4) (hc : ∀ j, j < m → ∀ i, i < n → Sz 24 (cols j i)) (hy : ∀ i, i < n → Sz 24 (y i)) {k : Nat} (hk : m ≤ k) : ∀ i, i < n → Sz (tau k) (resF n m cols y i) := fun i hi => by
  have hG := gs_bd hn hm hc (p := m) (Nat.le_refl _)
  have hl := gs_len n cols m
  have := redV_sz hn hG hy (Nat.le_refl _) i hi
  rw [List.take_length] at this
  exact this.le (tau_mono (by (first | lia | omega)))

section
variable {sc : Scope} {X : Res} {k : Nat} {ρ : Rho} {n m : Nat} {cols : Nat → Nat → Rat} {y : Nat → Rat}
theorem EV.coefs (T : Top6 c) {x : Str} {px pa pl pos : Pos} (hm : m ≤ 4) (hx : ρ.lookup x = some (.ob (fitD n m cols y)) := by rfl) (hk : sc.names.lookup ("list" : Str) = some .globalImplicit := by rfl) (hd : (x == ("__debug__" : Str)) = false := by rfl) (hn : (x == ("__classdict__" : Str)) = false := by rfl) :
    EV c sc X k ρ (.Call (.Name "list" pl) [.Attribute (.Name x px) "coefficients" pa] [] pos) (.d (.list (optL m (coF n m cols y)))) :=
  EV.listOf (EV.attr (EV.name hx hd hn) (by rfl) (T.no _)) T.list (by simp [optL]; (first | lia | omega)) hk
theorem EV.resids (T : Top6 c) {x : Str} {px pa pl pos : Pos} (hn5 : n ≤ 5) (hx : ρ.lookup x = some (.ob (fitD n m cols y)) := by rfl) (hk : sc.names.lookup ("list" : Str) = some .globalImplicit := by rfl) (hd : (x == ("__debug__" : Str)) = false := by rfl) (hn : (x == ("__classdict__" : Str)) = false := by rfl) :
    EV c sc X k ρ (.Call (.Name "list" pl) [.Attribute (.Name x px) "residuals" pa] [] pos) (.d (vec n (resF n m cols y))) :=
  EV.listOf (EV.attr (EV.name hx hd hn) (by rfl) (T.no _)) T.list (by simp; omega) hk
theorem EV.rss (T : Top6 c) {x : Str} {px pr pos : Pos} (hk9 : 9 ≤ k) (hn5 : n ≤ 5) (hm : m ≤ 4) (hc : ∀ j, j < m → ∀ i, i < n → Sz 24 (cols j i)) (hy : ∀ i, i < n → Sz 24 (y i)) (hx : ρ.lookup x = some (.ob (fitD n m cols y)) := by rfl) (hk : sc.names.lookup ("rss" : Str) = some .globalImplicit := by rfl) (hd : (x == ("__debug__" : Str)) = false := by rfl) (hn : (x == ("__classdict__" : Str)) = false := by rfl) :
    EV c sc X k ρ (.Call (.Name "rss" pr) [.Name x px] [] pos) (.d (q2d (dot n (resF n m cols y) (resF n m cols y)))) := by
  have hm5 := mul5 hn5 (Nat.le_refl (5767159 + 5767159 + 1))
  have hs := res_sz hn5 hm hc hy hm
  rw [tau4] at hs
  exact EV.call' (rss_ok T.toTop2 (fs := fitD n m cols y) (by rfl) (by rfl) (T.no _) (T.no _) hs (by omega) (by omega)) (EVs.one (EV.name hx hd hn)) hk9 hk
end
end Mine

namespace Mine
open PySem PySem.W PySem.Calls PyProof.Rows PySem.Spec PySem.Challenge PySem.SeqAt
variable {c : Cx}

/-- what stands after the first fit -/
noncomputable def rho1 (xs : List Int) (n m : Nat) (cols : Nat → Nat → Rat) (y : Nat → Rat) : Rho :=
  [("beta", .d (.list (optL m (coF n m cols y)))), ("base_fit", .ob (fitD n m cols y)), ("y", .d (vec n y)), ("columns", .d (mat n m cols)), ("wide", .d (.int m)), ("many", .d (.int n)), ("script", .d (scD xs))]

theorem law_a (T : Top6 c) (xs : List Int) (hx : xs.length ≤ 1000) {g : Fm} {Q : Flow → Shared → Prop}
    (h : ∀ n m cols y, 1 ≤ n → n ≤ 5 → m ≤ 3 → (∀ j i, Sz 3 (cols j i)) → (∀ i, Sz 3 (y i)) → TR c (fscope 36) g 19 {} (rho1 xs n m cols y) ((fbody 36).drop 6) Q) :
    TR c (fscope 36) g 19 {} [("script", .d (scD xs))] (fbody 36) Q := by
  have a1 := Int.fmod_lt_of_pos (cellZ xs 0) (show (0 : Int) < 5 by decide)
  have a0 := Int.fmod_nonneg_of_pos (cellZ xs 0) (show (0 : Int) < 5 by decide)
  have b1 := Int.fmod_lt_of_pos (cellZ xs 1) (show (0 : Int) < 4 by decide)
  have b0 := Int.fmod_nonneg_of_pos (cellZ xs 1) (show (0 : Int) < 4 by decide)
  obtain ⟨n, hn⟩ := Int.eq_ofNat_of_zero_le (show 0 ≤ 1 + (cellZ xs 0).fmod 5 by (first | lia | omega))
  obtain ⟨m, hm⟩ := Int.eq_ofNat_of_zero_le b0
  have hn5 : n ≤ 5 := by (first | lia | omega)
  have hm3 : m ≤ 3 := by (first | lia | omega)
  refine t_asg (EV.cast (EV.add EV.cint (EV.mod (EV.call' (cell_ok T.toTop5 xs 0 (by (first | lia | omega)) hx) (EVs.two EV.name EV.cint)) EV.cint (by decide))) (d' := .d (.int n)) (by rw [hn])) (.inr (by rfl)) ?_
  refine t_asg (EV.cast (EV.mod (EV.call' (cell_ok T.toTop5 xs 1 (by (first | lia | omega)) hx) (EVs.two EV.name EV.cint)) EV.cint (by decide)) (d' := .d (.int m)) (by rw [hm])) (.inl (by rfl)) ?_
  refine t_asgComp (y := "c") (ds := rng 0 1 m) (rs := (List.range m).map fun j => vec n fun i => smallF xs (2 + 5 * j + i)) [("script", .d (scD xs)), ("many", .d (.int n))] (IT.range1 EV.name (by (first | lia | omega)) T.range) (fun j d hd => ?_) (by rw [rng_len]; simp) (fre_cons (by rfl) (by rfl) (fre_cons (by rfl) (by rfl) fre_nil)) (by rw [rng_len]; (first | lia | omega)) (by rfl) ?_ (by intro env h; cases env; cases h; rfl)
  · obtain ⟨hj, rfl⟩ := rng1 hd
    refine ⟨_, mat_at (cols := fun j i => smallF xs (2 + 5 * j + i)) hj, ?_⟩
    refine EV.comp (ds := rng 0 1 n) [("script", .d (scD xs)), ("c", .d (.int j))] (rs := vecL n fun i => smallF xs (2 + 5 * j + i)) (IT.range1 EV.name (by (first | lia | omega)) T.range) (fun i d hd => ?_) (by rw [rng_len]; simp [vecL]) (fre_cons (by rfl) (by rfl) (fre_cons (by rfl) (by rfl) fre_nil)) (by rw [rng_len]; (first | lia | omega))
    obtain ⟨hi, rfl⟩ := rng1 hd
    refine ⟨_, vec_at (f := fun i => smallF xs (2 + 5 * j + i)) hi, ?_⟩
    refine EV.call' (small_ok T.toTop5 xs (2 + 5 * j + i) (by (first | lia | omega)) hx) (EVs.two EV.name (EV.cast (EV.add (EV.add EV.cint (EV.mul EV.cint EV.name (mulOk (a := 3) (b := 3) (by decide) (by simp; (first | lia | omega)) (by decide)))) EV.name) (by norm_cast)))
  refine t_asg (EV.comp (ds := rng 0 1 n) [("script", .d (scD xs))] (rs := vecL n fun i => smallF xs (17 + i)) (IT.range1 EV.name (by (first | lia | omega)) T.range) (fun i d hd => ?_) (by rw [rng_len]; simp [vecL]) (fre_cons (by rfl) (by rfl) fre_nil) (by rw [rng_len]; (first | lia | omega))) (.inr (by rfl)) ?_ (by intro env h; cases env; cases h; rfl)
  · obtain ⟨hi, rfl⟩ := rng1 hd
    refine ⟨_, vec_at (f := fun i => smallF xs (17 + i)) hi, ?_⟩
    exact EV.call' (small_ok T.toTop5 xs (17 + i) (by (first | lia | omega)) hx) (EVs.two EV.name (EV.cast (EV.add EV.cint EV.name) (by norm_cast)))
  have hc : ∀ j i, Sz 3 (smallF xs (2 + 5 * j + i)) := fun j i => smallF_sz xs _
  have hy : ∀ i, Sz 3 (smallF xs (17 + i)) := fun i => smallF_sz xs _
  refine t_sub (ρ' := [("y", .d (vec n fun i => smallF xs (17 + i))), ("columns", .d (mat n m fun j i => smallF xs (2 + 5 * j + i))), ("wide", .d (.int m)), ("many", .d (.int n)), ("script", .d (scD xs))]) (.cons (by rfl) (.cons (by rfl) (.cons (by rfl) (.cons (by rfl) (.cons (by rfl) .nil))))) ?_
  generalize hcols : (fun (j : Nat) (i : Nat) => smallF xs (2 + 5 * j + i)) = cols
  generalize hyy : (fun i : Nat => smallF xs (17 + i)) = y
  have hc' : ∀ j i, Sz 3 (cols j i) := fun j i => by rw [← hcols]; exact hc j i
  have hy' : ∀ i, Sz 3 (y i) := fun i => by rw [← hyy]; exact hy i
  refine t_asg (EV.call' (fit_ok (n := n) (m := m) (cols := cols) (y := y) T.toTop4 hn5 (by (first | lia | omega)) (fun j _ i _ => (hc' j i).le (by (first | lia | omega))) (fun i _ => (hy' i).le (by (first | lia | omega)))) (EVs.two EV.name EV.name)) (.inr (by rfl)) ?_
  refine t_asg (EV.coefs (n := n) (m := m) (cols := cols) (y := y) T (by (first | lia | omega))) (.inr (by rfl)) ?_
  exact t_sub (.cons (by rfl) (.cons (by rfl) (.cons (by rfl) (.cons (by rfl) (.cons (by rfl) (.cons (by rfl) (.cons (by rfl) .nil))))))) (h n m cols y (by (first | lia | omega)) hn5 hm3 hc' hy')
end Mine

set_option maxHeartbeats 4000000
namespace Mine
open PySem PySem.W PySem.Calls PyProof.Rows PySem.Spec PySem.Challenge PySem.SeqAt
variable {c : Cx}

noncomputable def pivZ (G : List Row) : List Int := G.map fun r => (r.piv : Int)
theorem pivZ_eq (G : List Row) : (G.map fun r => PyData.int r.piv) = (pivZ G).map .int := by simp [pivZ, Function.comp_def]
theorem pivZ_mem (G : List Row) (j : Nat) : (pivZ G).contains (j : Int) = decide (j ∈ G.map (·.piv)) := by
  rw [Bool.eq_iff_iff]
  simp only [pivZ, List.contains_eq_mem, List.mem_map, decide_eq_true_eq]
  exact exists_congr fun a => and_congr_right fun _ => by (first | lia | omega)
noncomputable def mvF (xs : List Int) (n m : Nat) (cols : Nat → Nat → Rat) (j : Nat) : Rat := if j ∈ (gs n cols m).map (·.piv) then smallF xs (22 + j) else 0
theorem mvF_sz (xs : List Int) (n m : Nat) (cols : Nat → Nat → Rat) (j : Nat) : Sz 3 (mvF xs n m cols j) := by
  unfold mvF
  split
  · exact smallF_sz _ _
  · exact ⟨by decide, by decide⟩

theorem law_b (T : Top6 c) (xs : List Int) (hx : xs.length ≤ 1000) {n m : Nat} {cols : Nat → Nat → Rat} {y : Nat → Rat} (hn5 : n ≤ 5) (hm3 : m ≤ 3) (hc : ∀ j i, Sz 3 (cols j i)) (hy : ∀ i, Sz 3 (y i)) {g : Fm} {Q : Flow → Shared → Prop}
    (h : TR c (fscope 36) g 19 {} (rho1 xs n m cols y) ((fbody 36).drop 10) Q) :
    TR c (fscope 36) g 19 {} (rho1 xs n m cols y) ((fbody 36).drop 6) Q := by
  have hc24 : ∀ j, j < m → ∀ i, i < n → Sz 24 (cols j i) := fun j _ i _ => (hc j i).le (by (first | lia | omega))
  have hy24 : ∀ i, i < n → Sz 24 (y i) := fun i _ => (hy i).le (by (first | lia | omega))
  refine t_asg (EV.comp (ds := rng 0 1 m) [("script", .d (scD xs)), ("base_fit", .ob (fitD n m cols y))] (rs := vecL m (mvF xs n m cols)) (IT.range1 EV.name (by (first | lia | omega)) T.range) (fun j d hd => ?_) (by rw [rng_len]; simp [vecL]) (fre_cons (by rfl) (by rfl) (fre_cons (by rfl) (by rfl) fre_nil)) (by rw [rng_len]; (first | lia | omega))) (.inr (by rfl)) ?_ (by intro env h; cases env; cases h; rfl)
  · obtain ⟨hj, rfl⟩ := rng1 hd
    refine ⟨_, vec_at (f := mvF xs n m cols) hj, ?_⟩
    unfold mvF
    by_cases q : j ∈ (gs n cols m).map (·.piv)
    · rw [if_pos q]
      exact EV.ifT ((TV.cmpO EV.name (EV.cast (EV.attr EV.name (by rfl) (T.no _)) (d' := .d (.list ((pivZ (gs n cols m)).map .int))) (by rw [pivZ_eq])) CmpOk.inL).cast (by rw [pivZ_mem]; exact decide_eq_true q)) (EV.call' (small_ok T.toTop5 xs (22 + j) (by (first | lia | omega)) hx) (EVs.two EV.name (EV.cast (EV.add EV.cint EV.name) (by norm_cast))))
    · rw [if_neg q]
      exact EV.ifF ((TV.cmpO EV.name (EV.cast (EV.attr EV.name (by rfl) (T.no _)) (d' := .d (.list ((pivZ (gs n cols m)).map .int))) (by rw [pivZ_eq])) CmpOk.inL).cast (by rw [pivZ_mem]; exact decide_eq_false q)) (EV.cast (EV.tup2 EV.cint EV.cint) (by rfl))
  have hmv : ∀ j, Sz 3 (mvF xs n m cols j) := mvF_sz xs n m cols
  have hmv0 : ∀ j, j < m → j ∉ (gs n cols m).map (·.piv) → mvF xs n m cols j = 0 := fun j _ q => by unfold mvF; rw [if_neg q]
  refine t_sub (ρ' := ("moves", .d (vec m (mvF xs n m cols))) :: rho1 xs n m cols y) (fun _ _ e => e) ?_
  generalize mvF xs n m cols = mv at hmv hmv0 ⊢
  have hy1 : ∀ i, i < n → Sz 24 (mvd y mv cols m i) := fun i hi => (mvd_sz (n := n) (m := m) (fun i _ => hy i) (fun j _ => hmv j) (fun j _ i _ => hc j i) m (Nat.le_refl _) i hi).le (by (first | lia | omega))
  refine t_asg (EV.call' (fit_ok (n := n) (m := m) (cols := cols) (y := mvd y mv cols m) T.toTop4 hn5 (by (first | lia | omega)) hc24 hy1) (EVs.two EV.name (EV.call' (moved_ok (n := n) (m := m) (cols := cols) (y := y) (mv := mv) T.toTop5 hn5 hm3 (fun i _ => hy i) (fun j _ => hmv j) (fun j _ i _ => hc j i)) (EVs.three EV.name EV.name EV.name)))) (.inl (by rfl)) ?_
  have e1 : optL m (coF n m cols (mvd y mv cols m)) = optL m fun j => (coF n m cols y j).map (· + mv j) := by
    unfold optL; exact List.map_congr_left fun j _ => by rw [co_moved hmv0]
  refine t_ifF (TV.ne (EV.coefs (n := n) (m := m) (cols := cols) (y := mvd y mv cols m) T (by (first | lia | omega))) (EV.comp (ds := rng 0 1 m) [("beta", .d (.list (optL m (coF n m cols y)))), ("moves", .d (vec m mv))] (rs := optL m fun j => (coF n m cols y j).map (· + mv j)) (IT.range1 EV.name (by (first | lia | omega)) T.range) (fun j d hd => ?_) (by rw [rng_len]; simp [optL]) (fre_cons (by rfl) (by rfl) (fre_cons (by rfl) (by rfl) fre_nil)) (by rw [rng_len]; (first | lia | omega))) (by rw [e1]) (shaped_optL _ _)) ?_
  · obtain ⟨hj, rfl⟩ := rng1 hd
    refine ⟨_, optL_at hj, ?_⟩
    have hs := co_sz hn5 (by (first | lia | omega)) hc24 hy24 j
    have hat := optL_at (f := coF n m cols y) hj
    generalize coF n m cols y j = o at hs hat ⊢
    cases o with
    | none => exact EV.ifT (TV.cmpO (EV.item (ds := optL m (coF n m cols y)) EV.name EV.name iz0 (i62 hj (n3z hm3)) hat) EV.cnone (CmpOk.isN (p := .none))) EV.cnone
    | some q => exact EV.ifF (TV.cmpO (EV.item (ds := optL m (coF n m cols y)) EV.name EV.name iz0 (i62 hj (n3z hm3)) hat) EV.cnone (CmpOk.isN (p := q2d q))) (EV.call' (plus_ok T.toTop5 hs (hmv j) (by (first | lia | omega))) (EVs.two (EV.item (ds := optL m (coF n m cols y)) EV.name EV.name iz0 (i62 hj (n3z hm3)) hat) (EV.vecAt EV.name EV.name hj (by (first | lia | omega)))))
  have e2 : ∀ i, i < n → resF n m cols (mvd y mv cols m) i = resF n m cols y i := fun i hi => res_moved m (Nat.le_refl _) i hi
  refine t_ifF (TV.orF (TV.ne (EV.resids (n := n) (m := m) (cols := cols) (y := mvd y mv cols m) T hn5) (EV.resids (n := n) (m := m) (cols := cols) (y := y) T hn5) (vec_congr e2) (shaped_vec _ _)) (TV.orF (TV.ne (EV.rss (n := n) (m := m) (cols := cols) (y := mvd y mv cols m) T (by (first | lia | omega)) hn5 (by (first | lia | omega)) hc24 hy1) (EV.rss (n := n) (m := m) (cols := cols) (y := y) T (by (first | lia | omega)) hn5 (by (first | lia | omega)) hc24 hy24) (by rw [dot_congr e2 e2]) (shaped_q _)) TV.or0)) ?_
  exact t_sub (.cons (by rfl) (.cons (by rfl) (.cons (by rfl) (.cons (by rfl) (.cons (by rfl) (.cons (by rfl) (.cons (by rfl) .nil))))))) h
end Mine

set_option maxHeartbeats 4000000
namespace Mine
open PySem PySem.W PySem.Calls PyProof.Rows PySem.Spec PySem.Challenge PySem.SeqAt
variable {c : Cx}

noncomputable def strQ : Nat → Rat
  | 0 => 2
  | 1 => -1
  | 2 => 1 / 3
  | _ => -5 / 2
theorem strQ_sz : ∀ k, k < 4 → Sz 3 (strQ k) := by
  have h : ∀ k, k < 4 → (strQ k).num.natAbs < 2 ^ 3 ∧ (strQ k).den < 2 ^ 3 := by decide +kernel
  exact h
theorem strQ_nz : ∀ k, k < 4 → strQ k ≠ 0 := by decide +kernel
noncomputable def menu4 : List PyData := [.tuple [.int 2, .int 1], .tuple [.int (-1), .int 1], .tuple [.int 1, .int 3], .tuple [.int (-5), .int 2]]
theorem menu4_eq : menu4 = (List.range 4).map fun k => q2d (strQ k) := by kernel_rfl
theorem menu4_at {k : Nat} (h : k < 4) : menu4[k]? = some (q2d (strQ k)) := by rw [menu4_eq]; simp [h]

noncomputable def rho2 (xs : List Int) (n m : Nat) (cols : Nat → Nat → Rat) (y : Nat → Rat) (q : Rat) : Rho := ("stretch", .d (q2d q)) :: rho1 xs n m cols y

theorem law_c0 (T : Top6 c) (xs : List Int) (hx : xs.length ≤ 1000) {n m : Nat} {cols : Nat → Nat → Rat} {y : Nat → Rat} {g : Fm} {Q : Flow → Shared → Prop}
    (h : ∀ q, Sz 3 q → q ≠ 0 → TR c (fscope 36) g 19 {} (rho2 xs n m cols y q) ((fbody 36).drop 11) Q) :
    TR c (fscope 36) g 19 {} (rho1 xs n m cols y) ((fbody 36).drop 10) Q := by
  have h1 := Int.fmod_lt_of_pos (cellZ xs 25) (show (0 : Int) < 4 by decide)
  have h0 := Int.fmod_nonneg_of_pos (cellZ xs 25) (show (0 : Int) < 4 by decide)
  have hm := menu4_at (k := ((cellZ xs 25).fmod 4).toNat) (by (first | lia | omega))
  have hs := strQ_sz ((cellZ xs 25).fmod 4).toNat (by (first | lia | omega))
  have hz := strQ_nz ((cellZ xs 25).fmod 4).toNat (by (first | lia | omega))
  generalize hzz : (cellZ xs 25).fmod 4 = z at hm h0 h1 hs hz
  generalize strQ z.toNat = q at hm hs hz
  have h62 : z < 2 ^ 62 := by (first | lia | omega)
  unfold menu4 at hm
  have h := h q
  have hk : canStore (fscope 36) ("stretch" : Str) := .inr (by rfl)
  conv in ((fbody 36).drop 10) => whnf
  with_reducible refine t_asg (d := .d (q2d q)) ?_ hk ?_ ?_
  · with_reducible refine EV.item ?_ ?_ h0 h62 hm ?_
    · exact EV.list4 (EV.tup2 EV.cint EV.cint) (EV.tup2 (EV.neg EV.cint) EV.cint) (EV.tup2 EV.cint EV.cint) (EV.tup2 (EV.neg EV.cint) EV.cint)
    · exact EV.cast (EV.mod (EV.call' (cell_ok T.toTop5 xs 25 (by (first | lia | omega)) hx) (EVs.two EV.name EV.cint)) EV.cint (by decide)) (by rw [hzz])
    · exact fun _ _ => sub_BinOp _ _ _ _ _ _
  · exact h hs hz
  · intro _ _; rfl

theorem law_c (T : Top6 c) (xs : List Int) {n m : Nat} {cols : Nat → Nat → Rat} {y : Nat → Rat} {q : Rat} (hn5 : n ≤ 5) (hm3 : m ≤ 3) (hc : ∀ j i, Sz 3 (cols j i)) (hy : ∀ i, Sz 3 (y i)) (hq : Sz 3 q) {g : Fm} {Q : Flow → Shared → Prop}
    (h : TR c (fscope 36) g 19 {} (rho2 xs n m cols y q) ((fbody 36).drop 14) Q) :
    TR c (fscope 36) g 19 {} (rho2 xs n m cols y q) ((fbody 36).drop 11) Q := by
  have hc24 : ∀ j, j < m → ∀ i, i < n → Sz 24 (cols j i) := fun j _ i _ => (hc j i).le (by (first | lia | omega))
  have hy24 : ∀ i, i < n → Sz 24 (y i) := fun i _ => (hy i).le (by (first | lia | omega))
  have hy2 : ∀ i, i < n → Sz 24 (y i * q) := fun i _ => ((hy i).mul hq).le (by (first | lia | omega))
  have hr := res_sz hn5 (show m ≤ 4 by (first | lia | omega)) hc24 hy24 (k := 3) hm3
  rw [tau3] at hr
  refine t_asg (EV.call' (fit_ok (n := n) (m := m) (cols := cols) (y := fun i => y i * q) T.toTop4 hn5 (by (first | lia | omega)) hc24 hy2) (EVs.two EV.name (EV.call' (scaled_ok (m := n) (f := fun i => some (y i)) T.toTop5 (fun i _ => hy i) hq (by (first | lia | omega)) (by (first | lia | omega))) (EVs.two EV.name EV.name)))) (.inl (by rfl)) ?_
  have e1 : optL m (coF n m cols fun i => y i * q) = optL m fun j => (coF n m cols y j).map (· * q) := by
    unfold optL; exact List.map_congr_left fun j _ => by rw [co_scaled]
  have e2 : (fun i => resF n m cols (fun i => y i * q) i) = fun i => resF n m cols y i * q := funext fun i => res_scaled q i
  have e2' : resF n m cols (fun i => y i * q) = fun i => resF n m cols y i * q := e2
  refine t_ifF (TV.orF (TV.ne (EV.coefs (n := n) (m := m) (cols := cols) (y := fun i => y i * q) T (by (first | lia | omega))) (EV.call' (scaled_ok (m := m) (f := coF n m cols y) T.toTop5 (fun j _ => co_sz hn5 (by (first | lia | omega)) hc24 hy24 j) hq (by (first | lia | omega)) (by (first | lia | omega))) (EVs.two EV.name EV.name)) (by rw [e1]) (shaped_optL _ _))
    (TV.orF (TV.ne (EV.resids (n := n) (m := m) (cols := cols) (y := fun i => y i * q) T hn5) (EV.call' (scaled_ok (m := n) (f := fun i => some (resF n m cols y i)) T.toTop5 hr hq (by (first | lia | omega)) (by (first | lia | omega))) (EVs.two (EV.attr EV.name (by rfl) (T.no _)) EV.name)) (by rw [e2']; rfl) (shaped_optL _ _)) TV.or0)) ?_
  have e3 : dot n (resF n m cols fun i => y i * q) (resF n m cols fun i => y i * q) = dot n (resF n m cols y) (resF n m cols y) * (q * q) := by
    rw [e2', show (fun i => resF n m cols y i * q) = fun i => q * resF n m cols y i from funext fun i => Rat.mul_comm _ _, dot_mul, dot_comm, dot_mul]; grind
  refine t_ifF (TV.ne (EV.rss (n := n) (m := m) (cols := cols) (y := fun i => y i * q) T (by (first | lia | omega)) hn5 (by (first | lia | omega)) hc24 hy2) (EV.call' (by_ok T.toTop5 (dot_sz hn5 hr hr) (hq.mul hq) (by (first | lia | omega))) (EVs.two (EV.rss (n := n) (m := m) (cols := cols) (y := y) T (by (first | lia | omega)) hn5 (by (first | lia | omega)) hc24 hy24) (EV.call' (by_ok T.toTop5 hq hq (by (first | lia | omega))) (EVs.two EV.name EV.name)))) (by rw [e3]) (shaped_q _)) ?_
  exact t_sub (.cons (by rfl) (.cons (by rfl) (.cons (by rfl) (.cons (by rfl) (.cons (by rfl) (.cons (by rfl) (.cons (by rfl) (.cons (by rfl) .nil)))))))) h
end Mine

set_option maxHeartbeats 4000000
namespace Mine
open PySem PySem.W PySem.Calls PyProof.Rows PySem.Spec PySem.Challenge PySem.SeqAt
variable {c : Cx}

theorem inv_sz {q : Rat} (hq : Sz 3 q) (hz : q ≠ 0) : Sz 3 q⁻¹ := by
  rw [Rat.inv_def]
  exact Sz.divInt (fun e => hz (Rat.num_eq_zero.mp e)) (by simpa using hq.2) hq.1
theorem scl_list {n m p : Nat} {q : Rat} {cols : Nat → Nat → Rat} (hp : p < m) : ((List.range m).map fun j => vec n (cols j)).take p ++ [vec n fun i => cols p i * q] ++ ((List.range m).map fun j => vec n (cols j)).drop (p + 1) = (List.range m).map fun j => vec n (scl p q cols j) := by
  have hset : ((List.range m).map fun j => vec n (cols j)).take p ++ [vec n fun i => cols p i * q] ++ ((List.range m).map fun j => vec n (cols j)).drop (p + 1) = ((List.range m).map fun j => vec n (cols j)).set p (vec n fun i => cols p i * q) := by
    rw [List.set_eq_take_append_cons_drop, if_pos (by simpa using hp), List.append_assoc]; rfl
  rw [hset]
  apply List.ext_getElem?
  intro j
  rw [List.getElem?_set]
  by_cases h : p = j
  · subst h
    rw [if_pos rfl, if_pos (by simpa using hp), List.getElem?_map, List.getElem?_range hp]
    show some _ = some _
    rw [vec_congr fun i _ => show cols p i * q = scl p q cols p i by unfold scl lam; rw [if_pos rfl, Rat.mul_comm]]
  · rw [if_neg h]
    by_cases hj : j < m
    · rw [List.getElem?_map, List.getElem?_map, List.getElem?_range hj]
      show some (vec n (cols j)) = some (vec n (scl p q cols j))
      rw [vec_congr fun i _ => show cols j i = scl p q cols j i by unfold scl lam; rw [if_neg (Ne.symm h), Rat.one_mul]]
    · rw [List.getElem?_eq_none (by simp; (first | lia | omega)), List.getElem?_eq_none (by simp; (first | lia | omega))]

theorem law_d (T : Top6 c) (xs : List Int) (hx : xs.length ≤ 1000) {n m : Nat} {cols : Nat → Nat → Rat} {y : Nat → Rat} {q : Rat} (hn5 : n ≤ 5) (hm3 : m ≤ 3) (hc : ∀ j i, Sz 3 (cols j i)) (hy : ∀ i, Sz 3 (y i)) (hq : Sz 3 q) (hqz : q ≠ 0) {g : Fm} {Q : Flow → Shared → Prop}
    (h : TR c (fscope 36) g 19 {} (rho1 xs n m cols y) ((fbody 36).drop 15) Q) :
    TR c (fscope 36) g 19 {} (rho2 xs n m cols y q) ((fbody 36).drop 14) Q := by
  have hc24 : ∀ j, j < m → ∀ i, i < n → Sz 24 (cols j i) := fun j _ i _ => (hc j i).le (by (first | lia | omega))
  have hy24 : ∀ i, i < n → Sz 24 (y i) := fun i _ => (hy i).le (by (first | lia | omega))
  by_cases h0 : 0 < m
  · refine t_ifT {} (rho1 xs n m cols y) ((TV.cmpO EV.name EV.cint CmpOk.gt).cast (by simpa using h0)) ?_ h
    have p1 := Int.fmod_lt_of_pos (cellZ xs 26) (show (0 : Int) < m by (first | lia | omega))
    have p0 := Int.fmod_nonneg_of_pos (cellZ xs 26) (show (0 : Int) < m by (first | lia | omega))
    obtain ⟨p, hp⟩ := Int.eq_ofNat_of_zero_le p0
    have hpm : p < m := by (first | lia | omega)
    refine t_asg (EV.cast (EV.mod (EV.call' (cell_ok T.toTop5 xs 26 (by (first | lia | omega)) hx) (EVs.two EV.name EV.cint)) EV.name (by (first | lia | omega))) (d' := .d (.int p)) (by rw [hp])) (.inr (by rfl)) ?_
    have hc3 : ∀ j, j < m → ∀ i, i < n → Sz 24 (scl p q cols j i) := fun j _ i _ => by
      unfold scl lam
      split
      · exact (hq.mul (hc j i)).le (by (first | lia | omega))
      · rw [Rat.one_mul]; exact (hc j i).le (by (first | lia | omega))
    refine t_asg (EV.call' (fit_ok (n := n) (m := m) (cols := scl p q cols) (y := y) T.toTop4 hn5 (by (first | lia | omega)) hc3 hy24) (EVs.two (EV.cast (EV.addL (EV.addL (EV.sliceTo (ds := (List.range m).map fun j => vec n (cols j)) (i := p) EV.name EV.name rfl (rz (n3z hm3))) (EV.list (ds := [vec n fun i => cols p i * q]) (EVs.one (EV.call' (scaled_ok (m := n) (f := fun i => some (cols p i)) T.toTop5 (fun i _ => hc p i) hq (by (first | lia | omega)) (by (first | lia | omega))) (EVs.two (EV.item (ds := (List.range m).map fun j => vec n (cols j)) EV.name EV.name iz0 (i62 hpm (n3z hm3)) (mat_at hpm)) EV.name)))) (tk_z1 hm3)) (EV.sliceFrom (ds := (List.range m).map fun j => vec n (cols j)) (i := p + 1) EV.name (EV.add EV.name EV.cint) (by norm_cast) (rz (n3z hm3)) (dp_z hpm)) (tk_z2 hm3)) (d' := .d (mat n m (scl p q cols))) (by rw [scl_list hpm]; rfl)) EV.name)) (.inl (by rfl)) ?_
    refine t_asgComp (ds := rng 0 1 m) (rs := optL m fun j => (coF n m cols y j).map fun v => if j = p then v * q⁻¹ else v) [("beta", .d (.list (optL m (coF n m cols y)))), ("spot", .d (.int p)), ("stretch", .d (q2d q))] (IT.range1 EV.name (by (first | lia | omega)) T.range) (fun j d hd => ?_) (by rw [rng_len]; simp [optL]) (fre_cons (by rfl) (by rfl) (fre_cons (by rfl) (by rfl) (fre_cons (by rfl) (by rfl) fre_nil))) (by rw [rng_len]; (first | lia | omega)) (by rfl) ?_ (by intro env h; cases env; cases h; rfl)
    · obtain ⟨hj, rfl⟩ := rng1 hd
      refine ⟨_, optL_at hj, ?_⟩
      have hs := co_sz hn5 (show m ≤ 4 by (first | lia | omega)) hc24 hy24 j
      have hat := optL_at (f := coF n m cols y) hj
      generalize coF n m cols y j = o at hs hat ⊢
      by_cases e : j = p
      · cases o with
        | none => exact EV.ifT (TV.orF ((TV.cmpO EV.name EV.name CmpOk.ne).cast (by simp [e])) (TV.orT (TV.cmpO (EV.item (ds := optL m (coF n m cols y)) EV.name EV.name iz0 (i62 hj (n3z hm3)) hat) EV.cnone (CmpOk.isN (p := .none))))) (EV.item (ds := optL m (coF n m cols y)) EV.name EV.name iz0 (i62 hj (n3z hm3)) hat)
        | some v =>
          have er : optD ((some v).map fun v => if j = p then v * q⁻¹ else v) = q2d (v * q⁻¹) := by rw [Option.map_some, if_pos e]; rfl
          rw [er]
          have hinv := inv_sz hq hqz
          have hred := red_ok T.toTop5 (n := q.den) (d := q.num) fun e => hqz (Rat.num_eq_zero.mp e)
          rw [← Rat.inv_def] at hred
          exact EV.ifF (TV.orF ((TV.cmpO EV.name EV.name CmpOk.ne).cast (by simp [e])) (TV.orF (TV.cmpO (EV.item (ds := optL m (coF n m cols y)) EV.name EV.name iz0 (i62 hj (n3z hm3)) hat) EV.cnone (CmpOk.isN (p := q2d v))) TV.or0)) (EV.call' (by_ok T.toTop5 hs hinv (by (first | lia | omega))) (EVs.two (EV.item (ds := optL m (coF n m cols y)) EV.name EV.name iz0 (i62 hj (n3z hm3)) hat) (EV.call' hred (EVs.two (EV.den (q := q) EV.name) (EV.num (q := q) EV.name)))))
      · have er : (o.map fun v => if j = p then v * q⁻¹ else v) = o := by cases o <;> simp [e]
        rw [er]
        exact EV.ifT (TV.orT ((TV.cmpO EV.name EV.name CmpOk.ne).cast (by simp; (first | lia | omega)))) (EV.item (ds := optL m (coF n m cols y)) EV.name EV.name iz0 (i62 hj (n3z hm3)) hat)
    have e1 : optL m (coF n m (scl p q cols) y) = optL m fun j => (coF n m cols y j).map fun v => if j = p then v * q⁻¹ else v := by
      unfold optL; exact List.map_congr_left fun j _ => by rw [co_scl hqz]
    have e2 : resF n m (scl p q cols) y = resF n m cols y := res_scl hqz
    refine t_ifF (TV.orF (TV.ne (EV.coefs (n := n) (m := m) (cols := scl p q cols) (y := y) T (by (first | lia | omega))) EV.name (by rw [e1]) (shaped_optL _ _))
      (TV.orF (TV.ne (EV.listOf (ds := vecL n fun i => y i - resF n m (scl p q cols) y i) (EV.attr (fs := fitD n m (scl p q cols) y) EV.name (by rfl) (T.no _)) T.list (by simp [vecL]; (first | lia | omega))) (EV.listOf (ds := vecL n fun i => y i - resF n m cols y i) (EV.attr (fs := fitD n m cols y) EV.name (by rfl) (T.no _)) T.list (by simp [vecL]; (first | lia | omega))) (by rw [e2]) (shaped_vec _ _)) TV.or0)) ?_
    exact t_nx (.cons (by rfl) (.cons (by rfl) (.cons (by rfl) (.cons (by rfl) (.cons (by rfl) (.cons (by rfl) (.cons (by rfl) .nil)))))))
  · refine t_ifF ((TV.cmpO EV.name EV.cint CmpOk.gt).cast (by simpa using h0)) ?_
    exact t_sub (.cons (by rfl) (.cons (by rfl) (.cons (by rfl) (.cons (by rfl) (.cons (by rfl) (.cons (by rfl) (.cons (by rfl) .nil))))))) h
end Mine

set_option maxHeartbeats 4000000
namespace Mine
open PySem PySem.W PySem.Calls PyProof.Rows PySem.Spec PySem.Challenge PySem.SeqAt
variable {c : Cx}

noncomputable def ordD (n a : Nat) : List PyData := (List.range n).map fun i => .int (ordF n a i : Nat)
theorem ordD_eq {n a : Nat} (h : a ≤ n) : (rng (a : Int) 1 (n - a) ++ rng 0 1 a).reverse = ordD n a := by
  have e : ordD n a = (ord n a).map fun i => PyData.int (i : Nat) := by rw [← ord_map h, List.map_map]; rfl
  rw [e, ord, List.map_reverse, List.map_append]
  congr 2
  · apply List.ext_getElem?
    intro i
    by_cases hi : i < n - a
    · rw [rng_at hi, List.getElem?_map, List.getElem?_drop, List.getElem?_range (by (first | lia | omega))]
      show some (PyData.int _) = some (PyData.int _)
      congr 2; (first | lia | omega)
    · rw [List.getElem?_eq_none (by rw [rng_len]; (first | lia | omega)), List.getElem?_eq_none (by simp; (first | lia | omega))]
  · apply List.ext_getElem?
    intro i
    by_cases hi : i < a
    · rw [rng_at hi, List.getElem?_map, List.getElem?_take_of_lt hi, List.getElem?_range (by (first | lia | omega))]
      show some (PyData.int _) = some (PyData.int _)
      congr 2; (first | lia | omega)
    · rw [List.getElem?_eq_none (by rw [rng_len]; (first | lia | omega)), List.getElem?_eq_none (by simp; (first | lia | omega))]
theorem ordD_at {n a i : Nat} {d : PyData} (h : (ordD n a)[i]? = some d) : i < n ∧ d = .int (ordF n a i : Nat) := by
  have hi : i < n := by
    have := (List.getElem?_eq_some_iff.mp h).1
    simpa [ordD] using this
  unfold ordD at h
  rw [List.getElem?_map, List.getElem?_range hi] at h
  exact ⟨hi, (Option.some.inj h).symm⟩
theorem mat_at' {n m j : Nat} {cols : Nat → Nat → Rat} {d : PyData} (h : ((List.range m).map fun j => vec n (cols j))[j]? = some d) : j < m ∧ d = vec n (cols j) := by
  have hi : j < m := by
    have := (List.getElem?_eq_some_iff.mp h).1
    simpa using this
  rw [mat_at hi] at h
  exact ⟨hi, (Option.some.inj h).symm⟩

theorem law_e (T : Top6 c) (xs : List Int) (hx : xs.length ≤ 1000) {n m : Nat} {cols : Nat → Nat → Rat} {y : Nat → Rat} (hn1 : 1 ≤ n) (hn5 : n ≤ 5) (hm3 : m ≤ 3) (hc : ∀ j i, Sz 3 (cols j i)) (hy : ∀ i, Sz 3 (y i)) {g : Fm} {Q : Flow → Shared → Prop}
    (h : TR c (fscope 36) g 19 {} (rho1 xs n m cols y) ((fbody 36).drop 19) Q) :
    TR c (fscope 36) g 19 {} (rho1 xs n m cols y) ((fbody 36).drop 15) Q := by
  have a1 := Int.fmod_lt_of_pos (cellZ xs 27) (show (0 : Int) < n by (first | lia | omega))
  have a0 := Int.fmod_nonneg_of_pos (cellZ xs 27) (show (0 : Int) < n by (first | lia | omega))
  obtain ⟨a, ha⟩ := Int.eq_ofNat_of_zero_le a0
  have han : a ≤ n := by (first | lia | omega)
  refine t_asg (EV.cast (EV.mod (EV.call' (cell_ok T.toTop5 xs 27 (by (first | lia | omega)) hx) (EVs.two EV.name EV.cint)) EV.name (by (first | lia | omega))) (d' := .d (.int a)) (by rw [ha])) (.inl (by rfl)) ?_
  refine t_asg (EV.cast (EV.sliceRev (EV.addL (EV.listRange2 (a := (a : Int)) (b := (n : Int)) (k := n - a) EV.name EV.name iz0 (c60 (Nat.le_trans han (n5z hn5))) iz0 (c60 (n5z hn5)) (Int.toNat_sub n a).symm (n20 (Nat.le_trans (Nat.sub_le _ _) (n5z hn5))) T.range T.list) (EV.listRange1 (k := a) EV.name (n20 (Nat.le_trans han (n5z hn5))) T.range T.list) (by simp [rng_len]; (first | lia | omega))) (EV.neg EV.cint) (by simp [rng_len]; (first | lia | omega))) (d' := .d (.list (ordD n a))) (by rw [ordD_eq han])) (.inr (by rfl)) ?_
  have hc4 : ∀ j, j < m → ∀ i, i < n → Sz 24 (cols j (ordF n a i)) := fun j _ i _ => (hc j _).le (by (first | lia | omega))
  have hy4 : ∀ i, i < n → Sz 24 (y (ordF n a i)) := fun i _ => (hy _).le (by (first | lia | omega))
  have hol : (ordD n a).length = n := by simp [ordD]
  refine t_asg (EV.call' (fit_ok (n := n) (m := m) (cols := fun j i => cols j (ordF n a i)) (y := fun i => y (ordF n a i)) T.toTop4 hn5 (by (first | lia | omega)) hc4 hy4) (EVs.two
    (EV.comp (ds := (List.range m).map fun j => vec n (cols j)) [("places_now", .d (.list (ordD n a)))] (rs := (List.range m).map fun j => vec n fun i => cols j (ordF n a i)) (IT.list EV.name) (fun j d hd => ?_) (by simp) (fre_cons (by rfl) (by rfl) fre_nil) (by simp; (first | lia | omega)))
    (EV.comp (ds := ordD n a) [("y", .d (vec n y))] (rs := vecL n fun i => y (ordF n a i)) (IT.list EV.name) (fun i d hd => ?_) (by simp [vecL, hol]) (fre_cons (by rfl) (by rfl) fre_nil) (by (first | lia | omega))))) (.inl (by rfl)) ?_
  · obtain ⟨hj, rfl⟩ := mat_at' hd
    refine ⟨_, mat_at (cols := fun j i => cols j (ordF n a i)) hj, ?_⟩
    refine EV.comp (ds := ordD n a) [("column", .d (vec n (cols j)))] (rs := vecL n fun i => cols j (ordF n a i)) (IT.list EV.name) (fun i d hd => ?_) (by simp [vecL, hol]) (fre_cons (by rfl) (by rfl) fre_nil) (by (first | lia | omega))
    obtain ⟨hi, rfl⟩ := ordD_at hd
    exact ⟨_, vec_at (f := fun i => cols j (ordF n a i)) hi, EV.vecAt (f := cols j) EV.name EV.name (ordF_lt han hi) (by (first | lia | omega))⟩
  · obtain ⟨hi, rfl⟩ := ordD_at hd
    exact ⟨_, vec_at (f := fun i => y (ordF n a i)) hi, EV.vecAt (f := y) EV.name EV.name (ordF_lt han hi) (by (first | lia | omega))⟩
  have e1 : optL m (coF n m (fun j i => cols j (ordF n a i)) fun i => y (ordF n a i)) = optL m (coF n m cols y) := by
    unfold optL; exact List.map_congr_left fun j _ => by rw [co_perm (ord_dot han)]
  have e2 : (resF n m (fun j i => cols j (ordF n a i)) fun i => y (ordF n a i)) = fun i => resF n m cols y (ordF n a i) := res_perm (ord_dot han)
  refine t_ifF (TV.orF (TV.ne (EV.coefs (n := n) (m := m) (cols := fun j i => cols j (ordF n a i)) (y := fun i => y (ordF n a i)) T (by (first | lia | omega))) EV.name (by rw [e1]) (shaped_optL _ _))
    (TV.orF (TV.ne (EV.resids (n := n) (m := m) (cols := fun j i => cols j (ordF n a i)) (y := fun i => y (ordF n a i)) T hn5) (EV.comp (ds := ordD n a) [("base_fit", .ob (fitD n m cols y))] (rs := vecL n fun i => resF n m cols y (ordF n a i)) (IT.list EV.name) (fun i d hd => ?_) (by simp [vecL, hol]) (fre_cons (by rfl) (by rfl) fre_nil) (by (first | lia | omega))) (by rw [e2]; rfl) (shaped_vec _ _)) TV.or0)) ?_
  · obtain ⟨hi, rfl⟩ := ordD_at hd
    exact ⟨_, vec_at (f := fun i => resF n m cols y (ordF n a i)) hi, EV.vecAt (f := resF n m cols y) (EV.attr EV.name (by rfl) (T.no _)) EV.name (ordF_lt han hi) (by (first | lia | omega))⟩
  exact t_sub (.cons (by rfl) (.cons (by rfl) (.cons (by rfl) (.cons (by rfl) (.cons (by rfl) (.cons (by rfl) (.cons (by rfl) .nil))))))) h
end Mine

set_option maxHeartbeats 4000000
namespace Mine
open PySem PySem.W PySem.Calls PyProof.Rows PySem.Spec PySem.Challenge PySem.SeqAt
variable {c : Cx}

noncomputable def col5 (m : Nat) (cols : Nat → Nat → Rat) (fur : Nat → Rat) (j : Nat) : Nat → Rat := if j < m then cols j else fur
theorem col5_list {n m : Nat} {cols : Nat → Nat → Rat} {fur : Nat → Rat} : ((List.range m).map fun j => vec n (cols j)) ++ [vec n fur] = (List.range (m + 1)).map fun j => vec n (col5 m cols fur j) := by
  rw [List.range_succ, List.map_append]
  congr 1
  · exact List.map_congr_left fun j hj => by unfold col5; rw [if_pos (List.mem_range.mp hj)]
  · show [vec n fur] = [vec n (col5 m cols fur m)]
    unfold col5; rw [if_neg (Nat.lt_irrefl m)]
theorem flat_int (i : Int) : flatD (.int i) = true := rfl
theorem shaped_ints (G : List Row) : shaped (.list (G.map fun r => PyData.int r.piv)) = true := shaped_list fun d hd => by
  obtain ⟨r, _, rfl⟩ := List.mem_map.mp hd
  exact flat_int _

theorem law_f (T : Top6 c) (xs : List Int) (hx : xs.length ≤ 1000) {n m : Nat} {cols : Nat → Nat → Rat} {y : Nat → Rat} (hn5 : n ≤ 5) (hm3 : m ≤ 3) (hc : ∀ j i, Sz 3 (cols j i)) (hy : ∀ i, Sz 3 (y i)) {g : Fm} {Q : Flow → Shared → Prop}
    (h : TR c (fscope 36) g 19 {} (rho1 xs n m cols y) ((fbody 36).drop 23) Q) :
    TR c (fscope 36) g 19 {} (rho1 xs n m cols y) ((fbody 36).drop 19) Q := by
  have hc24 : ∀ j, j < m → ∀ i, i < n → Sz 24 (cols j i) := fun j _ i _ => (hc j i).le (by (first | lia | omega))
  have hy24 : ∀ i, i < n → Sz 24 (y i) := fun i _ => (hy i).le (by (first | lia | omega))
  refine t_asgComp (ds := rng 0 1 n) (rs := vecL n fun i => smallF xs (28 + i)) [("script", .d (scD xs))] (IT.range1 EV.name (by (first | lia | omega)) T.range) (fun i d hd => ?_) (by rw [rng_len]; simp [vecL]) (fre_cons (by rfl) (by rfl) fre_nil) (by rw [rng_len]; (first | lia | omega)) (by rfl) ?_ (by intro env h; cases env; cases h; rfl)
  · obtain ⟨hi, rfl⟩ := rng1 hd
    exact ⟨_, vec_at (f := fun i => smallF xs (28 + i)) hi, EV.call' (small_ok T.toTop5 xs (28 + i) (by (first | lia | omega)) hx) (EVs.two EV.name (EV.cast (EV.add EV.cint EV.name) (by norm_cast)))⟩
  have hf : ∀ i, Sz 3 (smallF xs (28 + i)) := fun i => smallF_sz xs _
  generalize hfur : (fun i => smallF xs (28 + i)) = fur
  have hf' : ∀ i, Sz 3 (fur i) := fun i => by rw [← hfur]; exact hf i
  have hc5 : ∀ j, j < m + 1 → ∀ i, i < n → Sz 24 (col5 m cols fur j i) := fun j _ i _ => by
    unfold col5
    split
    · exact (hc j i).le (by (first | lia | omega))
    · exact (hf' i).le (by (first | lia | omega))
  have hcol : ∀ j, j < m → col5 m cols fur j = cols j := fun j hj => by unfold col5; rw [if_pos hj]
  refine t_asg (EV.call' (fit_ok (n := n) (m := m + 1) (cols := col5 m cols fur) (y := y) T.toTop4 hn5 (by (first | lia | omega)) hc5 hy24) (EVs.two (EV.cast (EV.addL (ds := (List.range m).map fun j => vec n (cols j)) (es := [vec n fur]) EV.name (EV.list (ds := [vec n fur]) (EVs.one EV.name) (by simp)) (by simp; (first | lia | omega))) (d' := .d (mat n (m + 1) (col5 m cols fur))) (by rw [col5_list]; rfl)) EV.name)) (.inl (by rfl)) ?_
  have hr := res_sz hn5 (show m ≤ 4 by (first | lia | omega)) hc24 hy24 (k := 3) hm3
  have hr5 := res_sz hn5 (show m + 1 ≤ 4 by (first | lia | omega)) hc5 hy24 (k := 4) (by (first | lia | omega))
  rw [tau3] at hr
  rw [tau4] at hr5
  have hm1 : Sz 1 (-1 : Rat) := ⟨by decide, by decide⟩
  refine t_asg (EV.call' (plus_ok T.toTop5 (dot_sz hn5 hr hr) (hm1.mul (dot_sz hn5 hr5 hr5)) (by (first | lia | omega))) (EVs.two (EV.rss (n := n) (m := m) (cols := cols) (y := y) T (by (first | lia | omega)) hn5 (by (first | lia | omega)) hc24 hy24)
    (EV.call' (by_ok T.toTop5 hm1 (dot_sz hn5 hr5 hr5) (by (first | lia | omega))) (EVs.two (EV.cast (EV.tup2 (EV.neg EV.cint) EV.cint) (by rfl)) (EV.rss (n := n) (m := m + 1) (cols := col5 m cols fur) (y := y) T (by (first | lia | omega)) hn5 (by (first | lia | omega)) hc5 hy24))))) (.inl (by rfl)) ?_
  have hge : 0 ≤ dot n (resF n m cols y) (resF n m cols y) + -1 * dot n (resF n (m + 1) (col5 m cols fur) y) (resF n (m + 1) (col5 m cols fur) y) := by
    have := more_rss (n := n) (y := y) hcol
    grind
  generalize dot n (resF n m cols y) (resF n m cols y) + -1 * dot n (resF n (m + 1) (col5 m cols fur) y) (resF n (m + 1) (col5 m cols fur) y) = gn at hge ⊢
  have hgs := more_gs (n := n) hcol
  have hl := gs_len n cols m
  have hl5 := gs_len n (col5 m cols fur) (m + 1)
  have htake : ((gs n (col5 m cols fur) (m + 1)).map fun r => PyData.int r.piv).take (rnk n m cols) = (gs n cols m).map fun r => PyData.int r.piv := by
    unfold rnk
    rcases hgs with e | ⟨r, _, e, _⟩
    · rw [e, ← List.map_take, List.take_length]
    · rw [e, ← List.map_take, List.take_left]
  have hdiff : ([0, 1] : List Int).contains ((rnk n (m + 1) (col5 m cols fur) : Int) - (rnk n m cols : Int)) = true := by
    unfold rnk
    rcases hgs with e | ⟨r, _, e, _⟩
    · rw [e, Int.sub_self]; rfl
    · have : (((gs n (col5 m cols fur) (m + 1)).length : Nat) : Int) - ((gs n cols m).length : Int) = 1 := by rw [e, List.length_append, List.length_singleton]; (first | lia | omega)
      rw [this]; rfl
  refine t_ifF (TV.orF ((TV.cmpO (EV.num (q := gn) EV.name) EV.cint CmpOk.lt).cast (decide_eq_false (by have := Rat.num_nonneg.mpr hge; (first | lia | omega))))
    (TV.orF (TV.ne (EV.sliceTo (i := rnk n m cols) (EV.listOf (ds := (gs n (col5 m cols fur) (m + 1)).map fun r => PyData.int r.piv) (EV.attr (fs := fitD n (m + 1) (col5 m cols fur) y) EV.name (by rfl) (T.no _)) T.list (by simp; (first | lia | omega))) (EV.attr (fs := fitD n m cols y) EV.name (by rfl) (T.no _)) rfl (by simp; (first | lia | omega))) (EV.listOf (ds := (gs n cols m).map fun r => PyData.int r.piv) (EV.attr (fs := fitD n m cols y) EV.name (by rfl) (T.no _)) T.list (by simp; (first | lia | omega))) (by rw [htake]) (shaped_ints _))
    (TV.orF ((TV.cmpO (EV.sub (EV.attr (fs := fitD n (m + 1) (col5 m cols fur) y) EV.name (by rfl) (T.no _)) (EV.attr (fs := fitD n m cols y) EV.name (by rfl) (T.no _))) (EV.tup2 EV.cint EV.cint) (CmpOk.notInT (xs := [0, 1]))).cast (by rw [hdiff]; rfl)) TV.or0))) ?_
  exact t_sub (.cons (by rfl) (.cons (by rfl) (.cons (by rfl) (.cons (by rfl) (.cons (by rfl) (.cons (by rfl) (.cons (by rfl) .nil))))))) h

theorem vec_rep (n : Nat) : List.replicate n (q2d 0) = vecL n fun _ => 0 := by
  unfold vecL
  apply List.ext_getElem?
  intro j
  by_cases h : j < n
  · simp [h]
  · rw [List.getElem?_eq_none (by simp; (first | lia | omega)), List.getElem?_eq_none (by simp; (first | lia | omega))]

theorem law_g (T : Top6 c) (xs : List Int) {n m : Nat} {cols : Nat → Nat → Rat} {y : Nat → Rat} (hn5 : n ≤ 5) (hm3 : m ≤ 3) (hc : ∀ j i, Sz 3 (cols j i)) (hy : ∀ i, Sz 3 (y i)) {g : Fm} :
    TR c (fscope 36) g 19 {} (rho1 xs n m cols y) ((fbody 36).drop 23) (RetOk c g (.d (.bool true))) := by
  have hc24 : ∀ j, j < m → ∀ i, i < n → Sz 24 (cols j i) := fun j _ i _ => (hc j i).le (by (first | lia | omega))
  have h00 : Sz 24 (0 : Rat) := ⟨by decide, by decide⟩
  have hz24 : ∀ i, i < n → Sz 24 ((fun _ => 0 : Nat → Rat) i) := fun i _ => h00
  refine t_asg (EV.call' (fit_ok (n := n) (m := m) (cols := cols) (y := fun _ => 0) T.toTop4 hn5 (by (first | lia | omega)) hc24 hz24) (EVs.two EV.name (EV.cast (EV.repL (d := q2d 0) (k := n) (EV.cast (EV.tup2 EV.cint EV.cint) (by rfl)) EV.name (by (first | lia | omega))) (d' := .d (vec n fun _ => 0)) (by rw [vec_rep]; rfl)))) (.inl (by rfl)) ?_
  have e0 : dot n (resF n m cols fun _ => 0) (resF n m cols fun _ => 0) = 0 := dot_zero n _ fun i hi => res_nought (fun _ _ => rfl) i hi
  have e1 : optL m (coF n m cols fun _ => 0) = optL m fun j => (coF n m cols y j).map fun _ => 0 := by
    unfold optL; exact List.map_congr_left fun j _ => by rw [co_nought (z := fun _ => 0) (fun _ _ => rfl)]
  have c1 : CmpOk c 19 .Eq (.d (q2d (dot n (resF n m cols fun _ => 0) (resF n m cols fun _ => 0)))) (.d (.tuple [.int 0, .int 1])) true := by
    rw [e0]; exact CmpOk.eqS (p := .tuple [.int 0, .int 1]) (by rfl)
  have c2 : CmpOk c 19 .Eq (.d (.list (optL m (coF n m cols fun _ => 0)))) (.d (.list (optL m fun j => (coF n m cols y j).map fun _ => 0))) true := by
    rw [e1]; exact CmpOk.eqS (shaped_optL _ _)
  refine t_retOk (EV.andT (EV.cmpO (EV.rss (n := n) (m := m) (cols := cols) (y := fun _ => 0) T (by (first | lia | omega)) hn5 (by (first | lia | omega)) hc24 hz24) (EV.tup2 EV.cint EV.cint) c1) (EV.boolOne (EV.cmpO (EV.coefs (n := n) (m := m) (cols := cols) (y := fun _ => 0) T (by (first | lia | omega)))
    (EV.comp (ds := optL m (coF n m cols y)) [] (rs := optL m fun j => (coF n m cols y j).map fun _ => 0) (IT.list EV.name) (fun j d hd => ?_) (by simp [optL]) fre_nil (by simp [optL]; (first | lia | omega))) c2)))
  have hj : j < m := by
    have := (List.getElem?_eq_some_iff.mp hd).1
    simpa [optL] using this
  rw [optL_at hj] at hd
  obtain rfl := Option.some.inj hd
  refine ⟨_, optL_at hj, ?_⟩
  generalize coF n m cols y j = o
  cases o with
  | none => exact EV.ifT (TV.cmpO EV.name EV.cnone (CmpOk.isN (p := .none))) EV.cnone
  | some v => exact EV.ifF (TV.cmpO EV.name EV.cnone (CmpOk.isN (p := q2d v))) (EV.cast (EV.tup2 EV.cint EV.cint) (by rfl))

theorem law_walk (T : Top6 c) (xs : List Int) (hx : xs.length ≤ 1000) {A : Around} {g : Fm} {s : Shared} (R : RoomE A 19) (S0 : StE c (fscope 36) g [("script", .d (scD xs))] {} s) : wpAny (model c.prog c.w) A (execs (fbody 36) g.env) (RetOk c g (.d (.bool true))) nE s := by
  refine (?_ : TR c (fscope 36) g 19 {} [("script", .d (scD xs))] (fbody 36) (RetOk c g (.d (.bool true)))) A s R S0
  with_reducible refine law_a T xs hx fun n m cols y hn1 hn5 hm3 hc hy => ?_
  with_reducible refine law_b T xs hx hn5 hm3 hc hy ?_
  with_reducible refine law_c0 T xs hx fun q hq hqz => ?_
  with_reducible refine law_c T xs hn5 hm3 hc hy hq ?_
  with_reducible refine law_d T xs hx hn5 hm3 hc hy hq hqz ?_
  with_reducible refine law_e T xs hx hn1 hn5 hm3 hc hy ?_
  with_reducible refine law_f T xs hx hn5 hm3 hc hy ?_
  with_reducible exact law_g T xs hn5 hm3 hc hy
end Mine

namespace Mine
open PySem PySem.W PyProof.Rows PySem.Challenge

/-! the standing heap part: the module's names, the functions, their code objects, the class, two tuples -/
noncomputable def fargs (i : Nat) : Arguments := match pw_ov0058_01.main.body[i]? with | some (.FunctionDef _ a _ _ _ _ _ _ _ _) => a | _ => { posonlyargs := [], args := [], vararg := none, kwonlyargs := [], kw_defaults := [], kwarg := none, defaults := [] }
noncomputable def fnO (nm md : String) (u i c : Nat) : Obj := { cls := .type "function", data := .func { name := nm, qualname := nm, params := fargs i, body := .stmts (fbody i), scope := fscope i, globals := 3, closure := [], defaults := .none, kwdefaults := .none, pyModule := .str md u, code := .ref c } }
noncomputable def cdO (nm q : String) (u ln na : Nat) (a b c d e : Value) (w : Nat) : Obj := { cls := .type "code", data := .fields #[.str nm u, .str q (u + 1), .str "/claim/cut.py" (u + 2), .int ln 0, .int na 0, .int 0 0, .int 0 0, .int 3 0, a, .bool true, .int 181 0, b, .none, c, d, e, .int w 0, .int ln 0, .str "/claim/cut.py" (w + 1)] }
noncomputable def enO (P : Params) (k : String) (u : Nat) (v : Value) : DictEntry := { hash := PyData.keyHash P (Str.ofString k), key := .str k u, val := v }
noncomputable def nsO0 (P : Params) : List DictEntry := [enO P "__name__" 165 (.str "law_ov0058_01" 448), enO P "__doc__" 166 (.none), enO P "__package__" 167 (.none), enO P "__loader__" 168 (.builtin "__main__.__loader__#opaque")]
noncomputable def nsO1 (P : Params) : List DictEntry := [enO P "__spec__" 169 (.none), enO P "__annotations__" 170 (.ref 6), enO P "__builtins__" 171 (.ref 4), enO P "__file__" 173 (.str "/claim/cut.py" 172)]
noncomputable def nsO2 (P : Params) : List DictEntry := [enO P "__cached__" 174 (.none), enO P "CoveError" 208 (.ref 24), enO P "Refusal" 233 (.ref 44), enO P "NAN" 238 (.ref 47)]
noncomputable def nsO3 (P : Params) : List DictEntry := [enO P "gcd" 246 (.ref 54), enO P "make" 255 (.ref 61), enO P "is_na" 262 (.ref 68), enO P "is_finite" 269 (.ref 75)]
noncomputable def nsO4 (P : Params) : List DictEntry := [enO P "marked" 277 (.ref 82), enO P "neg" 284 (.ref 89), enO P "add" 292 (.ref 96), enO P "sub" 300 (.ref 103)]
noncomputable def nsO5 (P : Params) : List DictEntry := [enO P "mul" 308 (.ref 110), enO P "div" 316 (.ref 117), enO P "ZERO" 321 (.ref 118), enO P "Fit" 363 (.ref 135)]
noncomputable def nsO6 (P : Params) : List DictEntry := [enO P "weighted" 369 (.ref 144), enO P "dot" 379 (.ref 151), enO P "less_multiple" 385 (.ref 156), enO P "check_finite" 394 (.ref 163)]
noncomputable def nsO7 (P : Params) : List DictEntry := [enO P "check_weights" 403 (.ref 170), enO P "orthogonal" 418 (.ref 177), enO P "back_coefficients" 428 (.ref 184), enO P "used_rows" 434 (.ref 189)]
noncomputable def nsO8 (P : Params) : List DictEntry := [enO P "fit" 440 (.ref 195), enO P "rss" 447 (.ref 202), enO P "_law_cell" 457 (.ref 209), enO P "_law_small" 465 (.ref 216)]
noncomputable def nsO9 (P : Params) : List DictEntry := [enO P "_law_reduced" 476 (.ref 223), enO P "_law_plus" 484 (.ref 230), enO P "_law_by" 492 (.ref 237), enO P "_law_scaled" 498 (.ref 242)]
noncomputable def nsO10 (P : Params) : List DictEntry := [enO P "_law_moved" 504 (.ref 247), enO P "law" 510 (.ref 252)]
noncomputable def nsO (P : Params) : Obj := { cls := .type "dict", data := .dict ⟨nsO0 P ++ (nsO1 P ++ (nsO2 P ++ (nsO3 P ++ (nsO4 P ++ (nsO5 P ++ (nsO6 P ++ (nsO7 P ++ (nsO8 P ++ (nsO9 P ++ (nsO10 P))))))))))⟩ 42 }
noncomputable def clsNs0 (P : Params) : List DictEntry := [enO P "__module__" 329 (.str "vectorcove.lsfit" 317), enO P "__firstlineno__" 333 (.int 62 332), enO P "__init__" 344 (.ref 132), enO P "__static_attributes__" 356 (.ref 133)]
noncomputable def clsNs1 (P : Params) : List DictEntry := [enO P "__dict__" 358 (.ref 136), enO P "__weakref__" 360 (.ref 137), enO P "__doc__" 361 (.none)]
noncomputable def clsNs (P : Params) : Obj := { cls := .type "dict", data := .dict ⟨clsNs0 P ++ (clsNs1 P)⟩ 4 }
noncomputable def fitO : Obj := { cls := .type "function", data := .func { name := "fit", qualname := "fit", params := fargs 26, body := .stmts (fbody 26), scope := fscope 26, globals := 3, closure := [], defaults := .ref 190, kwdefaults := .none, pyModule := .str "vectorcove.lsfit" 317, code := .ref 194 } }
noncomputable def iargs : Arguments := match i0 with | some (.FunctionDef _ a _ _ _ _ _ _ _ _) => a | _ => { posonlyargs := [], args := [], vararg := none, kwonlyargs := [], kw_defaults := [], kwarg := none, defaults := [] }
noncomputable def initO : Obj := { cls := .type "function", data := .func { name := "__init__", qualname := "Fit.__init__", params := iargs, body := .stmts ibody, scope := iscope, globals := 3, closure := [], defaults := .none, kwdefaults := .none, pyModule := .str "vectorcove.lsfit" 317, code := .ref 131 } }
noncomputable def clsO : Obj := { cls := .type "type", data := .cls { name := "Fit", bases := [.type "object"], mro := [.ref 135, .type "object"], ns := 134, qualname := "Fit" }, slots := #[none, none, some (.str "Fit" 322), some (.str "Fit" 330), some (.builtin "object.__new__"), some (.bool true)] }
noncomputable def kpart0 : Frag := [(54, fnO "gcd" "vectorcove.rational" 234 5 53), (61, fnO "make" "vectorcove.rational" 234 6 60), (68, fnO "is_na" "vectorcove.rational" 234 7 67)]
noncomputable def kpart1 : Frag := [(75, fnO "is_finite" "vectorcove.rational" 234 8 74), (89, fnO "neg" "vectorcove.rational" 234 10 88), (96, fnO "add" "vectorcove.rational" 234 11 95)]
noncomputable def kpart2 : Frag := [(103, fnO "sub" "vectorcove.rational" 234 12 102), (110, fnO "mul" "vectorcove.rational" 234 13 109), (117, fnO "div" "vectorcove.rational" 234 14 116)]
noncomputable def kpart3 : Frag := [(144, fnO "weighted" "vectorcove.lsfit" 317 18 143), (151, fnO "dot" "vectorcove.lsfit" 317 19 150), (156, fnO "less_multiple" "vectorcove.lsfit" 317 20 155)]
noncomputable def kpart4 : Frag := [(163, fnO "check_finite" "vectorcove.lsfit" 317 21 162), (177, fnO "orthogonal" "vectorcove.lsfit" 317 23 176), (184, fnO "back_coefficients" "vectorcove.lsfit" 317 24 183)]
noncomputable def kpart5 : Frag := [(189, fnO "used_rows" "vectorcove.lsfit" 317 25 188), (202, fnO "rss" "vectorcove.lsfit" 317 27 201), (209, fnO "_law_cell" "law_ov0058_01" 448 29 208)]
noncomputable def kpart6 : Frag := [(216, fnO "_law_small" "law_ov0058_01" 448 30 215), (223, fnO "_law_reduced" "law_ov0058_01" 448 31 222), (230, fnO "_law_plus" "law_ov0058_01" 448 32 229)]
noncomputable def kpart7 : Frag := [(237, fnO "_law_by" "law_ov0058_01" 448 33 236), (242, fnO "_law_scaled" "law_ov0058_01" 448 34 241), (247, fnO "_law_moved" "law_ov0058_01" 448 35 246)]
noncomputable def kpart8 : Frag := [(252, fnO "law" "law_ov0058_01" 448 36 251), (53, cdO "gcd" "gcd" 239 10 2 (.ref 48) (.ref 49) (.ref 50) (.ref 51) (.ref 52) 244), (60, cdO "make" "make" 247 14 2 (.ref 55) (.ref 56) (.ref 57) (.ref 58) (.ref 59) 253)]
noncomputable def kpart9 : Frag := [(67, cdO "is_na" "is_na" 256 24 1 (.ref 62) (.ref 63) (.ref 64) (.ref 65) (.ref 66) 260), (74, cdO "is_finite" "is_finite" 263 26 1 (.ref 69) (.ref 70) (.ref 71) (.ref 72) (.ref 73) 267), (88, cdO "neg" "neg" 278 32 1 (.ref 83) (.ref 84) (.ref 85) (.ref 86) (.ref 87) 282)]
noncomputable def kpart10 : Frag := [(95, cdO "add" "add" 285 36 2 (.ref 90) (.ref 91) (.ref 92) (.ref 93) (.ref 94) 290), (102, cdO "sub" "sub" 293 46 2 (.ref 97) (.ref 98) (.ref 99) (.ref 100) (.ref 101) 298), (109, cdO "mul" "mul" 301 48 2 (.ref 104) (.ref 105) (.ref 106) (.ref 107) (.ref 108) 306)]
noncomputable def kpart11 : Frag := [(116, cdO "div" "div" 309 52 2 (.ref 111) (.ref 112) (.ref 113) (.ref 114) (.ref 115) 314), (143, cdO "weighted" "weighted" 364 76 2 (.ref 140) (.ref 141) (.none) (.none) (.ref 142) 367), (150, cdO "dot" "dot" 370 80 2 (.ref 145) (.ref 146) (.ref 147) (.ref 148) (.ref 149) 377)]
noncomputable def kpart12 : Frag := [(155, cdO "less_multiple" "less_multiple" 380 86 3 (.ref 152) (.ref 153) (.none) (.none) (.ref 154) 383), (162, cdO "check_finite" "check_finite" 386 90 2 (.ref 157) (.ref 158) (.ref 159) (.ref 160) (.ref 161) 392), (176, cdO "orthogonal" "orthogonal" 404 100 2 (.ref 171) (.ref 172) (.ref 173) (.ref 174) (.ref 175) 416)]
noncomputable def kpart13 : Frag := [(183, cdO "back_coefficients" "back_coefficients" 419 117 1 (.ref 178) (.ref 179) (.ref 180) (.ref 181) (.ref 182) 426), (188, cdO "used_rows" "used_rows" 429 123 2 (.ref 185) (.ref 186) (.none) (.none) (.ref 187) 432), (194, cdO "fit" "fit" 435 127 3 (.ref 191) (.ref 192) (.none) (.none) (.ref 193) 438)]
noncomputable def kpart14 : Frag := [(201, cdO "rss" "rss" 441 150 1 (.ref 196) (.ref 197) (.ref 198) (.ref 199) (.ref 200) 445), (208, cdO "_law_cell" "_law_cell" 450 153 2 (.ref 203) (.ref 204) (.ref 205) (.ref 206) (.ref 207) 455), (215, cdO "_law_small" "_law_small" 458 157 2 (.ref 210) (.ref 211) (.ref 212) (.ref 213) (.ref 214) 463)]
noncomputable def kpart15 : Frag := [(222, cdO "_law_reduced" "_law_reduced" 466 159 2 (.ref 217) (.ref 218) (.ref 219) (.ref 220) (.ref 221) 474), (229, cdO "_law_plus" "_law_plus" 477 169 2 (.ref 224) (.ref 225) (.ref 226) (.ref 227) (.ref 228) 482), (236, cdO "_law_by" "_law_by" 485 171 2 (.ref 231) (.ref 232) (.ref 233) (.ref 234) (.ref 235) 490)]
noncomputable def kpart16 : Frag := [(241, cdO "_law_scaled" "_law_scaled" 493 173 2 (.ref 238) (.ref 239) (.none) (.none) (.ref 240) 496), (246, cdO "_law_moved" "_law_moved" 499 175 3 (.ref 243) (.ref 244) (.none) (.none) (.ref 245) 502), (251, cdO "law" "law" 505 179 1 (.ref 248) (.ref 249) (.none) (.none) (.ref 250) 508)]
noncomputable def kpart17 : Frag := [(131, cdO "__init__" "Fit.__init__" 334 64 5 (.ref 126) (.ref 127) (.ref 128) (.ref 129) (.ref 130) 342), (195, fitO), (132, initO)]
noncomputable def kpart18 : Frag := [(135, clsO), (118, { cls := .type "tuple", data := .seq #[.int 0 319, .int 1 320] }), (190, { cls := .type "tuple", data := .seq #[.none] })]
noncomputable def stK (P : Params) : Frag := (3, nsO P) :: (134, clsNs P) :: (kpart0 ++ (kpart1 ++ (kpart2 ++ (kpart3 ++ (kpart4 ++ (kpart5 ++ (kpart6 ++ (kpart7 ++ (kpart8 ++ (kpart9 ++ (kpart10 ++ (kpart11 ++ (kpart12 ++ (kpart13 ++ (kpart14 ++ (kpart15 ++ (kpart16 ++ (kpart17 ++ (kpart18)))))))))))))))))))
noncomputable def stA : List Addr := [3, 134, 54, 61, 68, 75, 89, 96, 103, 110, 117, 144, 151, 156, 163, 177, 184, 189, 202, 209, 216, 223, 230, 237, 242, 247, 252, 53, 60, 67, 74, 88, 95, 102, 109, 116, 143, 150, 155, 162, 176, 183, 188, 194, 201, 208, 215, 222, 229, 236, 241, 246, 251, 131, 195, 132, 135, 118, 190]
theorem stA_eq (P : Params) : stA = (stK P).map (·.1) := by kernel_rfl
end Mine

namespace Mine
open PySem PySem.W PySem.Calls PyProof.Rows PySem.Spec PySem.Challenge

/-! from the standing heap to the context -/
noncomputable def fdAt (K : Frag) (f : Addr) : Option FuncData := match K.lookup f with
  | some ⟨_, _, .func fd, _⟩ => some fd
  | _ => none
theorem fdAt_of {K : Frag} {f : Addr} {fd : FuncData} (h : fdAt K f = some fd) : ∃ o, K.lookup f = some o ∧ o.data = .func fd := by
  unfold fdAt at h
  split at h
  · rename_i ho
    cases h
    exact ⟨_, ho, rfl⟩
  · cases h
noncomputable def fdShape (fd : FuncData) : FuncBody × Scope × List (Str × Addr) × Addr × Addr := (fd.body, fd.scope, fd.closure, fd.globals, fd.builtins)
structure FnK (K : Frag) (f : Addr) (ps : List Str) (dv : List Value) (body : List Stmt) (sc : Scope) : Prop where
  shape : (fdAt K f).map fdShape = some (.stmts body, sc, [], mainGlobals, builtinsNs)
  code : (fdAt K f).map (fun fd => codeIn K fd.code fd.qualname) = some true
  binds : ∀ fd, fdAt K f = some fd → ∀ (s : Shared) vals, K.In s.heap → vals.length + dv.length = ps.length → BindsTo s fd ⟨vals, []⟩ (ps.zip (vals ++ dv))
theorem FnK.def {c : Cx} {K : Frag} (e : c.K = K) {f : Addr} {ps : List Str} {dv : List Value} {body : List Stmt} {sc : Scope} (x : FnK K f ps dv body sc) : FnDef c f ps dv body sc := ⟨fun h hK => by
  rw [e] at hK
  obtain ⟨h1, h2, h3⟩ := x
  cases hf : fdAt K f with
  | none => rw [hf] at h1; cases h1
  | some fd =>
    rw [hf] at h1 h2
    have h1 := Option.some.inj h1
    have h2 := Option.some.inj h2
    obtain ⟨o, ho, hd⟩ := fdAt_of hf
    unfold fdShape at h1
    simp only [Prod.mk.injEq] at h1
    obtain ⟨a, b, c', d, e'⟩ := h1
    exact ⟨o, fd, hK _ _ ho, hd, a, b, c', d, e', codeRec_of hK h2, fun s vals hs hl => h3 fd hf s vals (hs ▸ hK) hl⟩⟩
theorem lenS {α : Type} {l : List α} {n : Nat} (h : l.length = n + 1) : ∃ a r, l = a :: r ∧ r.length = n := by
  cases l with
  | nil => cases h
  | cons a r => exact ⟨a, r, rfl, Nat.succ.inj h⟩
theorem len0 {α : Type} {l : List α} (h : l.length = 0) : l = [] := List.eq_nil_of_length_eq_zero h
theorem FnK.of1 {K : Frag} {f : Addr} {ps : List Str} {body : List Stmt} {sc : Scope} (h1 : (fdAt K f).map fdShape = some (.stmts body, sc, [], mainGlobals, builtinsNs)) (h2 : (fdAt K f).map (fun fd => codeIn K fd.code fd.qualname) = some true)
    (hp : ps.length = 1) (h3 : ∀ v1, (fdAt K f).map (fun fd => bindArgs fd ⟨[v1], []⟩) = some (pure (ps.zip [v1]))) : FnK K f ps [] body sc := ⟨h1, h2, fun fd hf s vals _ hl => by
  rw [hp] at hl
  have hl : vals.length = _ := hl
  obtain ⟨v1, r1, rfl, hl1⟩ := lenS hl
  obtain rfl := len0 hl1
  have := h3 v1
  rw [hf] at this
  exact .of_eq ((Option.some.inj this).trans (by rw [List.append_nil]))⟩
theorem FnK.of2 {K : Frag} {f : Addr} {ps : List Str} {body : List Stmt} {sc : Scope} (h1 : (fdAt K f).map fdShape = some (.stmts body, sc, [], mainGlobals, builtinsNs)) (h2 : (fdAt K f).map (fun fd => codeIn K fd.code fd.qualname) = some true)
    (hp : ps.length = 2) (h3 : ∀ v1 v2, (fdAt K f).map (fun fd => bindArgs fd ⟨[v1, v2], []⟩) = some (pure (ps.zip [v1, v2]))) : FnK K f ps [] body sc := ⟨h1, h2, fun fd hf s vals _ hl => by
  rw [hp] at hl
  have hl : vals.length = _ := hl
  obtain ⟨v1, r1, rfl, hl1⟩ := lenS hl
  obtain ⟨v2, r2, rfl, hl2⟩ := lenS hl1
  obtain rfl := len0 hl2
  have := h3 v1 v2
  rw [hf] at this
  exact .of_eq ((Option.some.inj this).trans (by rw [List.append_nil]))⟩
theorem FnK.of3 {K : Frag} {f : Addr} {ps : List Str} {body : List Stmt} {sc : Scope} (h1 : (fdAt K f).map fdShape = some (.stmts body, sc, [], mainGlobals, builtinsNs)) (h2 : (fdAt K f).map (fun fd => codeIn K fd.code fd.qualname) = some true)
    (hp : ps.length = 3) (h3 : ∀ v1 v2 v3, (fdAt K f).map (fun fd => bindArgs fd ⟨[v1, v2, v3], []⟩) = some (pure (ps.zip [v1, v2, v3]))) : FnK K f ps [] body sc := ⟨h1, h2, fun fd hf s vals _ hl => by
  rw [hp] at hl
  have hl : vals.length = _ := hl
  obtain ⟨v1, r1, rfl, hl1⟩ := lenS hl
  obtain ⟨v2, r2, rfl, hl2⟩ := lenS hl1
  obtain ⟨v3, r3, rfl, hl3⟩ := lenS hl2
  obtain rfl := len0 hl3
  have := h3 v1 v2 v3
  rw [hf] at this
  exact .of_eq ((Option.some.inj this).trans (by rw [List.append_nil]))⟩
theorem FnK.of5 {K : Frag} {f : Addr} {ps : List Str} {body : List Stmt} {sc : Scope} (h1 : (fdAt K f).map fdShape = some (.stmts body, sc, [], mainGlobals, builtinsNs)) (h2 : (fdAt K f).map (fun fd => codeIn K fd.code fd.qualname) = some true)
    (hp : ps.length = 5) (h3 : ∀ v1 v2 v3 v4 v5, (fdAt K f).map (fun fd => bindArgs fd ⟨[v1, v2, v3, v4, v5], []⟩) = some (pure (ps.zip [v1, v2, v3, v4, v5]))) : FnK K f ps [] body sc := ⟨h1, h2, fun fd hf s vals _ hl => by
  rw [hp] at hl
  have hl : vals.length = _ := hl
  obtain ⟨v1, r1, rfl, hl1⟩ := lenS hl
  obtain ⟨v2, r2, rfl, hl2⟩ := lenS hl1
  obtain ⟨v3, r3, rfl, hl3⟩ := lenS hl2
  obtain ⟨v4, r4, rfl, hl4⟩ := lenS hl3
  obtain ⟨v5, r5, rfl, hl5⟩ := lenS hl4
  obtain rfl := len0 hl5
  have := h3 v1 v2 v3 v4 v5
  rw [hf] at this
  exact .of_eq ((Option.some.inj this).trans (by rw [List.append_nil]))⟩

end Mine

namespace Mine
open PySem PySem.W PySem.Calls PyProof.Rows PySem.Spec PySem.Challenge

theorem k_gcd (P : Params) : FnK (stK P) 54 (fparams 5) [] (fbody 5) (fscope 5) := .of2 (by kernel_rfl) (by kernel_rfl) (by kernel_rfl) (fun _ _ => by kernel_rfl)
theorem k_make (P : Params) : FnK (stK P) 61 (fparams 6) [] (fbody 6) (fscope 6) := .of2 (by kernel_rfl) (by kernel_rfl) (by kernel_rfl) (fun _ _ => by kernel_rfl)
theorem k_is_na (P : Params) : FnK (stK P) 68 (fparams 7) [] (fbody 7) (fscope 7) := .of1 (by kernel_rfl) (by kernel_rfl) (by kernel_rfl) (fun _ => by kernel_rfl)
theorem k_is_finite (P : Params) : FnK (stK P) 75 (fparams 8) [] (fbody 8) (fscope 8) := .of1 (by kernel_rfl) (by kernel_rfl) (by kernel_rfl) (fun _ => by kernel_rfl)
theorem k_neg (P : Params) : FnK (stK P) 89 (fparams 10) [] (fbody 10) (fscope 10) := .of1 (by kernel_rfl) (by kernel_rfl) (by kernel_rfl) (fun _ => by kernel_rfl)
theorem k_add (P : Params) : FnK (stK P) 96 (fparams 11) [] (fbody 11) (fscope 11) := .of2 (by kernel_rfl) (by kernel_rfl) (by kernel_rfl) (fun _ _ => by kernel_rfl)
theorem k_sub (P : Params) : FnK (stK P) 103 (fparams 12) [] (fbody 12) (fscope 12) := .of2 (by kernel_rfl) (by kernel_rfl) (by kernel_rfl) (fun _ _ => by kernel_rfl)
theorem k_mul (P : Params) : FnK (stK P) 110 (fparams 13) [] (fbody 13) (fscope 13) := .of2 (by kernel_rfl) (by kernel_rfl) (by kernel_rfl) (fun _ _ => by kernel_rfl)
theorem k_div (P : Params) : FnK (stK P) 117 (fparams 14) [] (fbody 14) (fscope 14) := .of2 (by kernel_rfl) (by kernel_rfl) (by kernel_rfl) (fun _ _ => by kernel_rfl)
theorem k_weighted (P : Params) : FnK (stK P) 144 (fparams 18) [] (fbody 18) (fscope 18) := .of2 (by kernel_rfl) (by kernel_rfl) (by kernel_rfl) (fun _ _ => by kernel_rfl)
theorem k_dot (P : Params) : FnK (stK P) 151 (fparams 19) [] (fbody 19) (fscope 19) := .of2 (by kernel_rfl) (by kernel_rfl) (by kernel_rfl) (fun _ _ => by kernel_rfl)
theorem k_less_multiple (P : Params) : FnK (stK P) 156 (fparams 20) [] (fbody 20) (fscope 20) := .of3 (by kernel_rfl) (by kernel_rfl) (by kernel_rfl) (fun _ _ _ => by kernel_rfl)
theorem k_check_finite (P : Params) : FnK (stK P) 163 (fparams 21) [] (fbody 21) (fscope 21) := .of2 (by kernel_rfl) (by kernel_rfl) (by kernel_rfl) (fun _ _ => by kernel_rfl)
theorem k_orthogonal (P : Params) : FnK (stK P) 177 (fparams 23) [] (fbody 23) (fscope 23) := .of2 (by kernel_rfl) (by kernel_rfl) (by kernel_rfl) (fun _ _ => by kernel_rfl)
theorem k_back_coefficients (P : Params) : FnK (stK P) 184 (fparams 24) [] (fbody 24) (fscope 24) := .of1 (by kernel_rfl) (by kernel_rfl) (by kernel_rfl) (fun _ => by kernel_rfl)
theorem k_used_rows (P : Params) : FnK (stK P) 189 (fparams 25) [] (fbody 25) (fscope 25) := .of2 (by kernel_rfl) (by kernel_rfl) (by kernel_rfl) (fun _ _ => by kernel_rfl)
theorem k_rss (P : Params) : FnK (stK P) 202 (fparams 27) [] (fbody 27) (fscope 27) := .of1 (by kernel_rfl) (by kernel_rfl) (by kernel_rfl) (fun _ => by kernel_rfl)
theorem k_law_cell (P : Params) : FnK (stK P) 209 (fparams 29) [] (fbody 29) (fscope 29) := .of2 (by kernel_rfl) (by kernel_rfl) (by kernel_rfl) (fun _ _ => by kernel_rfl)
theorem k_law_small (P : Params) : FnK (stK P) 216 (fparams 30) [] (fbody 30) (fscope 30) := .of2 (by kernel_rfl) (by kernel_rfl) (by kernel_rfl) (fun _ _ => by kernel_rfl)
theorem k_law_reduced (P : Params) : FnK (stK P) 223 (fparams 31) [] (fbody 31) (fscope 31) := .of2 (by kernel_rfl) (by kernel_rfl) (by kernel_rfl) (fun _ _ => by kernel_rfl)
theorem k_law_plus (P : Params) : FnK (stK P) 230 (fparams 32) [] (fbody 32) (fscope 32) := .of2 (by kernel_rfl) (by kernel_rfl) (by kernel_rfl) (fun _ _ => by kernel_rfl)
theorem k_law_by (P : Params) : FnK (stK P) 237 (fparams 33) [] (fbody 33) (fscope 33) := .of2 (by kernel_rfl) (by kernel_rfl) (by kernel_rfl) (fun _ _ => by kernel_rfl)
theorem k_law_scaled (P : Params) : FnK (stK P) 242 (fparams 34) [] (fbody 34) (fscope 34) := .of2 (by kernel_rfl) (by kernel_rfl) (by kernel_rfl) (fun _ _ => by kernel_rfl)
theorem k_law_moved (P : Params) : FnK (stK P) 247 (fparams 35) [] (fbody 35) (fscope 35) := .of3 (by kernel_rfl) (by kernel_rfl) (by kernel_rfl) (fun _ _ _ => by kernel_rfl)
theorem k_law (P : Params) : FnK (stK P) 252 (fparams 36) [] (fbody 36) (fscope 36) := .of1 (by kernel_rfl) (by kernel_rfl) (by kernel_rfl) (fun _ => by kernel_rfl)
theorem k_init (P : Params) : FnK (stK P) 132 iparams [] ibody iscope := .of5 (by kernel_rfl) (by kernel_rfl) (by kernel_rfl) (fun _ _ _ _ _ => by kernel_rfl)

noncomputable def gvG : List (Str × Value) := [("gcd", .ref 54), ("make", .ref 61), ("is_na", .ref 68), ("is_finite", .ref 75), ("neg", .ref 89), ("add", .ref 96), ("sub", .ref 103), ("mul", .ref 110), ("div", .ref 117), ("weighted", .ref 144), ("dot", .ref 151), ("less_multiple", .ref 156), ("check_finite", .ref 163), ("orthogonal", .ref 177), ("back_coefficients", .ref 184), ("used_rows", .ref 189), ("rss", .ref 202), ("_law_cell", .ref 209), ("_law_small", .ref 216), ("_law_reduced", .ref 223), ("_law_plus", .ref 230), ("_law_by", .ref 237), ("_law_scaled", .ref 242), ("_law_moved", .ref 247), ("law", .ref 252), ("fit", .ref 195), ("Fit", .ref 135), ("ZERO", .ref 118)]
noncomputable def gvB : List (Str × Value) := [("abs", .builtin "abs"), ("len", .builtin "len"), ("list", .type "list"), ("range", .type "range")]
theorem gvG_in (P : Params) : (gvG.all fun p => nsIn (stK P) 3 p.1 == some (some p.2)) = true := by kernel_rfl
theorem gvB_in (P : Params) : (gvB.all fun p => nsIn (stK P) 3 p.1 == some none) = true := by kernel_rfl
theorem gvB_boot : (gvB.all fun p => bootBuiltins p.1 == some p.2 && p.1 != ("__name__" : Str)) = true := by kernel_rfl
noncomputable def cdF : ClassData := { name := "Fit", bases := [.type "object"], mro := [.ref 135, .type "object"], ns := 134, qualname := "Fit" }
noncomputable def cxOf (w : World) : Cx where
  prog := rw_ov0058_01.row.prog
  w := w
  K := stK w.params
  C := 135
  cd := cdF
  gv := fun x => (gvG ++ gvB).lookup x
  base := 252
  tree := by kernel_rfl
  cls := by kernel_rfl
  hasDict := by rfl
  getat := by kernel_rfl
  setat := by kernel_rfl
  plain := by kernel_rfl
theorem free_fields (P : Params) : (fields.all fun x => findIn (stK P) (.ref 135) x == some none) = true := by kernel_rfl
end Mine

namespace Mine
open PySem PySem.W PySem.Calls PyProof.Rows PySem.Spec PySem.Challenge
noncomputable def fdFit : FuncData := { name := "fit", qualname := "fit", params := fargs 26, body := .stmts (fbody 26), scope := fscope 26, globals := 3, closure := [], defaults := .ref 190, kwdefaults := .none, pyModule := .str "vectorcove.lsfit" 317, code := .ref 194 }
theorem fit_at (P : Params) : fdAt (stK P) 195 = some fdFit := by kernel_rfl
theorem dflt_at (P : Params) : (stK P).lookup 190 = some { cls := .type "tuple", data := .seq #[.none] } := by kernel_rfl
theorem k_fit (P : Params) : FnK (stK P) 195 (fparams 26) [.none] (fbody 26) (fscope 26) := ⟨by rw [fit_at]; rfl, by kernel_rfl, fun fd hf s vals KX hl => by
  rw [fit_at] at hf
  obtain rfl := Option.some.inj hf
  have hp : (fparams 26).length = 3 := by kernel_rfl
  rw [hp] at hl
  obtain ⟨v1, r1, rfl, hl1⟩ := lenS (Nat.succ.inj hl)
  obtain ⟨v2, r2, rfl, hl2⟩ := lenS hl1
  obtain rfl := len0 hl2
  exact BindsTo.of_defaults (T := 190) (items := #[.none]) (n := 0) rfl (KX _ _ (dflt_at P)) rfl (by rfl) (by rfl)⟩
end Mine

namespace Mine
open PySem PySem.W PySem.Calls PyProof.Rows PySem.Spec PySem.Challenge

theorem law_at (P : Params) : ∃ o, (stK P).lookup 252 = some o := by
  have h : (fdAt (stK P) 252).isSome = true := by kernel_rfl
  obtain ⟨fd, hfd⟩ := Option.isSome_iff_exists.mp h
  obtain ⟨o, ho, _⟩ := fdAt_of hfd
  exact ⟨o, ho⟩
theorem lookup_mem {l : List (Str × Value)} {x : Str} {v : Value} (h : l.lookup x = some v) : (x, v) ∈ l := mem_of_lookup h
section
variable {q : Program} {w : World} {loose : List Str} {mean : ExcName → Option Value} {mg mb : Str → Option Value} {h : Heap}
theorem wd_of (KX : (stK w.params).In h) (T : Top q loose mean mg mb h) (hq : importsNone q = true) : Wd (cxOf w) h where
  K := KX
  nolim := T.nolimit
  noseer := T.seer hq
  gv := fun x v e => by
    have e : (gvG ++ gvB).lookup x = some v := e
    refine ⟨mg, mb, T.g, T.b, ?_⟩
    rcases List.mem_append.mp (lookup_mem e) with m | m
    · refine .inl (mg_of KX T.g ?_)
      have := List.all_eq_true.mp (gvG_in w.params) _ m
      exact beq_iff_eq.mp this
    · have h1 := List.all_eq_true.mp (gvB_in w.params) _ m
      have h2 := List.all_eq_true.mp gvB_boot _ m
      obtain ⟨h3, h4⟩ := Bool.and_eq_true_iff.mp h2
      refine .inr ⟨mg_none_of KX T.g (beq_iff_eq.mp h1), ?_⟩
      rw [T.builtins x (by simpa using h4)]
      exact beq_iff_eq.mp h3
  base := let ⟨o, e⟩ := law_at w.params; ⟨o, KX _ _ e⟩
end
theorem zero_at (P : Params) : (stK P).lookup 118 = some { cls := .type "tuple", data := .seq #[.int 0 319, .int 1 320] } := by kernel_rfl
theorem top_of (w : World) : Top6 (cxOf w) where
  abs := by rfl
  len := by rfl
  list := by rfl
  range := by rfl
  gcd := ⟨54, by rfl, (k_gcd w.params).def rfl⟩
  make := ⟨61, by rfl, (k_make w.params).def rfl⟩
  is_na := ⟨68, by rfl, (k_is_na w.params).def rfl⟩
  is_finite := ⟨75, by rfl, (k_is_finite w.params).def rfl⟩
  neg := ⟨89, by rfl, (k_neg w.params).def rfl⟩
  add := ⟨96, by rfl, (k_add w.params).def rfl⟩
  sub := ⟨103, by rfl, (k_sub w.params).def rfl⟩
  mul := ⟨110, by rfl, (k_mul w.params).def rfl⟩
  div := ⟨117, by rfl, (k_div w.params).def rfl⟩
  zero := ⟨.ref 118, by rfl, fun h W hW wd => by
    refine .tuple (wd.K _ _ (zero_at w.params)) rfl rfl (fun m => ?_) (.cons (.int _ _) (.cons (.int _ _) .nil))
    have : @LT.lt Nat _ 252 118 := hW _ m
    exact absurd this (by decide)⟩
  weighted := ⟨144, by rfl, (k_weighted w.params).def rfl⟩
  dot := ⟨151, by rfl, (k_dot w.params).def rfl⟩
  less := ⟨156, by rfl, (k_less_multiple w.params).def rfl⟩
  check := ⟨163, by rfl, (k_check_finite w.params).def rfl⟩
  used := ⟨189, by rfl, (k_used_rows w.params).def rfl⟩
  rss := ⟨202, by rfl, (k_rss w.params).def rfl⟩
  fit := by rfl
  makes := by kernel_rfl
  keep := by kernel_rfl
  init := ⟨132, by kernel_rfl, by kernel_rfl, (k_init w.params).def rfl⟩
  free := fun x m => by
    have := List.all_eq_true.mp (free_fields w.params) _ m
    exact beq_iff_eq.mp this
  ortho := ⟨177, by rfl, (k_orthogonal w.params).def rfl⟩
  back := ⟨184, by rfl, (k_back_coefficients w.params).def rfl⟩
  fit_ := ⟨195, by rfl, (k_fit w.params).def rfl⟩
  cell := ⟨209, by rfl, (k_law_cell w.params).def rfl⟩
  small := ⟨216, by rfl, (k_law_small w.params).def rfl⟩
  red := ⟨223, by rfl, (k_law_reduced w.params).def rfl⟩
  plus := ⟨230, by rfl, (k_law_plus w.params).def rfl⟩
  by_ := ⟨237, by rfl, (k_law_by w.params).def rfl⟩
  scaled := ⟨242, by rfl, (k_law_scaled w.params).def rfl⟩
  moved := ⟨247, by rfl, (k_law_moved w.params).def rfl⟩
  law := ⟨252, by rfl, (k_law w.params).def rfl⟩
end Mine

namespace Mine
open PySem PySem.W PySem.Calls PyProof.Rows PySem.Spec PySem.Challenge

theorem rvs_ints {h : Heap} : ∀ (xs : List Int) {vs : List Value} {as : List Addr}, ReadsAll h vs (xs.map .int) as → Rvs [] h vs (xs.map .int) := by
  intro xs
  induction xs with
  | nil => intro vs as r; cases r; exact .nil
  | cons x xs ih =>
    intro vs as r
    cases r with
    | cons r rs => cases r; exact .cons (.int _ _) (ih rs)
theorem rv_ints {h : Heap} {v : Value} {xs : List Int} {as : List Addr} (r : Reads h v (.list (xs.map .int)) as) : Rv [] h v (scD xs) := by
  cases r with
  | list e c q x => exact .list e c q (List.not_mem_nil) (rvs_ints xs x)

theorem top_walk {q : Program} {w : World} {loose : List Str} {mean : ExcName → Option Value} {mg mb : Str → Option Value} {s₁ : Shared} {fa l : Addr} {as : List Addr} {xs : List Int} {R : Result → Shared → Prop} (KX : (stK w.params).In s₁.heap) (T : Top q loose mean mg mb s₁.heap) (hq : importsNone q = true)
    (hmg : mg ("law" : Str) = some (.ref fa)) (hr : Reads s₁.heap (.ref l) (.list (xs.map .int)) as) (hx : xs.length ≤ 63) (hR : ∀ h' tk, HKeep s₁.heap h' → R (.ok (.ret (.bool true))) { s₁ with heap := h', toks := tk }) :
    codeAny (model rw_ov0058_01.row.prog w) callerA (.call (.ref fa) ⟨[.ref l], []⟩) R s₁ := by
  have hfa : mg ("law" : Str) = some (.ref 252) := mg_of KX T.g (by kernel_rfl)
  rw [hfa] at hmg
  cases hmg
  have wd := wd_of KX T hq
  have D := (k_law w.params).def (c := cxOf w) rfl
  have RC : RoomC callerA (19 + 1) := ⟨rfl, by decide +kernel, by decide +kernel, ⟨[], rfl⟩⟩
  refine enter (c := cxOf w) (n := 19) (args := [.d (scD xs)]) (dvs := []) (W := []) D (by rfl) (fun _ _ => .nil) RC wd (fun a m => nomatch m) (.cons (rv_ints hr) .nil) (fun A g s' R' S h0 hW _ _ _ => ?_) (by rfl) (by rfl) (by rfl) (by decide +kernel) (by decide +kernel) (by decide +kernel)
  have S0 : StE (cxOf w) (fscope 36) g [("script", .d (scD xs))] {} s' := S.sub (.cons (by rfl) .nil)
  refine wpAny_mono (law_walk (top_of w) xs (by omega) R' S0) (fun fl s'' h => ?_) fun _ _ h => h.elim
  obtain ⟨v, hfl, ⟨h', tk, e⟩, kp, rr⟩ := h
  obtain rfl := Rv.bool_inv rr
  refine ⟨_, hfl, ?_⟩
  subst h0
  rw [e] at kp ⊢
  exact hR h' tk kp
theorem goodW_true {c : ClaimW} {cl : Str → Option Addr} {mean : ExcName → Option Value} {args : List WData} {s₁ : Shared} {h' : Heap} {tk : Nat} (k : HKeep s₁.heap h') (hg : s₁.gens = #[]) (hn : ∀ cls, c.raises args cls = false) (hp : c.post args (.bool true) args = true) : GoodW c cl mean args s₁ (.ok (.ret (.bool true))) { s₁ with heap := h', toks := tk } :=
  ⟨.inl ⟨_, _, [], rfl, hn, .bool true, hp, fun _ => ⟨.nil, fun a m => nomatch m⟩⟩, k, rfl, hg⟩
end Mine
open PySem PySem.W PyProof.Rows
set_option maxRecDepth 100000 in
set_option maxHeartbeats 8000000 in
theorem PySem.Challenge.cw_ov0058_01_holds : PySem.Challenge.rw_ov0058_01.Holds := by
  w_on
  o_law
  o_head (kHook Mine.stK Mine.stA Mine.stA_eq)
  (case hw => w_witness2)
  intro w s₀ s₁ mg mb G Y fa o pm cd doc dV kV ho hd hcd hD hmg hg args vals as hpre hlay hrd hwl hlo
  have KX := kIn_of Y
  refine Ground.open G ?_
  intro T B D TE TW
  clear hd hcd hD
  wrow_args hpre hlay hrd hwl hlo
  rename_i xs _ _ _ _ _ _ _ l _ _ _ _ _ hr _ _ hlen _
  refine enter_call ?_
  refine codeAny_mono (Mine.top_walk (xs := xs) (R := GoodW _ _ _ _ s₁) KX T (by kernel_rfl) hmg hr (by omega) fun h' tk k => ?_) fun _ _ g => GoodW.toG g
  exact Mine.goodW_true k hg (fun _ => by rfl) (by wrow_post)
