import PyProof.Rows.All
import Wide.All
import Open.Pieces
import Wide.FinOn
import Lean
import PySem.Challenge.RW_nz0472_01
open PySem PySem.W PyProof.Rows PySem.Calls
set_option Elab.async false
set_option linter.all false

/-! W1 -/
namespace Mine

/-- scalar data -/
inductive S where
  | none
  | bool (b : Bool)
  | int (i : Int)
  | str (x : Str)
  deriving DecidableEq

/-- immutable data: a scalar or a tuple of scalars -/
inductive D where
  | s (x : S)
  | t (xs : List S)
  deriving DecidableEq


noncomputable def S.py : S → PyData
  | .none => .none
  | .bool b => .bool b
  | .int i => .int i
  | .str x => .str x
noncomputable def D.py : D → PyData
  | .s x => x.py
  | .t xs => .tuple (xs.map S.py)

noncomputable def S.nb : S → Bool
  | .bool _ => false
  | _ => true
noncomputable def D.nb : D → Bool
  | .s x => x.nb
  | .t xs => xs.all S.nb

noncomputable def RepS : S → Value → Prop
  | .none, v => v = .none
  | .bool b, v => v = .bool b
  | .int i, v => ∃ t, v = .int i t
  | .str x, v => PyData.strOk x = true ∧ ∃ t, v = .str x t

noncomputable def RepSs : List S → List Value → Prop
  | [], vs => vs = []
  | x :: xs, vs => ∃ v r, vs = v :: r ∧ RepS x v ∧ RepSs xs r

noncomputable def RepD (h : Heap) : D → Value → Prop
  | .s x, v => RepS x v
  | .t xs, v => ∃ a items n, v = .ref a ∧ IsT h a items n ∧ RepSs xs items.toList

noncomputable def RepDs (h : Heap) : List D → List Value → Prop
  | [], vs => vs = []
  | x :: xs, vs => ∃ v r, vs = v :: r ∧ RepD h x v ∧ RepDs h xs r

theorem RepSs.length : ∀ {xs : List S} {vs : List Value}, RepSs xs vs → vs.length = xs.length
  | [], _, h => by cases h; rfl
  | _ :: _, _, h => by obtain ⟨v, r, rfl, _, hr⟩ := h; simp [RepSs.length hr]
theorem RepDs.length {h : Heap} : ∀ {xs : List D} {vs : List Value}, RepDs h xs vs → vs.length = xs.length
  | [], _, h => by cases h; rfl
  | _ :: _, _, h => by obtain ⟨v, r, rfl, _, hr⟩ := h; simp [RepDs.length hr]
theorem RepSs.get : ∀ {xs : List S} {vs : List Value} {k : Nat} {x : S}, RepSs xs vs → xs[k]? = some x → ∃ v, vs[k]? = some v ∧ RepS x v
  | [], _, _, _, _, e => by simp at e
  | y :: ys, _, 0, x, h, e => by obtain ⟨v, r, rfl, hv, _⟩ := h; simp at e; subst e; exact ⟨v, rfl, hv⟩
  | y :: ys, _, k+1, x, h, e => by
    obtain ⟨v, r, rfl, hv, hr⟩ := h
    obtain ⟨u, hu, hx⟩ := RepSs.get hr (by simpa using e)
    exact ⟨u, by simpa using hu, hx⟩
theorem RepDs.get {h : Heap} : ∀ {xs : List D} {vs : List Value} {k : Nat} {x : D}, RepDs h xs vs → xs[k]? = some x → ∃ v, vs[k]? = some v ∧ RepD h x v
  | [], _, _, _, _, e => by simp at e
  | y :: ys, _, 0, x, h, e => by obtain ⟨v, r, rfl, hv, _⟩ := h; simp at e; subst e; exact ⟨v, rfl, hv⟩
  | y :: ys, _, k+1, x, h, e => by
    obtain ⟨v, r, rfl, hv, hr⟩ := h
    obtain ⟨u, hu, hx⟩ := RepDs.get hr (by simpa using e)
    exact ⟨u, by simpa using hu, hx⟩
theorem RepDs.append {h : Heap} : ∀ {xs ys : List D} {vs us : List Value}, RepDs h xs vs → RepDs h ys us → RepDs h (xs ++ ys) (vs ++ us)
  | [], _, _, _, h1, h2 => by cases h1; exact h2
  | x :: xs, _, _, _, h1, h2 => by obtain ⟨v, r, rfl, hv, hr⟩ := h1; exact ⟨v, _, rfl, hv, RepDs.append hr h2⟩
theorem RepSs.append : ∀ {xs ys : List S} {vs us : List Value}, RepSs xs vs → RepSs ys us → RepSs (xs ++ ys) (vs ++ us)
  | [], _, _, _, h1, h2 => by cases h1; exact h2
  | x :: xs, _, _, _, h1, h2 => by obtain ⟨v, r, rfl, hv, hr⟩ := h1; exact ⟨v, _, rfl, hv, RepSs.append hr h2⟩
theorem RepDs.drop {h : Heap} : ∀ {xs : List D} {vs : List Value} (k : Nat), RepDs h xs vs → RepDs h (xs.drop k) (vs.drop k)
  | _, _, 0, h1 => h1
  | [], _, _+1, h1 => by cases h1; rfl
  | x :: xs, _, k+1, h1 => by obtain ⟨v, r, rfl, hv, hr⟩ := h1; exact RepDs.drop k hr
theorem RepSs.drop : ∀ {xs : List S} {vs : List Value} (k : Nat), RepSs xs vs → RepSs (xs.drop k) (vs.drop k)
  | _, _, 0, h1 => h1
  | [], _, _+1, h1 => by cases h1; rfl
  | x :: xs, _, k+1, h1 => by obtain ⟨v, r, rfl, hv, hr⟩ := h1; exact RepSs.drop k hr
theorem RepDs.take {h : Heap} : ∀ {xs : List D} {vs : List Value} (k : Nat), RepDs h xs vs → RepDs h (xs.take k) (vs.take k)
  | _, _, 0, _ => rfl
  | [], _, _+1, h1 => by cases h1; rfl
  | x :: xs, _, k+1, h1 => by obtain ⟨v, r, rfl, hv, hr⟩ := h1; exact ⟨v, _, rfl, hv, RepDs.take k hr⟩
theorem RepDs.reverse {h : Heap} : ∀ {xs : List D} {vs : List Value}, RepDs h xs vs → RepDs h xs.reverse vs.reverse
  | [], _, h1 => by cases h1; rfl
  | x :: xs, _, h1 => by
    obtain ⟨v, r, rfl, hv, hr⟩ := h1
    rw [List.reverse_cons, List.reverse_cons]
    exact RepDs.append (RepDs.reverse hr) ⟨v, [], rfl, hv, rfl⟩
theorem RepDs.set {h : Heap} : ∀ {xs : List D} {vs : List Value} (k : Nat) {x : D} {v : Value}, RepDs h xs vs → RepD h x v → RepDs h (xs.set k x) (vs.set k v)
  | [], _, _, _, _, h1, _ => by cases h1; rfl
  | y :: ys, _, 0, x, v, h1, hx => by obtain ⟨u, r, rfl, hv, hr⟩ := h1; exact ⟨v, r, rfl, hx, hr⟩
  | y :: ys, _, k+1, x, v, h1, hx => by obtain ⟨u, r, rfl, hv, hr⟩ := h1; exact ⟨u, _, rfl, hv, RepDs.set k hr hx⟩

/-- tuples and ranges never change -/
noncomputable def ImmO (o : Obj) : Prop := (o.cls = .type "tuple" ∧ ∃ items n, o.data = .seq items n) ∨ (o.cls = .type "range" ∧ ∃ vs, o.data = .fields vs)
/-- heaps in which every tuple and every range of the first stands as it stood -/
noncomputable def ImmK (h h' : Heap) : Prop := ∀ b o, h.get? b = some o → ImmO o → h'.get? b = some o
theorem ImmK.refl (h : Heap) : ImmK h h := fun _ _ e _ => e
theorem ImmK.trans {h h' h'' : Heap} (x : ImmK h h') (y : ImmK h' h'') : ImmK h h'' := fun b o e c => y b o (x b o e c) c

theorem RepD.imm {h h' : Heap} (k : ImmK h h') : ∀ {d : D} {v : Value}, RepD h d v → RepD h' d v
  | .s _, _, x => x
  | .t _, _, ⟨a, items, n, e, ht, r⟩ => ⟨a, items, n, e, k a _ ht (.inl ⟨rfl, _, _, rfl⟩), r⟩
theorem RepDs.imm {h h' : Heap} (k : ImmK h h') : ∀ {ds : List D} {vs : List Value}, RepDs h ds vs → RepDs h' ds vs
  | [], _, x => x
  | _ :: _, _, ⟨v, r, e, hv, hr⟩ => ⟨v, r, e, hv.imm k, RepDs.imm k hr⟩

theorem RepS.reads (h : Heap) : ∀ {x : S} {v : Value}, RepS x v → Reads h v x.py []
  | .none, _, e => by cases e; exact .none
  | .bool b, _, e => by cases e; exact .bool b
  | .int i, _, ⟨t, e⟩ => by cases e; exact .int i t
  | .str x, _, ⟨_, t, e⟩ => by cases e; exact .str x t
theorem RepSs.reads (h : Heap) : ∀ {xs : List S} {vs : List Value}, RepSs xs vs → ReadsAll h vs (xs.map S.py) []
  | [], _, e => by cases e; exact .nil
  | x :: xs, _, ⟨v, r, e, hv, hr⟩ => by subst e; exact ReadsAll.cons (hv.reads h) (RepSs.reads h hr)
theorem RepD.reads {h : Heap} : ∀ {d : D} {v : Value}, RepD h d v → Reads h v d.py []
  | .s _, _, x => RepS.reads h x
  | .t _, _, ⟨a, items, n, e, ht, r⟩ => by subst e; exact Reads.tuple ht rfl rfl (r.reads h)
theorem RepDs.reads {h : Heap} : ∀ {ds : List D} {vs : List Value}, RepDs h ds vs → ReadsAll h vs (ds.map D.py) []
  | [], _, e => by cases e; exact .nil
  | _ :: _, _, ⟨v, r, e, hv, hr⟩ => by subst e; exact ReadsAll.cons hv.reads (RepDs.reads hr)

theorem RepS.lay : ∀ {x : S} {v : Value}, RepS x v → x.py.canLay0 = true
  | .none, _, _ => by simp [S.py, PyData.canLay0]
  | .bool _, _, _ => by simp [S.py, PyData.canLay0]
  | .int _, _, _ => by simp [S.py, PyData.canLay0]
  | .str _, _, e => by simpa [S.py, PyData.canLay0] using e.1
theorem RepSs.lay : ∀ {xs : List S} {vs : List Value}, RepSs xs vs → PyData.canLayAll0 (xs.map S.py) = true
  | [], _, _ => by simp [PyData.canLayAll0]
  | _ :: _, _, ⟨v, r, e, hv, hr⟩ => by simp [PyData.canLayAll0, hv.lay, RepSs.lay hr]
theorem RepD.lay {h : Heap} : ∀ {d : D} {v : Value}, RepD h d v → d.py.canLay0 = true
  | .s _, _, x => RepS.lay x
  | .t _, _, ⟨_, _, _, _, _, r⟩ => by simpa [D.py, PyData.canLay0] using r.lay
theorem RepDs.lay {h : Heap} : ∀ {ds : List D} {vs : List Value}, RepDs h ds vs → PyData.canLayAll0 (ds.map D.py) = true
  | [], _, _ => by simp [PyData.canLayAll0]
  | _ :: _, _, ⟨v, r, e, hv, hr⟩ => by simp [PyData.canLayAll0, hv.lay, RepDs.lay hr]

theorem S.depth (x : S) : x.py.depth = 0 := by cases x <;> simp [S.py, PyData.depth]
theorem S.depthAll : ∀ xs : List S, PyData.depthAll (xs.map S.py) = 0
  | [] => by simp [PyData.depthAll]
  | x :: xs => by simp [PyData.depthAll, S.depth, S.depthAll xs]
theorem D.depth (d : D) : d.py.depth ≤ 1 := by
  cases d with
  | s x => rw [D.py, S.depth]; omega
  | t xs => simp [D.py, PyData.depth, S.depthAll]
theorem D.depthAll : ∀ ds : List D, PyData.depthAll (ds.map D.py) ≤ 1
  | [] => by simp [PyData.depthAll]
  | d :: ds => by
    have h1 := D.depth d
    have h2 := D.depthAll ds
    simp only [List.map_cons, PyData.depthAll]; omega

theorem S.eqv : ∀ {x y : S}, x.nb = true → y.nb = true → PyData.eqv x.py y.py = decide (x = y) := by
  intro x y hx hy
  cases x <;> cases y <;> simp_all [S.nb, S.py, PyData.eqv] <;> (rw [Bool.eq_iff_iff]; simp)
theorem S.eqvAll : ∀ {xs ys : List S}, xs.all S.nb = true → ys.all S.nb = true → PyData.eqvAll (xs.map S.py) (ys.map S.py) = decide (xs = ys)
  | [], [], _, _ => by simp [PyData.eqvAll]
  | [], _ :: _, _, _ => by simp [PyData.eqvAll]
  | _ :: _, [], _, _ => by simp [PyData.eqvAll]
  | x :: xs, y :: ys, h1, h2 => by
    simp only [List.all_cons, Bool.and_eq_true] at h1 h2
    simp [PyData.eqvAll, S.eqv h1.1 h2.1, S.eqvAll h1.2 h2.2]
theorem D.eqv : ∀ {x y : D}, x.nb = true → y.nb = true → PyData.eqv x.py y.py = decide (x = y) := by
  intro x y hx hy
  cases x with
  | s x => cases y with
    | s y => simp [D.py, S.eqv hx hy]
    | t y => cases x <;> simp [D.py, S.py, PyData.eqv]
  | t x => cases y with
    | s y => cases y <;> simp [D.py, S.py, PyData.eqv]
    | t y => simp [D.py, PyData.eqv, S.eqvAll hx hy]
theorem D.eqvAll : ∀ {xs ys : List D}, xs.all D.nb = true → ys.all D.nb = true → PyData.eqvAll (xs.map D.py) (ys.map D.py) = decide (xs = ys)
  | [], [], _, _ => by simp [PyData.eqvAll]
  | [], _ :: _, _, _ => by simp [PyData.eqvAll]
  | _ :: _, [], _, _ => by simp [PyData.eqvAll]
  | x :: xs, y :: ys, h1, h2 => by
    simp only [List.all_cons, Bool.and_eq_true] at h1 h2
    simp [PyData.eqvAll, D.eqv h1.1 h2.1, D.eqvAll h1.2 h2.2]
theorem D.any_eqv {d : D} (hd : d.nb = true) : ∀ {xs : List D}, xs.all D.nb = true → (xs.map D.py).any (fun y => PyData.eqv y d.py) = decide (d ∈ xs)
  | [], _ => by simp
  | x :: xs, h1 => by
    simp only [List.all_cons, Bool.and_eq_true] at h1
    rw [List.map_cons, List.any_cons, D.eqv h1.1 hd, D.any_eqv hd h1.2]
    simp [List.mem_cons, eq_comm]
theorem S.any_eqv {x : S} (hx : x.nb = true) : ∀ {xs : List S}, xs.all S.nb = true → (xs.map S.py).any (fun y => PyData.eqv y x.py) = decide (x ∈ xs)
  | [], _ => by simp
  | y :: xs, h1 => by
    simp only [List.all_cons, Bool.and_eq_true] at h1
    rw [List.map_cons, List.any_cons, S.eqv h1.1 hx, S.any_eqv hx h1.2]
    simp [List.mem_cons, eq_comm]

/-! ## the abstract store -/
inductive AV where
  | d (d : D)
  | loc (n : Nat)
  | rng (n : Nat)
  | scr
  deriving DecidableEq

inductive AO where
  | list (ds : List D)
  | dict (ks : List Int)
  | inst (n : Nat)
  | attrs (kvs : List (Str × AV))

abbrev Store := List AO

structure Cx where
  h0 : Heap
  os : OsState
  scr : Addr
  ns : List Int
  cls : Addr
  mg : Str → Option Value
  mb : Str → Option Value

noncomputable def Rep (C : Cx) (F : List Addr) (h : Heap) : AV → Value → Prop
  | .d d, v => RepD h d v
  | .loc n, v => ∃ a, F[n]? = some a ∧ v = .ref a
  | .rng n, v => ∃ r t u x, v = .ref r ∧ IsRange h r 0 n 1 t u x
  | .scr, v => v = .ref C.scr

noncomputable def ObjRep (C : Cx) (F : List Addr) (h : Heap) (a : Addr) : AO → Prop
  | .list ds => ∃ items k, IsL h a items k ∧ RepDs h ds items.toList
  | .dict ks => ∃ f, h.IntMap a f ∧ (∀ k, (f k).isSome = decide (k ∈ ks)) ∧ h.DictLe a ks.length
  | .inst n => ∃ d, F[n]? = some d ∧ d ≠ a ∧ ∃ o, h.get? a = some o ∧ o.cls = .ref C.cls ∧ o.dict = some d ∧ ∀ c, o.data ≠ .cls c
  | .attrs kvs => ∃ m, h.Ns1 a m ∧ (∀ x, (kvs.lookup x).isSome = (m x).isSome) ∧ ∀ x av, kvs.lookup x = some av → ∃ v, m x = some v ∧ Rep C F h av v

structure Inv (C : Cx) (σ : Store) (F : List Addr) (s : Shared) : Prop where
  base : ∀ b o, C.h0.get? b = some o → s.heap.get? b = some o
  fresh : ∀ a ∈ F, C.h0.get? a = none
  nodup : F.Nodup
  len : F.length = σ.length
  objs : ∀ (n : Nat) (ao : AO) (a : Addr), σ[n]? = some ao → F[n]? = some a → ObjRep C F s.heap a ao
  gens : s.gens = #[]
  os : s.os = C.os

/-- what a step may do: the objects of F change, all else stands, new objects are new -/
structure Mono (W : List Addr) (F : List Addr) (h : Heap) (F' : List Addr) (h' : Heap) : Prop where
  pre : ∃ N, F' = F ++ N ∧ ∀ a ∈ N, h.get? a = none
  keep : ∀ b o, h.get? b = some o → b ∉ F → b ∉ W → h'.get? b = some o
  dom : ∀ b, (h.get? b).isSome → (h'.get? b).isSome
  imm : ImmK h h'

end Mine

/-! W2 -/
namespace Mine

abbrev Rho := Str → Option AV
noncomputable def upd (ρ : Rho) (x : Str) (v : AV) : Rho := fun y => if y = x then some v else ρ y

inductive AF where
  | next | brk | cont
  | ret (v : AV)

/-! ### the representation along steps -/
section
variable {C : Cx} {F F' F'' : List Addr} {h h' h'' : Heap} {W : List Addr}

theorem Mono.refl (W F : List Addr) (h : Heap) : Mono W F h F h :=
  ⟨⟨[], by simp, fun _ m => nomatch m⟩, fun _ _ e _ _ => e, fun _ e => e, ImmK.refl h⟩

theorem isSome_of {h : Heap} {a : Addr} {o : Obj} (e : h.get? a = some o) : (h.get? a).isSome := by rw [e]; rfl

theorem Mono.trans (x : Mono W F h F' h') (y : Mono W F' h' F'' h'') : Mono W F h F'' h'' := by
  obtain ⟨N, e, hN⟩ := x.pre
  obtain ⟨N', e', hN'⟩ := y.pre
  have fresh : ∀ a ∈ N', h.get? a = none := fun a ha => by
    cases q : h.get? a with
    | none => rfl
    | some o =>
      have := x.dom a (isSome_of q)
      rw [hN' a ha] at this; cases this
  refine ⟨⟨N ++ N', by rw [e', e, List.append_assoc], fun a ha => ?_⟩, fun b o q hF hW => ?_, fun b q => y.dom b (x.dom b q), x.imm.trans y.imm⟩
  · rcases List.mem_append.mp ha with ha | ha
    · exact hN a ha
    · exact fresh a ha
  · refine y.keep b o (x.keep b o q hF hW) ?_ hW
    rw [e]
    intro m
    rcases List.mem_append.mp m with m | m
    · exact hF m
    · rw [hN b m] at q; cases q
theorem Mono.weak {W W' : List Addr} (x : Mono W F h F' h') (hw : ∀ a ∈ W, a ∈ W') : Mono W' F h F' h' :=
  ⟨x.pre, fun b o e hF hW => x.keep b o e hF fun m => hW (hw b m), x.dom, x.imm⟩
theorem Mono.up (x : Mono [] F h F' h') : Mono W F h F' h' := x.weak fun _ m => nomatch m

theorem Mono.get {n : Nat} {a : Addr} (x : Mono W F h F' h') (e : F[n]? = some a) : F'[n]? = some a := by
  obtain ⟨N, rfl, _⟩ := x.pre
  have hlt : n < F.length := by
    rcases Nat.lt_or_ge n F.length with q | q
    · exact q
    · rw [List.getElem?_eq_none q] at e; cases e
  rw [List.getElem?_append_left hlt]; exact e

theorem Mono.notIn {a : Addr} {o : Obj} (x : Mono W F h F' h') (e : h.get? a = some o) (hF : a ∉ F) : a ∉ F' := by
  obtain ⟨N, rfl, hN⟩ := x.pre
  intro m
  rcases List.mem_append.mp m with m | m
  · exact hF m
  · rw [hN a m] at e; cases e

theorem Rep.at {v : Value} : ∀ {av : AV}, Rep C F h av v → ImmK h h' → (∀ (n : Nat) (a : Addr), F[n]? = some a → F'[n]? = some a) → Rep C F' h' av v
  | .d _, r, k, _ => RepD.imm k r
  | .loc _, ⟨a, e, ev⟩, _, p => ⟨a, p _ _ e, ev⟩
  | .rng _, ⟨r, t, u, x, e, hr⟩, k, _ => ⟨r, t, u, x, e, k _ _ hr (.inr ⟨rfl, _, rfl⟩)⟩
  | .scr, e, _, _ => e
theorem Rep.mono {av : AV} {v : Value} (r : Rep C F h av v) (x : Mono W F h F' h') : Rep C F' h' av v := r.at x.imm fun _ _ e => x.get e

theorem ns_notImm {a : Addr} {m : Str → Option Value} {o : Obj} (hn : h.Ns a m) (e : h.get? a = some o) : ¬ ImmO o := by
  obtain ⟨o', es, ep, ho, hd, _⟩ := hn
  rw [ho] at e; cases e
  rintro (⟨_, _, _, q⟩ | ⟨_, _, q⟩) <;> rw [hd] at q <;> cases q
theorem ObjRep.at {a : Addr} : ∀ {ao : AO}, ObjRep C F h a ao → h'.get? a = h.get? a → ImmK h h' → (∀ (n : Nat) (a : Addr), F[n]? = some a → F'[n]? = some a) → ObjRep C F' h' a ao
  | .list _, ⟨items, k, hl, r⟩, e, i, _ => ⟨items, k, e.trans hl, r.imm i⟩
  | .dict _, ⟨f, ⟨o, es, ep, ho, r⟩, hs, hle⟩, e, _, _ => ⟨f, ⟨o, es, ep, e.trans ho, r⟩, hs, fun o es ep q => hle o es ep (e.symm.trans q)⟩
  | .inst _, ⟨d, q, hne, o, ho, r⟩, e, _, p => ⟨d, p _ _ q, hne, o, e.trans ho, r⟩
  | .attrs _, ⟨m, hm, hs, r⟩, e, i, p => ⟨m, hm.at fun o ho => e.trans ho, hs, fun x av q => let ⟨v, hv, hr⟩ := r x av q; ⟨v, hv, hr.at i p⟩⟩

theorem ObjRep.notImm {a : Addr} {o : Obj} : ∀ {ao : AO}, ObjRep C F h a ao → h.get? a = some o → ¬ ImmO o
  | .list _, ⟨_, _, hl, _⟩, e, i => by rw [show h.get? a = _ from hl] at e; cases e; rcases i with ⟨q, _⟩ | ⟨q, _⟩ <;> simp at q
  | .dict _, ⟨f, ⟨o', es, ep, ho, hc, hd, _⟩, _⟩, e, i => by rw [ho] at e; cases e; rcases i with ⟨q, _⟩ | ⟨q, _⟩ <;> rw [hc] at q <;> exact absurd q (by decide)
  | .inst _, ⟨d, q, _, o', ho, hc, _⟩, e, i => by rw [ho] at e; cases e; rcases i with ⟨q, _⟩ | ⟨q, _⟩ <;> rw [hc] at q <;> simp at q
  | .attrs _, ⟨m, hm, _⟩, e, i => ns_notImm hm.ns e i
theorem ObjRep.some {a : Addr} : ∀ {ao : AO}, ObjRep C F h a ao → ∃ o, h.get? a = some o
  | .list _, ⟨_, _, hl, _⟩ => ⟨_, hl⟩
  | .dict _, ⟨f, ⟨o', es, ep, ho, hc, hd, _⟩, _⟩ => ⟨_, ho⟩
  | .inst _, ⟨d, q, _, o, ho, _⟩ => ⟨_, ho⟩
  | .attrs _, ⟨m, ⟨o, es, ep, ho, _⟩, _⟩ => ⟨_, ho⟩

theorem cell_notImm {a : Addr} {v : Option Value} {o : Obj} (hn : h.IsCell a v) (e : h.get? a = some o) : ¬ ImmO o := by
  obtain ⟨o', ho, hd⟩ := hn
  rw [ho] at e; cases e
  rintro (⟨_, _, _, q⟩ | ⟨_, _, q⟩) <;> rw [hd] at q <;> cases q

theorem immK_sameBut {a : Addr} (hs : Heap.SameBut a h h') (hn : ∀ o, h.get? a = some o → ¬ ImmO o) : ImmK h h' := fun b o e i => by
  by_cases hb : b = a
  · subst hb; exact absurd i (hn o e)
  · rw [hs.2 b hb]; exact e
theorem immK_keeps (hk : ∀ b o, h.get? b = some o → h'.get? b = some o) : ImmK h h' := fun b o e _ => hk b o e
theorem immK_extBut {a : Addr} (hs : Heap.ExtBut a h h') (hn : ∀ o, h.get? a = some o → ¬ ImmO o) : ImmK h h' := fun b o e i => by
  by_cases hb : b = a
  · subst hb; exact absurd i (hn o e)
  · exact hs b o hb e
end

section
variable {C : Cx} {σ : Store} {F : List Addr} {s : Shared}

theorem Inv.tok (I : Inv C σ F s) (t : Nat) : Inv C σ F { s with toks := t } := ⟨I.base, I.fresh, I.nodup, I.len, I.objs, I.gens, I.os⟩

/-- all stands but perhaps one object that is not of the store -/
theorem Inv.ext {a : Addr} {h' : Heap} {t : Nat} (I : Inv C σ F s) (hs : Heap.ExtBut a s.heap h') (ha : a ∉ F) (hb : C.h0.get? a = none) (hi : ImmK s.heap h') :
    Inv C σ F { s with heap := h', toks := t } := by
  refine ⟨fun b o e => hs b o ?_ (I.base b o e), I.fresh, I.nodup, I.len, fun n ao b hn hF => ?_, I.gens, I.os⟩
  · rintro rfl; rw [hb] at e; cases e
  · have R := I.objs n ao b hn hF
    have hne : b ≠ a := by rintro rfl; exact ha (List.mem_of_getElem? hF)
    obtain ⟨o, ho⟩ := R.some
    exact R.at ((hs b o hne ho).trans ho.symm) hi fun _ _ e => e
theorem Inv.keeps {h' : Heap} {t : Nat} (I : Inv C σ F s) (hk : ∀ b o, s.heap.get? b = some o → h'.get? b = some o) : Inv C σ F { s with heap := h', toks := t } := by
  refine ⟨fun b o e => hk b o (I.base b o e), I.fresh, I.nodup, I.len, fun n ao b hn hF => ?_, I.gens, I.os⟩
  have R := I.objs n ao b hn hF
  obtain ⟨o, ho⟩ := R.some
  exact R.at ((hk b o ho).trans ho.symm) (immK_keeps hk) fun _ _ e => e
theorem Inv.lt {a : Addr} (I : Inv C σ F s) (m : a ∈ F) : ∃ o, s.heap.get? a = some o := by
  obtain ⟨n, hn⟩ := List.getElem?_of_mem m
  have hlt : n < F.length := by
    rcases Nat.lt_or_ge n F.length with q | q
    · exact q
    · rw [List.getElem?_eq_none q] at hn; cases hn
  have hσ : ∃ ao, σ[n]? = some ao := ⟨σ[n]'(I.len ▸ hlt), List.getElem?_eq_getElem _⟩
  obtain ⟨ao, ha⟩ := hσ
  exact (I.objs n ao a ha hn).some
theorem Inv.size_notin (I : Inv C σ F s) : s.heap.objs.size ∉ F := fun m => by
  obtain ⟨o, ho⟩ := I.lt m
  exact Nat.lt_irrefl _ (Heap.lt_size ho)
theorem get_none_of_ge {h : Heap} {a : Addr} (ha : h.objs.size ≤ a) : h.get? a = none := by
  cases e : h.get? a with
  | none => rfl
  | some o => exact absurd (Heap.lt_size e) (Nat.not_lt.mpr ha)
theorem Inv.base_none (I : Inv C σ F s) {a : Addr} (e : s.heap.get? a = none) : C.h0.get? a = none := by
  cases q : C.h0.get? a with
  | none => rfl
  | some o => rw [I.base a o q] at e; cases e
theorem Mono.keeps {W F : List Addr} {h h' : Heap} (hk : ∀ b o, h.get? b = some o → h'.get? b = some o) : Mono W F h F h' :=
  ⟨⟨[], by simp, fun _ m => nomatch m⟩, fun b o e _ _ => hk b o e, fun b e => by obtain ⟨o, ho⟩ := Option.isSome_iff_exists.mp e; exact isSome_of (hk b o ho), immK_keeps hk⟩
theorem push_keeps (h : Heap) (o : Obj) : ∀ b o', h.get? b = some o' → (h.push o).get? b = some o' := fun _ _ e => Heap.get?_push_of_some o e

/-- one more object in the store, at an address that the heap did not hold -/
theorem Inv.new {h' : Heap} {a : Addr} {ao : AO} {t : Nat} (I : Inv C σ F s) (hk : ∀ b o, s.heap.get? b = some o → h'.get? b = some o) (ha : s.heap.get? a = none) (hr : ObjRep C (F ++ [a]) h' a ao) :
    Inv C (σ ++ [ao]) (F ++ [a]) { s with heap := h', toks := t } := by
  have hb := I.base_none ha
  have ha' : a ∉ F := fun m => by obtain ⟨o, ho⟩ := I.lt m; rw [ha] at ho; cases ho
  have I' := I.keeps (h' := h') (t := t) hk
  refine ⟨I'.base, fun b m => ?_, ?_, by simp [I.len], fun n ao' b hn hF => ?_, I.gens, I.os⟩
  · rcases List.mem_append.mp m with m | m
    · exact I.fresh b m
    · rw [List.mem_singleton.mp m]; exact hb
  · rw [List.nodup_append]
    exact ⟨I.nodup, by simp, fun x hx y hy => by rw [List.mem_singleton.mp hy]; rintro rfl; exact ha' hx⟩
  · rcases Nat.lt_trichotomy n F.length with q | q | q
    · rw [List.getElem?_append_left q] at hF
      rw [List.getElem?_append_left (I.len ▸ q)] at hn
      have R := I'.objs n ao' b hn hF
      exact R.at rfl (ImmK.refl _) fun k c e => by
        have hlt : k < F.length := by
          rcases Nat.lt_or_ge k F.length with q | q
          · exact q
          · rw [List.getElem?_eq_none q] at e; cases e
        rw [List.getElem?_append_left hlt]; exact e
    · subst q
      rw [List.getElem?_append_right (Nat.le_refl _)] at hF
      rw [List.getElem?_append_right (by rw [I.len]; exact Nat.le_refl _)] at hn
      simp at hF; simp [I.len] at hn
      subst hF; subst hn; exact hr
    · rw [List.getElem?_eq_none (by simp; omega)] at hF; cases hF
theorem Mono.new {W F : List Addr} {h h' : Heap} {a : Addr} (hk : ∀ b o, h.get? b = some o → h'.get? b = some o) (ha : h.get? a = none) : Mono W F h (F ++ [a]) h' :=
  ⟨⟨[a], rfl, fun b m => by rw [List.mem_singleton.mp m]; exact ha⟩, fun b o e _ _ => hk b o e, fun b e => by obtain ⟨o, ho⟩ := Option.isSome_iff_exists.mp e; exact isSome_of (hk b o ho), immK_keeps hk⟩

/-- an object of the store is changed -/
theorem Inv.set {h' : Heap} {n : Nat} {a : Addr} {ao ao' : AO} {t : Nat} (I : Inv C σ F s) (hn : σ[n]? = some ao) (hF : F[n]? = some a) (hs : Heap.SameBut a s.heap h') (hr : ObjRep C F h' a ao') :
    Inv C (σ.set n ao') F { s with heap := h', toks := t } ∧ Mono [] F s.heap F h' := by
  have R := I.objs n ao a hn hF
  have hi : ImmK s.heap h' := immK_sameBut hs fun o e => R.notImm e
  have hmem : a ∈ F := List.mem_of_getElem? hF
  refine ⟨⟨fun b o e => ?_, I.fresh, I.nodup, by simp [I.len], fun k ak b hk hFk => ?_, I.gens, I.os⟩, ⟨⟨[], by simp, fun _ m => nomatch m⟩, fun b o e hb _ => ?_, fun b e => ?_, hi⟩⟩
  · have hne : b ≠ a := by rintro rfl; rw [I.fresh b hmem] at e; cases e
    exact (hs.2 b hne).trans (I.base b o e)
  · by_cases hkn : k = n
    · subst hkn
      rw [hF] at hFk; cases hFk
      have hlt : k < σ.length := by
        rcases Nat.lt_or_ge k σ.length with q | q
        · exact q
        · rw [List.getElem?_eq_none q] at hn; cases hn
      rw [List.getElem?_set_self hlt] at hk
      cases hk; exact hr
    · rw [List.getElem?_set_ne (Ne.symm hkn)] at hk
      have hne : b ≠ a := by
        rintro rfl
        exact hkn ((List.getElem?_inj (by
          rcases Nat.lt_or_ge k F.length with q | q
          · exact q
          · rw [List.getElem?_eq_none q] at hFk; cases hFk) I.nodup).mp (hFk.trans hF.symm))
      exact (I.objs k ak b hk hFk).at (hs.2 b hne) hi fun _ _ e => e
  · have hne : b ≠ a := by rintro rfl; exact hb hmem
    exact (hs.2 b hne).trans e
  · by_cases hb : b = a
    · subst hb
      obtain ⟨o, ho⟩ := hr.some
      exact isSome_of ho
    · rw [hs.2 b hb]; exact e
theorem Inv.addr {n : Nat} {ao : AO} (I : Inv C σ F s) (hn : σ[n]? = some ao) : ∃ a, F[n]? = some a ∧ ObjRep C F s.heap a ao := by
  have hlt : n < σ.length := by
    rcases Nat.lt_or_ge n σ.length with q | q
    · exact q
    · rw [List.getElem?_eq_none q] at hn; cases hn
  have hlt' : n < F.length := by rw [I.len]; exact hlt
  exact ⟨F[n], List.getElem?_eq_getElem _, I.objs n ao _ hn (List.getElem?_eq_getElem _)⟩
end

/-! ### the frame -/
noncomputable def own (env : Env) : List Addr := env.locals :: env.cells.map (·.2)

structure EnvOk (sc : Scope) (env : Env) : Prop where
  kind : env.scope.kind = .function
  glob : env.globals = mainGlobals
  blt : env.builtins = builtinsNs
  loc : ∀ x, sc.names.lookup x = some .local → env.kindOf x = some .local
  cell : ∀ x, sc.names.lookup x = some .cell → env.kindOf x = some .cell ∧ (env.cells.lookup x).isSome
  free : ∀ x, sc.names.lookup x = some .free → (env.kindOf x = some .cell ∨ env.kindOf x = some .free) ∧ (env.cells.lookup x).isSome
  gl : ∀ x, sc.names.lookup x = some .globalImplicit → env.kindOf x = some .globalImplicit
  uniq : ∀ x c c', (x, c) ∈ env.cells → (x, c') ∈ env.cells → c = c'
  noCd : sc.names.lookup ("__classdict__" : Str) ≠ some .free

structure Loc (C : Cx) (env : Env) (ρ : Rho) (F : List Addr) (h : Heap) : Prop where
  ns : ∃ m, h.Ns env.locals m ∧ ∀ x av, env.kindOf x = some .local → ρ x = some av → ∃ v, m x = some v ∧ Rep C F h av v
  cell : ∀ x c, (x, c) ∈ env.cells → ∃ ov, h.IsCell c ov ∧ ∀ av, (env.kindOf x = some .cell ∨ env.kindOf x = some .free) → ρ x = some av → ∃ v, ov = some v ∧ Rep C F h av v
  inj : ∀ x x' c, (x, c) ∈ env.cells → (x', c) ∈ env.cells → x = x'
  ne : ∀ x c, (x, c) ∈ env.cells → c ≠ env.locals
  out : ∀ a ∈ own env, a ∉ F ∧ C.h0.get? a = none

theorem Loc.mono {C : Cx} {env : Env} {ρ : Rho} {F F' : List Addr} {h h' : Heap} (L : Loc C env ρ F h) (x : Mono [] F h F' h') : Loc C env ρ F' h' := by
  obtain ⟨m, ⟨o, es, ep, ho, hr⟩, hm⟩ := L.ns
  have hL := L.out env.locals (by simp [own])
  refine ⟨⟨m, ⟨o, es, ep, x.keep _ _ ho hL.1 (by simp), hr⟩, fun y av hk hy => let ⟨v, hv, r⟩ := hm y av hk hy; ⟨v, hv, r.mono x⟩⟩, fun y c hc => ?_, L.inj, L.ne, fun a ha => ⟨?_, (L.out a ha).2⟩⟩
  · obtain ⟨ov, ⟨oc, hoc, hd⟩, hv⟩ := L.cell y c hc
    exact ⟨ov, ⟨oc, x.keep _ _ hoc (L.out c (by simp only [own, List.mem_cons, List.mem_map]; exact .inr ⟨_, hc, rfl⟩)).1 (by simp), hd⟩, fun av hk hy => let ⟨v, e, r⟩ := hv av hk hy; ⟨v, e, r.mono x⟩⟩
  · rcases List.mem_cons.mp ha with rfl | hc
    · exact x.notIn ho hL.1
    · obtain ⟨⟨y, c⟩, hyc, rfl⟩ := List.mem_map.mp hc
      obtain ⟨ov, ⟨oc, hoc, hd⟩, hv⟩ := L.cell y c hyc
      exact x.notIn hoc (L.out c ha).1

noncomputable def RepFlow (C : Cx) (F : List Addr) (h : Heap) : AF → Flow → Prop
  | .next, f => f = .next
  | .brk, f => f = .brk
  | .cont, f => f = .cont
  | .ret av, f => ∃ v, f = .ret v ∧ Rep C F h av v

structure OkA (k : Nat) (A : Around) : Prop where
  hh : A.handled = none
  depth : A.depth + k < recursionLimit
  units : A.units + 8 * k + 200 < cLine

theorem OkA.lt {k j : Nat} {A : Around} (x : OkA k A) (h : j ≤ k) : OkA j A := ⟨x.hh, by have := x.depth; omega, by have := x.units; omega⟩

/-! ### triples -/
abbrev EPost (C : Cx) (Q : AV → Store → Prop) (F : List Addr) (s : Shared) : Value → Shared → Prop :=
  fun v s' => ∃ av σ' F', Q av σ' ∧ Rep C F' s'.heap av v ∧ Inv C σ' F' s' ∧ Mono [] F s.heap F' s'.heap
abbrev NoE : Value → Shared → Prop := fun _ _ => False

noncomputable def WE (M : Model) (C : Cx) (A : Around) (env : Env) (e : Expr) (ρ : Rho) (σ : Store) (Q : AV → Store → Prop) : Prop :=
  ∀ F s, Inv C σ F s → Loc C env ρ F s.heap → wpAny M A (eval e env) (EPost C Q F s) NoE s

abbrev TPost (C : Cx) (Q : Bool → Store → Prop) (F : List Addr) (s : Shared) : Bool → Shared → Prop :=
  fun b s' => ∃ σ' F', Q b σ' ∧ Inv C σ' F' s' ∧ Mono [] F s.heap F' s'.heap
noncomputable def WT (M : Model) (C : Cx) (A : Around) (env : Env) (e : Expr) (ρ : Rho) (σ : Store) (Q : Bool → Store → Prop) : Prop :=
  ∀ F s, Inv C σ F s → Loc C env ρ F s.heap → wpAny M A (isTrue e env (eval e env)) (TPost C Q F s) NoE s

abbrev SPost (C : Cx) (env : Env) (Q : AF → Rho → Store → Prop) (F : List Addr) (s : Shared) : Flow → Shared → Prop :=
  fun f s' => ∃ af ρ' σ' F', Q af ρ' σ' ∧ RepFlow C F' s'.heap af f ∧ Inv C σ' F' s' ∧ Loc C env ρ' F' s'.heap ∧ Mono (own env) F s.heap F' s'.heap
noncomputable def WS (M : Model) (C : Cx) (A : Around) (env : Env) (st : Stmt) (ρ : Rho) (σ : Store) (Q : AF → Rho → Store → Prop) : Prop :=
  ∀ F s, Inv C σ F s → Loc C env ρ F s.heap → wpAny M A (exec st env) (SPost C env Q F s) NoE s
noncomputable def WB (M : Model) (C : Cx) (A : Around) (env : Env) (sts : List Stmt) (ρ : Rho) (σ : Store) (Q : AF → Rho → Store → Prop) : Prop :=
  ∀ F s, Inv C σ F s → Loc C env ρ F s.heap → wpAny M A (execs sts env) (SPost C env Q F s) NoE s

end Mine

/-! W3 -/
namespace Mine

section
variable {M : Model} {C : Cx} {A : Around} {env : Env} {ρ : Rho} {σ : Store} {F : List Addr} {s : Shared}

theorem EPost.trans {Q : AV → Store → Prop} {F1 : List Addr} {s1 : Shared} (m : Mono [] F s.heap F1 s1.heap) : ∀ v s', EPost C Q F1 s1 v s' → EPost C Q F s v s' :=
  fun _ _ ⟨av, σ', F', q, r, i, m'⟩ => ⟨av, σ', F', q, r, i, m.trans m'⟩
theorem TPost.trans {Q : Bool → Store → Prop} {F1 : List Addr} {s1 : Shared} (m : Mono [] F s.heap F1 s1.heap) : ∀ v s', TPost C Q F1 s1 v s' → TPost C Q F s v s' :=
  fun _ _ ⟨σ', F', q, i, m'⟩ => ⟨σ', F', q, i, m.trans m'⟩

theorem ep_tok {Q : AV → Store → Prop} {av : AV} {v : Value} (I : Inv C σ F s) (r : Rep C F s.heap av v) (q : Q av σ) (t : Nat) : EPost C Q F s v { s with toks := t } :=
  ⟨av, σ, F, q, r, I.tok t, Mono.refl _ _ _⟩
theorem ep_here {Q : AV → Store → Prop} {av : AV} {v : Value} (I : Inv C σ F s) (r : Rep C F s.heap av v) (q : Q av σ) : EPost C Q F s v s := ep_tok I r q s.toks
theorem ep_keeps {Q : AV → Store → Prop} {av : AV} {v : Value} {h' : Heap} (I : Inv C σ F s) (hk : ∀ b o, s.heap.get? b = some o → h'.get? b = some o) (r : Rep C F h' av v) (q : Q av σ) (t : Nat) :
    EPost C Q F s v { s with heap := h', toks := t } := ⟨av, σ, F, q, r, I.keeps hk, Mono.keeps hk⟩
theorem ep_new {Q : AV → Store → Prop} {ao : AO} {h' : Heap} {a : Addr} (I : Inv C σ F s) (hk : ∀ b o, s.heap.get? b = some o → h'.get? b = some o) (ha : s.heap.get? a = none)
    (hr : ObjRep C (F ++ [a]) h' a ao) (q : Q (.loc σ.length) (σ ++ [ao])) (t : Nat) : EPost C Q F s (.ref a) { s with heap := h', toks := t } :=
  ⟨.loc σ.length, _, _, q, ⟨a, by rw [← I.len]; simp, rfl⟩, I.new hk ha hr, Mono.new hk ha⟩

theorem WE.mono {Q Q' : AV → Store → Prop} {e : Expr} (h : WE M C A env e ρ σ Q) (hq : ∀ v σ', Q v σ' → Q' v σ') : WE M C A env e ρ σ Q' :=
  fun F s I L => wpAny_mono (h F s I L) (fun _ _ ⟨av, σ', F', q, r⟩ => ⟨av, σ', F', hq _ _ q, r⟩) fun _ _ x => x
theorem WT.mono {Q Q' : Bool → Store → Prop} {e : Expr} (h : WT M C A env e ρ σ Q) (hq : ∀ v σ', Q v σ' → Q' v σ') : WT M C A env e ρ σ Q' :=
  fun F s I L => wpAny_mono (h F s I L) (fun _ _ ⟨σ', F', q, r⟩ => ⟨σ', F', hq _ _ q, r⟩) fun _ _ x => x

/-- one expression, then a step upon its value -/
theorem we_then {Q1 : AV → Store → Prop} {e : Expr} {k : Value → Shared → Prop} (I : Inv C σ F s) (L : Loc C env ρ F s.heap) (h : WE M C A env e ρ σ Q1)
    (hk : ∀ v s1 av σ1 F1, Q1 av σ1 → Rep C F1 s1.heap av v → Inv C σ1 F1 s1 → Loc C env ρ F1 s1.heap → Mono [] F s.heap F1 s1.heap → k v s1) :
    wpAny M A (eval e env) k NoE s :=
  wpAny_mono (h F s I L) (fun v s1 ⟨av, σ1, F1, q, r, i, m⟩ => hk v s1 av σ1 F1 q r i (L.mono m) m) fun _ _ x => x

abbrev I' (i : Int) : AV := .d (.s (.int i))
abbrev B' (b : Bool) : AV := .d (.s (.bool b))
abbrev N' : AV := .d (.s .none)
abbrev S' (x : Str) : AV := .d (.s (.str x))
theorem rep_int {h : Heap} (i : Int) (t : Tok) : Rep C F h (I' i) (.int i t) := ⟨t, rfl⟩
theorem rep_bool {h : Heap} (b : Bool) : Rep C F h (B' b) (.bool b) := (rfl : (Value.bool b) = .bool b)
theorem rep_none {h : Heap} : Rep C F h N' .none := (rfl : Value.none = .none)
theorem rep_str {h : Heap} {x : Str} (t : Tok) (hx : PyData.strOk x = true) : Rep C F h (S' x) (.str x t) := ⟨hx, t, rfl⟩
theorem rep_int_inv {h : Heap} {i : Int} {v : Value} (r : Rep C F h (I' i) v) : ∃ t, v = .int i t := r
theorem rep_bool_inv {h : Heap} {b : Bool} {v : Value} (r : Rep C F h (B' b) v) : v = .bool b := r
theorem rep_tup {h : Heap} {xs : List S} {a : Addr} {items : Array Value} {n : Nat} (ht : IsT h a items n) (r : RepSs xs items.toList) : Rep C F h (.d (.t xs)) (.ref a) := ⟨a, items, n, rfl, ht, r⟩
theorem obj_list {h : Heap} {ds : List D} {a : Addr} {items : Array Value} {n : Nat} (hl : IsL h a items n) (r : RepDs h ds items.toList) : ObjRep C F h a (.list ds) := ⟨items, n, hl, r⟩
theorem rep_loc {h : Heap} {n : Nat} {a : Addr} (e : F[n]? = some a) : Rep C F h (.loc n) (.ref a) := ⟨a, e, rfl⟩

/-! ### atoms -/
theorem we_int {i : Int} {k pos} {Q : AV → Store → Prop} (h : Q (.d (.s (.int i))) σ) : WE M C A env (.Constant (.int i) k pos) ρ σ Q :=
  fun _ _ I _ => wpAny_Constant_int (ep_tok I (rep_int _ _) h _)
theorem we_str {x : Str} {k pos} {Q : AV → Store → Prop} (hx : PyData.strOk x = true) (h : Q (.d (.s (.str x))) σ) : WE M C A env (.Constant (.str x) k pos) ρ σ Q :=
  fun _ _ I _ => wpAny_Constant_str (ep_tok I (rep_str _ hx) h _)
theorem we_bool {b : Bool} {k pos} {Q : AV → Store → Prop} (h : Q (.d (.s (.bool b))) σ) : WE M C A env (.Constant (.bool b) k pos) ρ σ Q :=
  fun _ _ I _ => wpAny_Constant_bool (ep_here I (rep_bool _) h)
theorem we_none {k pos} {Q : AV → Store → Prop} (h : Q (.d (.s .none)) σ) : WE M C A env (.Constant .none k pos) ρ σ Q :=
  fun _ _ I _ => wpAny_Constant_none (ep_here I rep_none h)

noncomputable def isVar (sc : Scope) (x : Str) : Bool := (match sc.names.lookup x with | some .local | some .cell | some .free => true | _ => false) && !(x == ("__debug__" : Str))

theorem load_var {sc : Scope} {x : Str} {av : AV} {Q : Value → Shared → Prop} (O : EnvOk sc env) (hx : isVar sc x = true) (hv : ρ x = some av) (L : Loc C env ρ F s.heap)
    (h : ∀ v, Rep C F s.heap av v → Q v s) : wpAny M A (loadName env x) Q NoE s := by
  unfold isVar at hx
  rw [Bool.and_eq_true] at hx
  obtain ⟨h1, _⟩ := hx
  split at h1
  · rename_i hk
    obtain ⟨m, hn, hm⟩ := L.ns
    obtain ⟨v, hmv, r⟩ := hm x av (O.loc x hk) hv
    exact wpAny_loadName_local O.kind (O.loc x hk) hn hmv (h v r)
  · rename_i hk
    obtain ⟨hk', hc⟩ := O.cell x hk
    obtain ⟨c, hc⟩ := Option.isSome_iff_exists.mp hc
    obtain ⟨ov, hcell, hov⟩ := L.cell x c (mem_of_lookup hc)
    obtain ⟨v, rfl, r⟩ := hov av (.inl hk') hv
    exact wpAny_loadName_cell O.kind hk' hc hcell (h v r)
  · rename_i hk
    obtain ⟨hk', hc⟩ := O.free x hk
    obtain ⟨c, hc⟩ := Option.isSome_iff_exists.mp hc
    obtain ⟨ov, hcell, hov⟩ := L.cell x c (mem_of_lookup hc)
    obtain ⟨v, rfl, r⟩ := hov av hk' hv
    rcases hk' with hk' | hk'
    · exact wpAny_loadName_cell O.kind hk' hc hcell (h v r)
    · by_cases hcd : (x == ("__classdict__" : Str)) = true
      · exact absurd hk' (fun _ => by
          have := beq_iff_eq.mp hcd
          exact O.noCd (this ▸ hk))
      · exact wpAny_loadName_free O.kind hk' hc hcell (h v r) (by simpa using hcd)
  · cases h1

theorem we_name {sc : Scope} {x : Str} {pos} {av : AV} {Q : AV → Store → Prop} (O : EnvOk sc env) (hx : isVar sc x = true) (hv : ρ x = some av) (h : Q av σ) : WE M C A env (.Name x pos) ρ σ Q :=
  fun F s I L => wpAny_Name (load_var O hx hv L fun v r => ep_here I r h) (by unfold isVar at hx; rw [Bool.and_eq_true] at hx; simpa using hx.2)

/-! ### operators -/
end
section
variable {prog : Program} {w : World} {C : Cx} {A : Around} {env : Env} {ρ : Rho} {σ : Store} {F : List Addr} {s : Shared}

inductive binop : Operator → AV → AV → Store → (AV → Store → Prop) → Prop
  | addI {i j : Int} {σ : Store} {Q : AV → Store → Prop} (h : Q (I' (i + j)) σ) : binop .Add (I' i) (I' j) σ Q
  | subI {i j : Int} {σ : Store} {Q : AV → Store → Prop} (h : Q (I' (i - j)) σ) : binop .Sub (I' i) (I' j) σ Q
  | mulI {i j : Int} {σ : Store} {Q : AV → Store → Prop} (h1 : IntMulOk i j) (h : Q (I' (i * j)) σ) : binop .Mult (I' i) (I' j) σ Q
  | modI {i j : Int} {σ : Store} {Q : AV → Store → Prop} (h1 : j ≠ 0) (h : Q (I' (i.fmod j)) σ) : binop .Mod (I' i) (I' j) σ Q
  | divI {i j : Int} {σ : Store} {Q : AV → Store → Prop} (h1 : j ≠ 0) (h2 : j.natAbs < 1073741824) (h : Q (I' (i.fdiv j)) σ) : binop .FloorDiv (I' i) (I' j) σ Q
  | addT {xs ys : List S} {σ : Store} {Q : AV → Store → Prop} (h1 : xs ≠ []) (h2 : xs.length + ys.length ≤ 1000) (h : Q (.d (.t (xs ++ ys))) σ) : binop .Add (.d (.t xs)) (.d (.t ys)) σ Q
  | addL {n m : Nat} {ds es : List D} {σ : Store} {Q : AV → Store → Prop} (h1 : σ[n]? = some (.list ds)) (h2 : σ[m]? = some (.list es)) (h3 : ds.length + es.length ≤ 1000000) (h : Q (.loc σ.length) (σ ++ [.list (ds ++ es)])) : binop .Add (.loc n) (.loc m) σ Q
  | rep {n : Nat} {x : D} {k : Int} {σ : Store} {Q : AV → Store → Prop} (h1 : σ[n]? = some (.list [x])) (h2 : 0 ≤ k) (h3 : k ≤ 1000000) (h : Q (.loc σ.length) (σ ++ [.list (List.replicate k.toNat x)])) : binop .Mult (.loc n) (I' k) σ Q

theorem foldl_one (v : Value) : ∀ (k : Nat) (acc : Array Value), (List.foldl (fun x1 x2 => x1 ++ x2) acc (List.replicate k #[v])).toList = acc.toList ++ List.replicate k v
  | 0, acc => by simp
  | k + 1, acc => by rw [List.replicate_succ, List.foldl_cons, foldl_one v k]; simp [List.replicate_succ]
theorem repDs_replicate {h : Heap} {x : D} {v : Value} (r : RepD h x v) : ∀ k, RepDs h (List.replicate k x) (List.replicate k v)
  | 0 => rfl
  | k + 1 => ⟨v, _, rfl, r, repDs_replicate r k⟩
theorem sizeLine_big {n : Nat} (h : n ≤ 1000000) : n ≤ sizeLine := by rw [sizeLine_eq]; omega

theorem binop_ok {op : Operator} {a b : AV} {va vb : Value} {Q : AV → Store → Prop} (h : binop op a b σ Q) (I : Inv C σ F s) (ra : Rep C F s.heap a va) (rb : Rep C F s.heap b vb) :
    wpAny (model prog w) A (binaryOp op va vb) (EPost C Q F s) NoE s := by
  cases h with
  | addI h =>
    obtain ⟨t, rfl⟩ := rep_int_inv ra; obtain ⟨u, rfl⟩ := rep_int_inv rb
    exact PyProof.Rows.add_int (ep_tok I (rep_int _ _) h _)
  | subI h =>
    obtain ⟨t, rfl⟩ := rep_int_inv ra; obtain ⟨u, rfl⟩ := rep_int_inv rb
    exact PyProof.Rows.sub_int (ep_tok I (rep_int _ _) h _)
  | mulI h1 h =>
    obtain ⟨t, rfl⟩ := rep_int_inv ra; obtain ⟨u, rfl⟩ := rep_int_inv rb
    exact PyProof.Rows.mul_int (ep_tok I (rep_int _ _) h _) h1
  | modI h1 h =>
    obtain ⟨t, rfl⟩ := rep_int_inv ra; obtain ⟨u, rfl⟩ := rep_int_inv rb
    exact PyProof.Rows.mod_int h1 (ep_tok I (rep_int _ _) h _)
  | divI h1 h2 h =>
    obtain ⟨t, rfl⟩ := rep_int_inv ra; obtain ⟨u, rfl⟩ := rep_int_inv rb
    exact PyProof.Rows.floordiv_int h1 (ep_tok I (rep_int _ _) h _) (.inl (PyProof.noPylong_small h2))
  | @addT xs ys _ _ hne hsz hq =>
    obtain ⟨a1, items, n, rfl, ht, r1⟩ := ra
    obtain ⟨a2, items2, n2, rfl, ht2, r2⟩ := rb
    have l1 := r1.length
    have l2 := r2.length
    rw [Array.length_toList] at l1 l2
    have e1 : ¬ items.isEmpty = true := by
      rw [Array.isEmpty_iff_size_eq_zero]; intro q
      exact hne (List.length_eq_zero_iff.mp (l1.symm.trans q))
    by_cases e2 : items2.isEmpty = true
    · refine concat_meets ⟨_, ht, rfl⟩ ⟨_, ht2, rfl⟩ noFill_tuple_add seq_tuple_add PySem.F.slot_tuple_add PySem.F.entry_tuple_add (PySem.F.args_tuple_add_2 _ _)
        (AutoSeq1.tuple___add___tuple_tuple_1 a1 items n a2 items2 n2 e1 e2) ⟨ht, ht2, ?_⟩
      have : items2.size = 0 := Array.isEmpty_iff_size_eq_zero.mp e2
      have hy : ys = [] := List.length_eq_zero_iff.mp (l2.symm.trans this)
      subst hy
      exact ep_here I (rep_tup ht (by simpa using r1)) hq
    · refine P.add_tuple ht ht2 e1 e2 ?_ (sizeLine_big (by omega))
      exact ep_keeps I (push_keeps _ _) (rep_tup (Heap.get?_push_size _ rfl) (by rw [Array.toList_append]; exact r1.append r2)) hq _
  | @addL n m ds es _ _ h1 h2 hsz hq =>
    obtain ⟨a1, hF1, rfl⟩ := ra
    obtain ⟨a2, hF2, rfl⟩ := rb
    obtain ⟨i1, k1, hl1, r1⟩ := I.objs _ _ _ h1 hF1
    obtain ⟨i2, k2, hl2, r2⟩ := I.objs _ _ _ h2 hF2
    have l1 := r1.length
    have l2 := r2.length
    rw [Array.length_toList] at l1 l2
    refine P.add_list hl1 hl2 ?_ (sizeLine_big (by omega))
    exact ep_new I (push_keeps _ _) (get_none_of_ge (Nat.le_refl _)) (obj_list (Heap.get?_push_size _ rfl) (by rw [Array.toList_append]; exact (r1.append r2).imm (immK_keeps (push_keeps _ _)))) hq _
  | @rep n x k _ _ h1 h0 hsz hq =>
    obtain ⟨a1, hF1, rfl⟩ := ra
    obtain ⟨u, rfl⟩ := rep_int_inv rb
    obtain ⟨items, n, hl, r1⟩ := I.objs _ _ _ h1 hF1
    obtain ⟨v, rr, e, rv, hr⟩ := r1
    cases hr
    have hi : items = #[v] := by rw [← Array.toList_inj, e]
    subst hi
    refine wpAny_binaryOp_repeat_ref (T := "list") (U := "int") (by decide) ⟨_, hl, rfl⟩ (fun s' => typeIs_int s' k u) noFill_list_mul PySem.F.fills_int_mul PySem.F.slot_int_rmul repeat_list PySem.F.slot_int_index.lookup
      (call_meets PySem.F.slot_int_rmul (typeIs_int s k u) PySem.F.entry_int_rmul (PySem.F.args_int_rmul_2 _ _) (int___rmul___int_list k u a1 #[v] n)
      ⟨hl, rfl, ⟨_, hl, rfl⟩, call_meets PySem.F.slot_list_mul ⟨_, hl, rfl⟩ PySem.F.entry_list_mul (PySem.F.args_list_mul_2 _ _)
        (AutoListH.list___mul___list_int_3 a1 #[v] n k u (by simp [Builtin.List.listFitsIndex]; omega) (by simp; omega) (by simp [Builtin.List.listTooLong, sizeLine]; omega))
        ⟨hl, ?_⟩⟩)
    refine ep_new I (push_keeps _ _) (get_none_of_ge (Nat.le_refl _)) (obj_list (Heap.get?_push_size _ rfl) ?_) hq _
    rw [if_neg (by simp), foldl_one]
    simpa using (repDs_replicate rv k.toNat).imm (immK_keeps (push_keeps _ _))

theorem we_binop {l r : Expr} {op : Operator} {pos} {Q : AV → Store → Prop} (h : WE (model prog w) C A env l ρ σ fun a σ1 => WE (model prog w) C A env r ρ σ1 fun b σ2 => binop op a b σ2 Q) :
    WE (model prog w) C A env (.BinOp l op r pos) ρ σ Q := fun F s I L =>
  wpAny_BinOp (we_then I L h fun va s1 a σ1 F1 h1 ra I1 L1 m1 => we_then I1 L1 h1 fun vb s2 b σ2 F2 h2 rb I2 L2 m2 =>
    wpAny_mono (binop_ok h2 I2 (ra.mono m2) rb) (EPost.trans (m1.trans m2)) fun _ _ x => x)

inductive cmp : CmpOp → AV → AV → Store → Bool → Prop
  | lt {i j : Int} {σ : Store} : cmp .Lt (I' i) (I' j) σ (decide (i < j))
  | ge {i j : Int} {σ : Store} : cmp .GtE (I' i) (I' j) σ (decide (j ≤ i))
  | gt {i j : Int} {σ : Store} : cmp .Gt (I' i) (I' j) σ (decide (j < i))
  | eqD {x y : D} {σ : Store} (h1 : x.nb = true) (h2 : y.nb = true) : cmp .Eq (.d x) (.d y) σ (decide (x = y))
  | neD {x y : D} {σ : Store} (h1 : x.nb = true) (h2 : y.nb = true) : cmp .NotEq (.d x) (.d y) σ (!decide (x = y))
  | eqL {n m : Nat} {xs ys : List D} {σ : Store} (e1 : σ[n]? = some (.list xs)) (e2 : σ[m]? = some (.list ys)) (h1 : xs.all D.nb = true) (h2 : ys.all D.nb = true) : cmp .Eq (.loc n) (.loc m) σ (decide (xs = ys))
  | neL {n m : Nat} {xs ys : List D} {σ : Store} (e1 : σ[n]? = some (.list xs)) (e2 : σ[m]? = some (.list ys)) (h1 : xs.all D.nb = true) (h2 : ys.all D.nb = true) : cmp .NotEq (.loc n) (.loc m) σ (!decide (xs = ys))
  | inT {x : S} {ys : List S} {σ : Store} (h1 : x.nb = true) (h2 : ys.all S.nb = true) : cmp .In (.d (.s x)) (.d (.t ys)) σ (decide (x ∈ ys))
  | niT {x : S} {ys : List S} {σ : Store} (h1 : x.nb = true) (h2 : ys.all S.nb = true) : cmp .NotIn (.d (.s x)) (.d (.t ys)) σ (!decide (x ∈ ys))
  | inL {x : D} {m : Nat} {ys : List D} {σ : Store} (e : σ[m]? = some (.list ys)) (h1 : x.nb = true) (h2 : ys.all D.nb = true) : cmp .In (.d x) (.loc m) σ (decide (x ∈ ys))
  | niL {x : D} {m : Nat} {ys : List D} {σ : Store} (e : σ[m]? = some (.list ys)) (h1 : x.nb = true) (h2 : ys.all D.nb = true) : cmp .NotIn (.d x) (.loc m) σ (!decide (x ∈ ys))
  | inK {i : Int} {m : Nat} {ks : List Int} {σ : Store} (e : σ[m]? = some (.dict ks)) : cmp .In (I' i) (.loc m) σ (decide (i ∈ ks))
  | niK {i : Int} {m : Nat} {ks : List Int} {σ : Store} (e : σ[m]? = some (.dict ks)) : cmp .NotIn (I' i) (.loc m) σ (!decide (i ∈ ks))

theorem list_reads {n : Nat} {xs : List D} {v : Value} (I : Inv C σ F s) (r : Rep C F s.heap (.loc n) v) (e : σ[n]? = some (.list xs)) :
    ∃ a, Reads s.heap v (.list (xs.map D.py)) [a] ∧ PyData.canLayAll0 (xs.map D.py) = true := by
  obtain ⟨a, hF, rfl⟩ := r
  obtain ⟨items, k, hl, rr⟩ := I.objs _ _ _ e hF
  exact ⟨a, .list hl rfl rfl rr.reads, rr.lay⟩

theorem wpAny_notIn_int {d : Addr} {f : Int → Option Value} {k : Int} {t : Tok} {Q : Value → Shared → Prop} (hm : s.heap.IntMap d f)
    (h : Q (.bool (!(f k).isSome)) { s with toks := s.toks + 1 }) : wpAny (model prog w) A (compareOp .NotIn (.int k t) (.ref d)) Q NoE s := by
  show wpAny _ _ (do return .bool (!(← contains (.ref d) (.int k t)))) Q NoE s
  refine wpAny_bind ?_
  unfold contains
  try with_reducible refine wpAny_holding ?_
  refine wpAny_bind (wpAny_specialOf hm.typeIs slot_dict_contains.lookup ?_)
  show wpAny _ _ (if (some (Value.builtin "dict.__contains__") == some Value.none) = true then _ else _) _ _ s
  rw [if_neg (by rw [beq_builtin_none]; exact Bool.false_ne_true)]
  refine wpAny_bind (wpAny_callSpecialUnlessNone?_slot (name := Str.ofString "__contains__") hm.typeIs slot_dict_contains
    (wpAny_call_entry slot_dict_contains hm.typeIs entry_dict_contains ?_ (args_dict_contains _ _)))
  show wpAny _ _ (dictGet d (.int k t) >>= _) _ _ s
  refine wpAny_bind (wpAny_dictGet_int hm ?_)
  cases hf : f k with
  | some v =>
    rw [hf] at h
    show wpAny _ _ (ret (.bool true)) _ _ _
    exact wpAny_pure ⟨_, rfl, wpAny_truthy_bool (wpAny_pure h)⟩
  | none =>
    rw [hf] at h
    show wpAny _ _ (Builtin.Dict.pendingKey? d (.int k t) >>= _) _ _ _
    exact wpAny_bind (wpAny_pendingKey_int (wpAny_pure ⟨_, rfl, wpAny_truthy_bool (wpAny_pure h)⟩))

theorem depth2 (x y : D) : min x.py.depth y.py.depth ≤ 1 := Nat.le_trans (Nat.min_le_left _ _) (D.depth x)
theorem depthL (xs ys : List D) : min (PyData.list (xs.map D.py)).depth (PyData.list (ys.map D.py)).depth ≤ 2 := by
  have := D.depthAll xs
  have := Nat.min_le_left (PyData.list (xs.map D.py)).depth (PyData.list (ys.map D.py)).depth
  simp only [PyData.depth] at *
  omega
theorem layL {xs : List D} (h : PyData.canLayAll0 (xs.map D.py) = true) : (PyData.list (xs.map D.py)).canLay0 = true := by simpa [PyData.canLay0] using h
theorem cmp_ok {op : CmpOp} {a b : AV} {va vb : Value} {c : Bool} {Q : AV → Store → Prop} (h : cmp op a b σ c) (hq : Q (B' c) σ) (I : Inv C σ F s) (ra : Rep C F s.heap a va) (rb : Rep C F s.heap b vb)
    (hu : A.units + 100 < cLine) : wpAny (model prog w) A (compareOp op va vb) (EPost C Q F s) NoE s := by
  have fin : EPost C Q F s (.bool c) s := ep_here I (rep_bool c) hq
  cases h with
  | lt => obtain ⟨t, rfl⟩ := rep_int_inv ra; obtain ⟨u, rfl⟩ := rep_int_inv rb
          exact PyProof.Rows.lt_int fin
  | ge => obtain ⟨t, rfl⟩ := rep_int_inv ra; obtain ⟨u, rfl⟩ := rep_int_inv rb
          exact PyProof.Rows.ge_int fin
  | gt => obtain ⟨t, rfl⟩ := rep_int_inv ra; obtain ⟨u, rfl⟩ := rep_int_inv rb
          exact PyProof.Rows.gt_int fin
  | @eqD x y _ h1 h2 =>
    refine SeqAt.compareEq_reads (RepD.reads ra) (RepD.reads rb) (RepD.lay ra) (RepD.lay rb) ?_ (by rw [D.eqv h1 h2]; exact fin)
    have := depth2 x y
    omega
  | @neD x y _ h1 h2 =>
    refine SeqAt.compareNe_reads (RepD.reads ra) (RepD.reads rb) (RepD.lay ra) (RepD.lay rb) ?_ (by rw [D.eqv h1 h2]; exact fin)
    have := depth2 x y
    omega
  | @eqL n m xs ys _ e1 e2 h1 h2 =>
    obtain ⟨a1, r1, l1⟩ := list_reads I ra e1
    obtain ⟨a2, r2, l2⟩ := list_reads I rb e2
    refine SeqAt.compareEq_reads r1 r2 (layL l1) (layL l2) ?_ (by rw [PyData.eqv, D.eqvAll h1 h2]; exact fin)
    have := depthL xs ys
    omega
  | @neL n m xs ys _ e1 e2 h1 h2 =>
    obtain ⟨a1, r1, l1⟩ := list_reads I ra e1
    obtain ⟨a2, r2, l2⟩ := list_reads I rb e2
    refine SeqAt.compareNe_reads r1 r2 (layL l1) (layL l2) ?_ (by rw [PyData.eqv, D.eqvAll h1 h2]; exact fin)
    have := depthL xs ys
    omega
  | @inT x ys _ h1 h2 =>
    obtain ⟨a1, items, k, rfl, ht, r1⟩ := rb
    refine SeqAt.in_tuple_reads (Reads.tuple ht rfl rfl (r1.reads _)) (RepS.reads _ ra) r1.lay (RepS.lay ra) ?_ (by rw [S.any_eqv h1 h2]; exact fin)
    rw [S.depthAll, Nat.zero_min]; omega
  | @niT x ys _ h1 h2 =>
    obtain ⟨a1, items, k, rfl, ht, r1⟩ := rb
    refine SeqAt.notIn_tuple_reads (Reads.tuple ht rfl rfl (r1.reads _)) (RepS.reads _ ra) r1.lay (RepS.lay ra) ?_ (by rw [S.any_eqv h1 h2]; exact fin)
    rw [S.depthAll, Nat.zero_min]; omega
  | @inL x m ys _ e h1 h2 =>
    obtain ⟨a2, r2, l2⟩ := list_reads I rb e
    refine SeqAt.in_list_reads r2 (RepD.reads ra) l2 (RepD.lay ra) ?_ (by rw [D.any_eqv h1 h2]; exact fin)
    have := D.depth x
    have := Nat.min_le_right (PyData.depthAll (ys.map D.py)) x.py.depth
    omega
  | @niL x m ys _ e h1 h2 =>
    obtain ⟨a2, r2, l2⟩ := list_reads I rb e
    refine SeqAt.notIn_list_reads r2 (RepD.reads ra) l2 (RepD.lay ra) ?_ (by rw [D.any_eqv h1 h2]; exact fin)
    have := D.depth x
    have := Nat.min_le_right (PyData.depthAll (ys.map D.py)) x.py.depth
    omega
  | @inK i m ks _ e =>
    obtain ⟨t, rfl⟩ := rep_int_inv ra
    obtain ⟨a2, hF, rfl⟩ := rb
    obtain ⟨f, hm, hs, hle⟩ := I.objs _ _ _ e hF
    refine wpAny_in_intMap hm ?_
    rw [hs i]
    exact ep_tok I (rep_bool _) hq _
  | @niK i m ks _ e =>
    obtain ⟨t, rfl⟩ := rep_int_inv ra
    obtain ⟨a2, hF, rfl⟩ := rb
    obtain ⟨f, hm, hs, hle⟩ := I.objs _ _ _ e hF
    refine wpAny_notIn_int hm ?_
    rw [hs i]
    exact ep_tok I (rep_bool _) hq _

noncomputable def notSet : Expr → Bool
  | .Set .. => false
  | _ => true
theorem notSet_marks {op : CmpOp} {e : Expr} (h : notSet e = true) : behindInMarks op e = false := by
  cases e <;> first | rfl | cases h

theorem we_cmp {l r : Expr} {op : CmpOp} {pos} {Q : AV → Store → Prop} (hu : A.units + 100 < cLine) (hr : notSet r = true)
    (h : WE (model prog w) C A env l ρ σ fun a σ1 => WE (model prog w) C A env r ρ σ1 fun b σ2 => ∃ c, cmp op a b σ2 c ∧ Q (B' c) σ2) :
    WE (model prog w) C A env (.Compare l [op] [r] pos) ρ σ Q := fun F s I L =>
  wpAny_Compare1 (we_then I L h fun va s1 a σ1 F1 h1 ra I1 L1 m1 => we_then I1 L1 h1 fun vb s2 b σ2 F2 ⟨c, h2, hq⟩ rb I2 L2 m2 =>
    wpAny_mono (cmp_ok h2 hq I2 (ra.mono m2) rb hu) (EPost.trans (m1.trans m2)) fun _ _ x => x) (notSet_marks hr)
theorem wt_cmp {l r : Expr} {op : CmpOp} {pos} {Q : Bool → Store → Prop} (hu : A.units + 100 < cLine) (hr : notSet r = true)
    (h : WE (model prog w) C A env l ρ σ fun a σ1 => WE (model prog w) C A env r ρ σ1 fun b σ2 => ∃ c, cmp op a b σ2 c ∧ Q c σ2) :
    WT (model prog w) C A env (.Compare l [op] [r] pos) ρ σ Q := fun F s I L =>
  wpAny_isTrue_Compare1 (we_then I L h fun va s1 a σ1 F1 h1 ra I1 L1 m1 => we_then I1 L1 h1 fun vb s2 b σ2 F2 ⟨c, h2, hq⟩ rb I2 L2 m2 =>
    wpAny_mono (cmp_ok (Q := fun av σ' => av = B' c ∧ Q c σ') h2 ⟨rfl, hq⟩ I2 (ra.mono m2) rb hu) (fun v s3 ⟨av, σ3, F3, ⟨e, q⟩, r3, I3, m3⟩ => by
      subst e; obtain rfl := rep_bool_inv r3
      exact wpAny_truthy_bool ⟨σ3, F3, q, I3, (m1.trans m2).trans m3⟩) fun _ _ x => x) (notSet_marks hr)
end
end Mine

/-! W4 -/
namespace Mine

section
variable {prog : Program} {w : World} {C : Cx} {A : Around} {env : Env} {ρ : Rho} {σ : Store} {F : List Addr} {s : Shared}

/-! ### tests -/
theorem wt_then {M : Model} {Q1 : Bool → Store → Prop} {e : Expr} {k : Bool → Shared → Prop} (I : Inv C σ F s) (L : Loc C env ρ F s.heap) (h : WT M C A env e ρ σ Q1)
    (hk : ∀ v s1 σ1 F1, Q1 v σ1 → Inv C σ1 F1 s1 → Loc C env ρ F1 s1.heap → Mono [] F s.heap F1 s1.heap → k v s1) :
    wpAny M A (isTrue e env (eval e env)) k NoE s :=
  wpAny_mono (h F s I L) (fun v s1 ⟨σ1, F1, q, i, m⟩ => hk v s1 σ1 F1 q i (L.mono m) m) fun _ _ x => x

theorem wt_not {x : Expr} {pos} {Q : Bool → Store → Prop} (h : WT (model prog w) C A env x ρ σ fun b => Q (!b)) : WT (model prog w) C A env (.UnaryOp .Not x pos) ρ σ Q :=
  fun F s I L => wpAny_isTrue_Not (wt_then I L h fun b s1 σ1 F1 q I1 _ m => ⟨σ1, F1, q, I1, m⟩)

noncomputable def WTs (M : Model) (C : Cx) (A : Around) (env : Env) (op : BoolOp) (es : List Expr) (ρ : Rho) (σ : Store) (Q : Bool → Store → Prop) : Prop :=
  ∀ F s, Inv C σ F s → Loc C env ρ F s.heap → wpAny M A (allTrue op es env) (TPost C Q F s) NoE s
theorem wts_and_nil {Q : Bool → Store → Prop} (h : Q true σ) : WTs (model prog w) C A env .And [] ρ σ Q := fun _ _ I _ => wpAny_allTrue_And_nil ⟨_, _, h, I, Mono.refl _ _ _⟩
theorem wts_or_nil {Q : Bool → Store → Prop} (h : Q false σ) : WTs (model prog w) C A env .Or [] ρ σ Q := fun _ _ I _ => wpAny_allTrue_Or_nil ⟨_, _, h, I, Mono.refl _ _ _⟩
theorem wts_and_cons {x : Expr} {r : List Expr} {Q : Bool → Store → Prop} (h : WT (model prog w) C A env x ρ σ fun b σ1 => if b = true then WTs (model prog w) C A env .And r ρ σ1 Q else Q false σ1) :
    WTs (model prog w) C A env .And (x :: r) ρ σ Q := fun F s I L => wpAny_allTrue_And_cons (wt_then I L h fun b s1 σ1 F1 q I1 L1 m => by
  cases b
  · exact ⟨σ1, F1, q, I1, m⟩
  · exact wpAny_mono (q F1 s1 I1 L1) (TPost.trans m) fun _ _ x => x)
theorem wts_or_cons {x : Expr} {r : List Expr} {Q : Bool → Store → Prop} (h : WT (model prog w) C A env x ρ σ fun b σ1 => if b = true then Q true σ1 else WTs (model prog w) C A env .Or r ρ σ1 Q) :
    WTs (model prog w) C A env .Or (x :: r) ρ σ Q := fun F s I L => wpAny_allTrue_Or_cons (wt_then I L h fun b s1 σ1 F1 q I1 L1 m => by
  cases b
  · exact wpAny_mono (q F1 s1 I1 L1) (TPost.trans m) fun _ _ x => x
  · exact ⟨σ1, F1, q, I1, m⟩)
theorem wt_boolop {op : BoolOp} {es : List Expr} {pos} {Q : Bool → Store → Prop} (h : WTs (model prog w) C A env op es ρ σ Q) : WT (model prog w) C A env (.BoolOp op es pos) ρ σ Q :=
  fun F s I L => wpAny_isTrue_BoolOp (h F s I L)

noncomputable def plainTest : Expr → Bool
  | .UnaryOp .. | .BoolOp .. | .IfExp .. | .Compare .. => false
  | _ => true
theorem wt_value {e : Expr} {Q : Bool → Store → Prop} (he : plainTest e = true) (h : WE (model prog w) C A env e ρ σ fun v σ1 => ∃ b, v = B' b ∧ Q b σ1) : WT (model prog w) C A env e ρ σ Q :=
  fun F s I L => wpAny_isTrue_value (we_then I L h fun v s1 av σ1 F1 ⟨b, e, q⟩ r I1 _ m => by
    subst e; obtain rfl := rep_bool_inv r
    exact wpAny_truthy_bool ⟨σ1, F1, q, I1, m⟩) (by cases e <;> first | rfl | cases he)

theorem we_not {x : Expr} {pos} {Q : AV → Store → Prop} (h : WE (model prog w) C A env x ρ σ fun v σ1 => ∃ b, v = B' b ∧ Q (B' (!b)) σ1) : WE (model prog w) C A env (.UnaryOp .Not x pos) ρ σ Q :=
  fun F s I L => wpAny_UnaryOp (we_then I L h fun v s1 av σ1 F1 ⟨b, e, q⟩ r I1 _ m => by
    subst e; obtain rfl := rep_bool_inv r
    exact not_value (wpAny_truthy_bool (EPost.trans m _ _ (ep_here I1 (rep_bool _) q))))
theorem we_neg {x : Expr} {pos} {Q : AV → Store → Prop} (h : WE (model prog w) C A env x ρ σ fun v σ1 => ∃ i, v = I' i ∧ Q (I' (-i)) σ1) : WE (model prog w) C A env (.UnaryOp .USub x pos) ρ σ Q :=
  fun F s I L => wpAny_UnaryOp (we_then I L h fun v s1 av σ1 F1 ⟨i, e, q⟩ r I1 _ m => by
    subst e; obtain ⟨t, rfl⟩ := rep_int_inv r
    exact PyProof.Rows.neg_int (EPost.trans m _ _ (ep_tok I1 (rep_int _ _) q _)))
theorem we_ifexp {t b o : Expr} {pos} {Q : AV → Store → Prop} (h : WT (model prog w) C A env t ρ σ fun c σ1 => if c = true then WE (model prog w) C A env b ρ σ1 Q else WE (model prog w) C A env o ρ σ1 Q) :
    WE (model prog w) C A env (.IfExp t b o pos) ρ σ Q := fun F s I L => wpAny_IfExp (wt_then I L h fun c s1 σ1 F1 q I1 L1 m => by
  cases c
  · exact wpAny_mono (q F1 s1 I1 L1) (EPost.trans m) fun _ _ x => x
  · exact wpAny_mono (q F1 s1 I1 L1) (EPost.trans m) fun _ _ x => x)

/-! ### several expressions -/
noncomputable def Reps (C : Cx) (F : List Addr) (h : Heap) : List AV → List Value → Prop
  | [], vs => vs = []
  | a :: r, vs => ∃ v vr, vs = v :: vr ∧ Rep C F h a v ∧ Reps C F h r vr
theorem Reps.mono {W F F' : List Addr} {h h' : Heap} (x : Mono W F h F' h') : ∀ {avs : List AV} {vs : List Value}, Reps C F h avs vs → Reps C F' h' avs vs
  | [], _, e => e
  | _ :: _, _, ⟨v, vr, e, r, rr⟩ => ⟨v, vr, e, r.mono x, Reps.mono x rr⟩
theorem Reps.length {F : List Addr} {h : Heap} : ∀ {avs : List AV} {vs : List Value}, Reps C F h avs vs → vs.length = avs.length
  | [], _, e => by cases e; rfl
  | _ :: _, _, ⟨v, vr, e, r, rr⟩ => by subst e; simp [Reps.length rr]

noncomputable def noStar : Expr → Bool
  | .Starred .. => false
  | _ => true
theorem star_plain {e : Expr} {r : List Expr} (h : noStar e = true) : starEach (e :: r) env = (false, eval e env) :: starEach r env := by cases e <;> first | rfl | cases h
theorem star_any (pos : Pos) : ∀ {es : List Expr}, es.all noStar = true → (backTo pos (starEach es env)).any (·.1) = false
  | [], _ => rfl
  | e :: r, h => by
    rw [List.all_cons, Bool.and_eq_true] at h
    rw [star_plain h.1]
    show (false || (backTo pos (starEach r env)).any (·.1)) = false
    rw [star_any pos h.2]; rfl
theorem star_all (pos : Pos) : ∀ {es : List Expr}, es.all noStar = true → (backTo pos (starEach es env)).all (fun x => !x.1) = true
  | [], _ => rfl
  | e :: r, h => by
    rw [List.all_cons, Bool.and_eq_true] at h
    rw [star_plain h.1]
    show (true && (backTo pos (starEach r env)).all (fun x => !x.1)) = true
    rw [star_all pos h.2]; rfl

abbrev LPost (C : Cx) (Q : List AV → Store → Prop) (F : List Addr) (s : Shared) : List Value → Shared → Prop :=
  fun vs s' => ∃ avs σ' F', Q avs σ' ∧ Reps C F' s'.heap avs vs ∧ Inv C σ' F' s' ∧ Mono [] F s.heap F' s'.heap
noncomputable def WEs (M : Model) (C : Cx) (A : Around) (env : Env) (es : List Expr) (ρ : Rho) (σ : Store) (Q : List AV → Store → Prop) : Prop :=
  ∀ (pos : Pos) F s, Inv C σ F s → Loc C env ρ F s.heap → wpAny M A (spliced (backTo pos (starEach es env))) (LPost C Q F s) NoE s
theorem wes_nil {M : Model} {Q : List AV → Store → Prop} (h : Q [] σ) : WEs M C A env [] ρ σ Q := fun _ _ _ I _ => wpAny_items_nil ⟨[], _, _, h, rfl, I, Mono.refl _ _ _⟩
theorem wes_cons {M : Model} {e : Expr} {r : List Expr} {Q : List AV → Store → Prop} (he : noStar e = true) (h : WE M C A env e ρ σ fun a σ1 => WEs M C A env r ρ σ1 fun as σ2 => Q (a :: as) σ2) :
    WEs M C A env (e :: r) ρ σ Q := fun pos F s I L => wpAny_items_cons (we_then I L h fun v s1 a σ1 F1 h1 r1 I1 L1 m1 =>
  wpAny_mono (h1 pos F1 s1 I1 L1) (fun vs s2 ⟨as, σ2, F2, q, rs, I2, m2⟩ => ⟨a :: as, σ2, F2, q, ⟨v, vs, rfl, r1.mono m2, rs⟩, I2, m1.trans m2⟩) fun _ _ x => x) (star_plain he)

noncomputable def scalars : List AV → Option (List S)
  | [] => some []
  | .d (.s x) :: r => (scalars r).map (x :: ·)
  | _ => none
noncomputable def datas : List AV → Option (List D)
  | [] => some []
  | .d x :: r => (datas r).map (x :: ·)
  | _ => none
theorem scalars_rep {F : List Addr} {h : Heap} : ∀ {avs : List AV} {vs : List Value} {xs : List S}, scalars avs = some xs → Reps C F h avs vs → RepSs xs vs
  | [], _, _, e, r => by cases e; exact r
  | .d (.s x) :: as, _, xs, e, ⟨v, vr, ev, r, rr⟩ => by
    simp only [scalars, Option.map_eq_some_iff] at e
    obtain ⟨ys, e1, rfl⟩ := e
    exact ⟨v, vr, ev, r, scalars_rep e1 rr⟩
  | .d (.t _) :: _, _, _, e, _ => by cases e
  | .loc _ :: _, _, _, e, _ => by cases e
  | .rng _ :: _, _, _, e, _ => by cases e
  | .scr :: _, _, _, e, _ => by cases e
theorem datas_rep {F : List Addr} {h : Heap} : ∀ {avs : List AV} {vs : List Value} {xs : List D}, datas avs = some xs → Reps C F h avs vs → RepDs h xs vs
  | [], _, _, e, r => by cases e; exact r
  | .d x :: as, _, xs, e, ⟨v, vr, ev, r, rr⟩ => by
    simp only [datas, Option.map_eq_some_iff] at e
    obtain ⟨ys, e1, rfl⟩ := e
    exact ⟨v, vr, ev, r, datas_rep e1 rr⟩
  | .loc _ :: _, _, _, e, _ => by cases e
  | .rng _ :: _, _, _, e, _ => by cases e
  | .scr :: _, _, _, e, _ => by cases e
theorem scalars_length : ∀ {avs : List AV} {xs : List S}, scalars avs = some xs → xs.length = avs.length
  | [], _, e => by cases e; rfl
  | .d (.s x) :: as, xs, e => by
    simp only [scalars, Option.map_eq_some_iff] at e
    obtain ⟨ys, e1, rfl⟩ := e
    simp [scalars_length e1]
  | .d (.t _) :: _, _, e => by cases e
  | .loc _ :: _, _, e => by cases e
  | .rng _ :: _, _, e => by cases e
  | .scr :: _, _, e => by cases e

theorem we_tuple {es : List Expr} {k pos} {Q : AV → Store → Prop} (h : WEs (model prog w) C A env es ρ σ fun as σ1 => as.length ≤ 1000000 ∧ ∃ xs, scalars as = some xs ∧ Q (.d (.t xs)) σ1) :
    WE (model prog w) C A env (.Tuple es k pos) ρ σ Q := fun F s I L => wpAny_Tuple (wpAny_mono (h pos F s I L) (fun vs s1 ⟨as, σ1, F1, ⟨hl, xs, e, q⟩, rs, I1, m⟩ =>
  ⟨by rw [rs.length]; exact sizeLine_big hl, EPost.trans m _ _ (ep_keeps I1 (push_keeps _ _) (rep_tup (Heap.get?_push_size _ rfl) (by simpa using scalars_rep e rs)) q _)⟩) fun _ _ x => x)
theorem we_list {es : List Expr} {pos} {Q : AV → Store → Prop} (h : WEs (model prog w) C A env es ρ σ fun as σ1 => as.length ≤ 1000000 ∧ ∃ xs, datas as = some xs ∧ Q (.loc σ1.length) (σ1 ++ [.list xs])) :
    WE (model prog w) C A env (.List es pos) ρ σ Q := fun F s I L => wpAny_List (wpAny_mono (h pos F s I L) (fun vs s1 ⟨as, σ1, F1, ⟨hl, xs, e, q⟩, rs, I1, m⟩ =>
  ⟨by rw [rs.length]; exact sizeLine_big hl, EPost.trans m _ _ (ep_new I1 (push_keeps _ _) (get_none_of_ge (Nat.le_refl _)) (obj_list (Heap.get?_push_size _ rfl) (by simpa using (datas_rep e rs).imm (immK_keeps (push_keeps _ _)))) q _)⟩) fun _ _ x => x)
theorem obj_dict_new {F : List Addr} (h : Heap) : ObjRep C F (h.push { cls := .type "dict", data := .dict #[] }) h.objs.size (.dict []) := ⟨_, Heap.IntMap.new _, by simp, Heap.DictLe.new _⟩
theorem we_dict {pos} {Q : AV → Store → Prop} (h : Q (.loc σ.length) (σ ++ [.dict []])) : WE (model prog w) C A env (.Dict [] [] pos) ρ σ Q := fun F s I L =>
  wpAny_Dict_empty (ep_new I (push_keeps _ _) (get_none_of_ge (Nat.le_refl _)) (obj_dict_new s.heap) h _)

/-! ### items -/
inductive item : AV → AV → Store → AV → Prop
  | list {n : Nat} {i : Int} {ds : List D} {d : D} {σ : Store} (e : σ[n]? = some (.list ds)) (h0 : 0 ≤ i) (h1 : i < 1000000) (h : ds[i.toNat]? = some d) : item (.loc n) (I' i) σ (.d d)
  | last {n : Nat} {ds : List D} {d : D} {σ : Store} (e : σ[n]? = some (.list ds)) (h1 : ds.length < 1000000) (h : ds.getLast? = some d) : item (.loc n) (I' (-1)) σ (.d d)
  | tup {i : Int} {xs : List S} {x : S} {σ : Store} (h0 : 0 ≤ i) (h1 : i < 1000000) (h : xs[i.toNat]? = some x) : item (.d (.t xs)) (I' i) σ (.d (.s x))

noncomputable def notSlice : Expr → Bool
  | .Slice .. => false
  | _ => true
theorem sub_plain {e : Expr} {o i : Value} (h : notSlice e = true) : subscripted e false o i = operate [o, i] (getItem o i) := by cases e <;> first | rfl | cases h

theorem seqIndex_nat {i : Int} {n : Nat} (h0 : 0 ≤ i) (h1 : i.toNat < n) : seqIndex? i n = some i.toNat := by
  have q1 : ¬ i < 0 := by omega
  have q2 : (decide (0 ≤ i) && decide (i < (n : Int))) = true := by simp; omega
  show (if (decide (0 ≤ (if i < 0 then i + n else i)) && decide ((if i < 0 then i + n else i) < (n : Int))) = true then some (if i < 0 then i + n else i).toNat else none) = _
  rw [if_neg q1, if_pos q2]

theorem item_ok {value slice : Expr} {a b r : AV} {va vb : Value} {Q : AV → Store → Prop} (h : item a b σ r) (hq : Q r σ) (hs : notSlice slice = true) (I : Inv C σ F s) (ra : Rep C F s.heap a va) (rb : Rep C F s.heap b vb) :
    wpAny (model prog w) A (subscriptTail value slice va vb) (EPost C Q F s) NoE s := by
  cases h with
  | @list n i ds d _ e h0 h1 hd =>
    obtain ⟨t, rfl⟩ := rep_int_inv rb
    obtain ⟨a1, hF, rfl⟩ := ra
    obtain ⟨items, k, hl, rr⟩ := I.objs _ _ _ e hF
    have hl' : s.heap.IsList a1 items := ⟨_, hl, rfl, _, rfl⟩
    obtain ⟨v, hv, rv⟩ := rr.get hd
    exact tail_any hl'.typeIs slot_list_getitem.lookup (wpAny_getItem_list hl' h0 (by omega) (by rw [← Array.getElem?_toList]; exact hv) (ep_here (av := .d d) I rv hq)) (sub_plain hs)
  | @last n ds d _ e h1 hd =>
    obtain ⟨t, rfl⟩ := rep_int_inv rb
    obtain ⟨a1, hF, rfl⟩ := ra
    obtain ⟨items, k, hl, rr⟩ := I.objs _ _ _ e hF
    have hl' : s.heap.IsList a1 items := ⟨_, hl, rfl, _, rfl⟩
    have hne : ds ≠ [] := by rintro rfl; cases hd
    have hpos : 0 < ds.length := List.length_pos_iff.mpr hne
    have hd' : ds[ds.length - 1]? = some d := by rw [← List.getLast?_eq_getElem?]; exact hd
    obtain ⟨v, hv, rv⟩ := rr.get hd'
    have hlen' := rr.length
    rw [Array.length_toList] at hlen'
    refine tail_any hl'.typeIs slot_list_getitem.lookup ?_ (sub_plain hs)
    refine wpAny_getItem_list_neg hl' (k := -1) (by omega) (by omega) (by omega) ?_ (ep_here (av := .d d) I rv hq)
    rw [hlen', show (-1 + (ds.length : Int)).toNat = ds.length - 1 by omega, ← Array.getElem?_toList]
    exact hv
  | @tup i xs x _ h0 h1 hx =>
    obtain ⟨t, rfl⟩ := rep_int_inv rb
    obtain ⟨a1, items, n, rfl, ht, rr⟩ := ra
    obtain ⟨v, hv, rv⟩ := rr.get hx
    rw [Array.getElem?_toList] at hv
    have hlt : i.toNat < items.size := (Array.getElem?_eq_some_iff.mp hv).1
    exact tail_any (T := "tuple") ⟨_, ht, rfl⟩ slot_tuple_getitem.lookup (P.getItem_tuple ht (by omega) (by omega) (seqIndex_nat h0 hlt) hv (ep_here (av := .d (.s x)) I rv hq)) (sub_plain hs)

theorem we_item {value slice : Expr} {pos} {Q : AV → Store → Prop} (hs : notSlice slice = true)
    (h : WE (model prog w) C A env value ρ σ fun a σ1 => WE (model prog w) C A env slice ρ σ1 fun b σ2 => ∃ r, item a b σ2 r ∧ Q r σ2) :
    WE (model prog w) C A env (.Subscript value slice pos) ρ σ Q := fun F s I L =>
  Subscript_ (we_then I L h fun va s1 a σ1 F1 h1 ra I1 L1 m1 => we_then I1 L1 h1 fun vb s2 b σ2 F2 ⟨r, h2, hq⟩ rb I2 L2 m2 =>
    wpAny_mono (item_ok h2 hq hs I2 (ra.mono m2) rb) (EPost.trans (m1.trans m2)) fun _ _ x => x)
end
end Mine

/-! W5 -/
namespace Mine

/-- the built-in names of the text and what they stand for -/
noncomputable def bi (x : Str) : Option Value :=
  if x = ("len" : Str) then some (.builtin "len") else
  if x = ("abs" : Str) then some (.builtin "abs") else
  if x = ("max" : Str) then some (.builtin "max") else
  if x = ("sorted" : Str) then some (.builtin "sorted") else
  if x = ("list" : Str) then some (.type "list") else
  if x = ("range" : Str) then some (.type "range") else none

structure Base (C : Cx) : Prop where
  g : C.h0.Ns mainGlobals C.mg
  b : C.h0.Ns builtinsNs C.mb
  lim : C.h0.NoLimit
  scr : ∃ vs, C.h0.IsList C.scr vs.toArray ∧ IntsAre vs C.ns ∧ C.ns.length ≤ 63
  bi : ∀ x v, bi x = some v → C.mg x = none ∧ C.mb x = some v

section
variable {prog : Program} {w : World} {C : Cx} {A : Around} {env : Env} {ρ : Rho} {σ : Store} {F : List Addr} {s : Shared} {sc : Scope}

theorem Inv.isList {n : Nat} {ds : List D} {a : Addr} (I : Inv C σ F s) (h : σ[n]? = some (.list ds)) (hF : F[n]? = some a) :
    ∃ items k, IsL s.heap a items k ∧ RepDs s.heap ds items.toList ∧ items.size = ds.length := by
  obtain ⟨items, k, hl, r⟩ := I.objs _ _ _ h hF
  exact ⟨items, k, hl, r, by simpa using r.length⟩

/-! ### slices -/
noncomputable def sliceUpto (C : Cx) (a : AV) (k : Int) (σ : Store) (Q : AV → Store → Prop) : Prop :=
  match a with
  | .loc n => ∃ ds, σ[n]? = some (.list ds) ∧ 0 ≤ k ∧ ds.length ≤ 1000000 ∧ Q (.loc σ.length) (σ ++ [.list (ds.take k.toNat)])
  | .scr => 0 ≤ k ∧ Q (.loc σ.length) (σ ++ [.list ((C.ns.take k.toNat).map fun i => .s (.int i))])
  | _ => False
theorem repDs_ints {h : Heap} : ∀ {vs : List Value} {ns : List Int}, IntsAre vs ns → RepDs h (ns.map fun i => .s (.int i)) vs
  | _, _, .nil => rfl
  | _, _, .cons _ _ r => ⟨_, _, rfl, ⟨_, rfl⟩, repDs_ints r⟩

theorem we_slice_upto {value u : Expr} {p pos} {Q : AV → Store → Prop} (hB : Base C)
    (h : WE (model prog w) C A env value ρ σ fun a σ1 => WE (model prog w) C A env u ρ σ1 fun b σ2 => ∃ k, b = I' k ∧ sliceUpto C a k σ2 Q) :
    WE (model prog w) C A env (.Subscript value (.Slice none (some u) none p) pos) ρ σ Q := fun F s I L => by
  refine Subscript_ (we_then I L h fun va s1 a σ1 F1 h1 ra I1 L1 m1 => wpAny_Slice ?_)
  refine wpAny_pure (we_then I1 L1 h1 fun vb s2 b σ2 F2 h2 rb I2 L2 m2 => wpAny_pure ?_)
  obtain ⟨k, rfl, h3⟩ := h2
  obtain ⟨t, rfl⟩ := rep_int_inv rb
  have ra2 := ra.mono m2
  have kp := push_keeps s2.heap { cls := .type "slice", data := .fields #[.none, .int k t, .none] }
  have I3 : Inv C σ2 F2 { s2 with heap := s2.heap.push { cls := .type "slice", data := .fields #[.none, .int k t, .none] } } := I2.keeps kp (t := s2.toks)
  have m3 : Mono [] F2 s2.heap F2 (s2.heap.push { cls := .type "slice", data := .fields #[.none, .int k t, .none] }) := Mono.keeps kp
  have sl := Heap.IsSliceOf.new s2.heap .none (.int k t) .none
  unfold sliceUpto at h3
  split at h3
  · obtain ⟨ds, hds, hk, hsz, hq⟩ := h3
    obtain ⟨a1, hF, rfl⟩ := ra2
    obtain ⟨items, n, hl, r, hsize⟩ := I3.isList hds hF
    obtain ⟨j, rfl⟩ := Int.eq_ofNat_of_zero_le hk
    refine wpAny_mono (tail_any (T := "list") ⟨_, hl, rfl⟩ slot_list_getitem.lookup (wpAny_getItem_list_slice (Q := EPost C Q F2 { s2 with heap := s2.heap.push { cls := .type "slice", data := .fields #[.none, .int (j : Int) t, .none] } }) (lo := none) (hi := some (j : Int)) (st := none)
      ⟨_, hl, rfl, _, rfl⟩ sl .none (.int _ _) .none (by simp) ?_ (sizeLine_big (by omega))) rfl) (EPost.trans ((m1.trans m2).trans m3)) fun _ _ x => x
    refine ep_new I3 (push_keeps _ _) (get_none_of_ge (Nat.le_refl _)) (obj_list (Heap.get?_push_size _ rfl) ?_) hq _
    rw [slicePick_upto']
    exact (r.take j).imm (immK_keeps (push_keeps _ _))
  · obtain ⟨hk, hq⟩ := h3
    have ea : va = .ref C.scr := ra2
    subst ea
    obtain ⟨vs, hl, hi, hlen⟩ := hB.scr
    obtain ⟨o, ho, hc, n, hd⟩ := hl
    have hl : (s2.heap.push { cls := .type "slice", data := .fields #[.none, .int k t, .none] }).IsList C.scr vs.toArray := ⟨o, I3.base _ _ ho, hc, n, hd⟩
    obtain ⟨j, rfl⟩ := Int.eq_ofNat_of_zero_le hk
    refine wpAny_mono (tail_any hl.typeIs slot_list_getitem.lookup (wpAny_getItem_list_slice (Q := EPost C Q F2 { s2 with heap := s2.heap.push { cls := .type "slice", data := .fields #[.none, .int (j : Int) t, .none] } }) (lo := none) (hi := some (j : Int)) (st := none)
      hl sl .none (.int _ _) .none (by simp) ?_ (by rw [List.size_toArray, hi.length]; exact sizeLine_big (by omega))) rfl) (EPost.trans ((m1.trans m2).trans m3)) fun _ _ x => x
    refine ep_new I3 (push_keeps _ _) (get_none_of_ge (Nat.le_refl _)) (obj_list (Heap.get?_push_size _ rfl) ?_) hq _
    rw [slicePick_upto']
    have r := (repDs_ints (h := (s2.heap.push { cls := .type "slice", data := .fields #[.none, .int (j : Int) t, .none] })) hi).take j
    rw [← List.map_take] at r
    exact r.imm (immK_keeps (push_keeps _ _))
  · exact h3.elim

theorem we_slice_from {value u : Expr} {p pos} {Q : AV → Store → Prop}
    (h : WE (model prog w) C A env value ρ σ fun a σ1 => WE (model prog w) C A env u ρ σ1 fun b σ2 => ∃ xs k, a = .d (.t xs) ∧ b = I' k ∧ 1 ≤ k ∧ k ≤ xs.length ∧ xs.length ≤ 1000000 ∧ Q (.d (.t (xs.drop k.toNat))) σ2) :
    WE (model prog w) C A env (.Subscript value (.Slice (some u) none none p) pos) ρ σ Q := fun F s I L => by
  refine Subscript_ (we_then I L h fun va s1 a σ1 F1 h1 ra I1 L1 m1 => wpAny_Slice ?_)
  refine we_then I1 L1 h1 fun vb s2 b σ2 F2 h2 rb I2 L2 m2 => wpAny_pure (wpAny_pure ?_)
  obtain ⟨xs, k, rfl, rfl, hk, hk', hsz, hq⟩ := h2
  obtain ⟨t, rfl⟩ := rep_int_inv rb
  have ra2 := ra.mono m2
  have kp := push_keeps s2.heap { cls := .type "slice", data := .fields #[.int k t, .none, .none] }
  have I3 : Inv C σ2 F2 { s2 with heap := s2.heap.push { cls := .type "slice", data := .fields #[.int k t, .none, .none] } } := I2.keeps kp (t := s2.toks)
  have m3 : Mono [] F2 s2.heap F2 (s2.heap.push { cls := .type "slice", data := .fields #[.int k t, .none, .none] }) := Mono.keeps kp
  have sl := Heap.IsSliceOf.new s2.heap (.int k t) .none .none
  obtain ⟨a1, items, n, rfl, ht, r⟩ := ra2.mono m3
  obtain ⟨j, rfl⟩ := Int.eq_ofNat_of_zero_le (show 0 ≤ k by omega)
  have hlen := r.length
  rw [Array.length_toList] at hlen
  refine wpAny_mono (tail_any (T := "tuple") ⟨_, ht, rfl⟩ slot_tuple_getitem.lookup (getItem_tuple_from (Q := EPost C Q F2 { s2 with heap := s2.heap.push { cls := .type "slice", data := .fields #[.int (j : Int) t, .none, .none] } }) (a := j) (u := t)
    ⟨_, ht, rfl, _, rfl⟩ sl (by omega) (by omega) ?_ (sizeLine_big (by omega))) rfl) (EPost.trans ((m1.trans m2).trans m3)) fun _ _ x => x
  refine ep_keeps I3 (push_keeps _ _) (rep_tup (Heap.get?_push_size _ rfl) ?_) hq _
  simpa using r.drop j

/-! ### global names -/
noncomputable def GV (C : Cx) (x : Str) (v : Value) : Prop := C.mg x = some v ∨ (C.mg x = none ∧ C.mb x = some v)
noncomputable def isGlob (sc : Scope) (x : Str) : Bool := decide (sc.names.lookup x = some .globalImplicit) && !(x == ("__debug__" : Str))
theorem load_glob {x : Str} {pos} {v : Value} {Q : Value → Shared → Prop} (hB : Base C) (O : EnvOk sc env) (hx : isGlob sc x = true) (hv : GV C x v) (I : Inv C σ F s) (h : Q v s) :
    wpAny (model prog w) A (eval (.Name x pos) env) Q NoE s := by
  unfold isGlob at hx
  rw [Bool.and_eq_true, decide_eq_true_eq] at hx
  refine Name_function_global O.kind (O.gl x hx.1) ?_ (by simpa using hx.2)
  rcases hv with hv | ⟨h1, h2⟩
  · exact loadGlobal_global (mg := C.mg) (by rw [O.glob]; exact hB.g.keeps I.base) hv h
  · exact loadGlobal_builtin (mg := C.mg) (mb := C.mb) (by rw [O.glob]; exact hB.g.keeps I.base) h1 (by rw [O.blt]; exact hB.b.keeps I.base) h2 h

/-! ### calls -/
noncomputable def Callee (C : Cx) (v : Value) : Prop :=
  (∃ id, v = .builtin id) ∨ (∃ T, v = .type T) ∨ (∃ a o fd, v = .ref a ∧ C.h0.get? a = some o ∧ o.data = .func fd) ∨ (∃ a N mN, v = .ref a ∧ ClsAt C.h0 a N mN)

theorem evalArgs_all {f : Value} {pos : Pos} {es : List Expr} {Q : Args → Shared → Prop} (he : es.all noStar = true)
    (h : wpAny (model prog w) A (spliced (backTo pos (starEach es env))) (fun vs s' => Q ⟨vs, []⟩ s') NoE s) : wpAny (model prog w) A (evalArgs f true (backTo pos (starEach es env)) []) Q NoE s := by
  cases es with
  | nil =>
    unfold evalArgs
    show wpAny (model prog w) A (spliced [] >>= _) Q NoE s
    refine wpAny_bind (wpAny_mono h (fun vs s' h' => ?_) fun _ _ x => x)
    refine wpAny_bind (wpAny_pure ?_)
    refine wpAny_holding ?_
    exact wpAny_bind (wpAny_pure (wpAny_bind (wpAny_pure (wpAny_pure h'))))
  | cons e r =>
    rw [List.all_cons, Bool.and_eq_true] at he
    rw [star_plain he.1] at h ⊢
    exact evalArgs_plain h

theorem callWith_any {v : Value} {pos : Pos} {es : List Expr} {Q : Value → Shared → Prop} (hc : Callee C v) (he : es.all noStar = true)
    (h : wpAny (model prog w) A (spliced (backTo pos (starEach es env))) (fun vs s' => (∀ b o, C.h0.get? b = some o → s'.heap.get? b = some o) ∧ wpAny (model prog w) A (call v vs) Q NoE s') NoE s) :
    wpAny (model prog w) A (callWith pos v [] (backTo pos (starEach es env)) []) Q NoE s := by
  rcases hc with ⟨id, rfl⟩ | ⟨T, rfl⟩ | ⟨a, o, fd, rfl, ho, hd⟩ | ⟨a, N, mN, rfl, X⟩
  · exact callWith_builtin (star_any pos he) (evalArgs_all he (wpAny_mono h (fun _ _ x => x.2) fun _ _ x => x))
  · exact PySem.callWith_type (star_any pos he) (evalArgs_all he (wpAny_mono h (fun _ _ x => x.2) fun _ _ x => x))
  · exact callWith_function (o := o) (fd := fd) (evalArgs_all he (wpAny_mono h (fun _ _ x => ⟨⟨x.1 _ _ ho, hd⟩, x.2⟩) fun _ _ x => x))
  · have hst : ((backTo pos (starEach es env)).any (fun x => x.fst) || ([] : List (Option Str × Sem Value)).any fun x => x.fst.isNone) = false := by
      rw [star_any pos he]; rfl
    unfold callWith
    refine wpAny_bind (wpAny_holding (evalArgs_all he (wpAny_mono h (fun vs s₁ h₁ => ?_) fun _ _ x => x)))
    obtain ⟨hk, hcc⟩ := h₁
    obtain ⟨hh, g, d, t, os⟩ := s₁
    obtain ⟨nm, q, bs, sn, sub, col, dd, k0, k1, k2, k3, k5, hC⟩ := (X.keeps hk).obj
    have f1 := tc_lookup
    have hT : (⟨hh, g, d, t, os⟩ : Shared).TypeIs (.ref a) "type" := ⟨_, hC, rfl⟩
    refine wpAny_bind (wpAny_standAt ?_)
    show wpAny _ _ (keeperOf (.ref a) >>= _) _ _ _
    unfold keeperOf specialOf
    repeat (any_goals (first | assumption | with_reducible refine wpAny_loadPart_at hC ?_ | with_reducible refine wpAny_load' hC ?_ | wp_step))
    rw [if_pos (by rfl), hst]
    show wpAny _ _ (call (.ref a) vs [] >>= fun r => do holding [r] point; pure r) _ _ _
    exact wpAny_bind (wpAny_mono hcc (fun r s' hr => wpAny_bind (wpAny_holding (wpAny_point (wpAny_pure hr)))) fun _ _ x => x)

/-- what the call of a value does -/
noncomputable def CallV (prog : Program) (w : World) (C : Cx) (A : Around) (v : Value) (as : List AV) (σ : Store) (Q : AV → Store → Prop) : Prop :=
  ∀ F s vs, Inv C σ F s → Reps C F s.heap as vs → wpAny (model prog w) A (call v vs) (EPost C Q F s) NoE s

theorem we_call {f : Str} {p pos} {args : List Expr} {v : Value} {Q : AV → Store → Prop} (hB : Base C) (O : EnvOk sc env) (hx : isGlob sc f = true) (hv : GV C f v) (hc : Callee C v) (ha : args.all noStar = true)
    (h : WEs (model prog w) C A env args ρ σ fun as σ1 => CallV prog w C A v as σ1 Q) : WE (model prog w) C A env (.Call (.Name f p) args [] pos) ρ σ Q := fun F s I L => by
  refine wpAny_Call_Name_kw ?_
  refine load_glob hB O hx hv I (callWith_any hc ha (wpAny_mono (h pos F s I L) (fun vs s1 ⟨as, σ1, F1, q, rs, I1, m⟩ => ⟨I1.base, wpAny_mono (q F1 s1 vs I1 rs) (EPost.trans m) fun _ _ x => x⟩) fun _ _ x => x))
end
end Mine

/-! W6 -/
namespace Mine

section
variable {prog : Program} {w : World} {C : Cx} {A : Around} {env : Env} {ρ : Rho} {σ : Store} {F : List Addr} {s : Shared} {sc : Scope}

noncomputable def iD (i : Int) : D := .s (.int i)

noncomputable def bLen (as : List AV) (σ : Store) (Q : AV → Store → Prop) : Prop :=
  match as with
  | [.loc n] => ∃ ds, σ[n]? = some (.list ds) ∧ ds.length ≤ 1000000 ∧ Q (I' ds.length) σ
  | _ => False
noncomputable def bAbs (as : List AV) (σ : Store) (Q : AV → Store → Prop) : Prop :=
  match as with
  | [.d (.s (.int i))] => Q (I' (if i < 0 then -i else i)) σ
  | _ => False
noncomputable def bMax (as : List AV) (σ : Store) (Q : AV → Store → Prop) : Prop :=
  ∃ a b c : Int, as = [I' a, I' b, I' c] ∧ Q (I' (if b > a then (if c > b then c else b) else (if c > a then c else a))) σ
noncomputable def bSorted (as : List AV) (σ : Store) (Q : AV → Store → Prop) : Prop :=
  match as with
  | [.loc n] => ∃ ns : List Int, σ[n]? = some (.list (ns.map iD)) ∧ ns.length < 64 ∧ ∀ ns' : List Int, ns'.Perm ns → ns'.Pairwise (· ≤ ·) → Q (.loc σ.length) (σ ++ [.list (ns'.map iD)])
  | _ => False
noncomputable def bList (as : List AV) (σ : Store) (Q : AV → Store → Prop) : Prop :=
  match as with
  | [.loc n] => ∃ ds, σ[n]? = some (.list ds) ∧ ds.length ≤ 1000000 ∧ Q (.loc σ.length) (σ ++ [.list ds])
  | [.rng n] => n ≤ 1000000 ∧ Q (.loc σ.length) (σ ++ [.list ((List.range n).map fun (i : Nat) => iD (i : Int))])
  | _ => False
noncomputable def bRange (as : List AV) (σ : Store) (Q : AV → Store → Prop) : Prop :=
  match as with
  | [.d (.s (.int i))] => 0 ≤ i ∧ i ≤ 1000000 ∧ Q (.rng i.toNat) σ
  | _ => False
noncomputable def bcall (x : Str) (as : List AV) (σ : Store) (Q : AV → Store → Prop) : Prop :=
  if x = ("len" : Str) then bLen as σ Q else
  if x = ("abs" : Str) then bAbs as σ Q else
  if x = ("max" : Str) then bMax as σ Q else
  if x = ("sorted" : Str) then bSorted as σ Q else
  if x = ("list" : Str) then bList as σ Q else
  if x = ("range" : Str) then bRange as σ Q else False

theorem len_ok {as : List AV} {Q : AV → Store → Prop} (h : bLen as σ Q) : CallV prog w C A (.builtin "len") as σ Q := fun F s vs I rs => by
  unfold bLen at h
  split at h
  · obtain ⟨ds, hds, hsz, hq⟩ := h
    obtain ⟨v, vr, rfl, ⟨a, hF, rfl⟩, hr⟩ := rs
    cases hr
    obtain ⟨items, n, hl, r, hsize⟩ := I.isList hds hF
    refine call_len_list (items := items) ⟨_, hl, rfl, _, rfl⟩ (by omega) ?_
    rw [hsize]
    exact ep_tok I (rep_int _ _) hq _
  · exact h.elim
theorem abs_ok {as : List AV} {Q : AV → Store → Prop} (h : bAbs as σ Q) : CallV prog w C A (.builtin "abs") as σ Q := fun F s vs I rs => by
  unfold bAbs at h
  split at h
  · obtain ⟨v, vr, rfl, r, hr⟩ := rs
    obtain ⟨t, rfl⟩ := rep_int_inv r
    cases hr
    exact call_abs_int fun u tk => ep_tok I (rep_int _ _) h _
  · exact h.elim
theorem max_ok {as : List AV} {Q : AV → Store → Prop} (hh : A.handled = none) (h : bMax as σ Q) : CallV prog w C A (.builtin "max") as σ Q := fun F s vs I rs => by
  obtain ⟨a, b, c, rfl, h⟩ := h
  obtain ⟨v, vr, rfl, r, v2, vr2, rfl, r2, v3, vr3, rfl, r3, hr⟩ := rs
  obtain ⟨t, rfl⟩ := rep_int_inv r
  obtain ⟨t2, rfl⟩ := rep_int_inv r2
  obtain ⟨t3, rfl⟩ := rep_int_inv r3
  cases hr
  refine max_three_ints hh fun h' tk hk => ?_
  refine ep_keeps I hk ?_ h _
  split <;> split <;> exact rep_int _ _
theorem intsAre_of {h : Heap} : ∀ {ns : List Int} {vs : List Value}, RepDs h (ns.map iD) vs → IntsAre vs ns
  | [], _, e => by cases e; exact .nil
  | n :: ns, _, ⟨v, r, e, ⟨t, ev⟩, hr⟩ => by subst e; subst ev; exact .cons n t (intsAre_of hr)
theorem sorted_ok {as : List AV} {Q : AV → Store → Prop} (h : bSorted as σ Q) : CallV prog w C A (.builtin "sorted") as σ Q := fun F s vs I rs => by
  unfold bSorted at h
  split at h
  · obtain ⟨ns, hns, hlen, hq⟩ := h
    obtain ⟨v, vr, rfl, ⟨a, hF, rfl⟩, hr⟩ := rs
    cases hr
    obtain ⟨items, n, hl, r, hsize⟩ := I.isList hns hF
    have hI := intsAre_of r
    refine sorted_ints (l := a) (vs := items.toList) ⟨_, by simpa using hl, rfl, _, rfl⟩ hI (by rw [hI.length]; exact hlen) fun out ns' ho hp hs => ?_
    obtain ⟨e, he⟩ := sortedAll_at s.heap items.toList out
    refine ep_new I (fun b o hb => sortedAll_old hb) (get_none_of_ge (Nat.le_succ _)) (obj_list he ?_) (hq ns' hp hs) _
    exact repDs_ints ho
  · exact h.elim
theorem list_ok {as : List AV} {Q : AV → Store → Prop} (hh : A.handled = none) (h : bList as σ Q) : CallV prog w C A (.type "list") as σ Q := fun F s vs I rs => by
  unfold bList at h
  split at h
  · obtain ⟨ds, hds, hsz, hq⟩ := h
    obtain ⟨v, vr, rfl, ⟨a, hF, rfl⟩, hr⟩ := rs
    cases hr
    obtain ⟨items, n, hl, r, hsize⟩ := I.isList hds hF
    refine call_list_seq a (.inl rfl) hl rfl rfl (fun h' c' hk hn => ?_) (sizeLine_big (by omega))
    exact ep_new I hk (get_none_of_ge (Nat.le_refl _)) (obj_list hn (r.imm (immK_keeps hk))) hq _
  · obtain ⟨hn, hq⟩ := h
    rename_i n
    obtain ⟨v, vr, rfl, ⟨r, t, u, x, rfl, hr⟩, hrr⟩ := rs
    cases hrr
    refine call_list_range (n := n) hh hr (small_one (by decide) (by decide) (by omega) (by omega)) (by rw [rangeSize_one]; split <;> omega) (by omega) fun h' tk acc' c' hk hl hit => ?_
    refine ep_new I hk (get_none_of_ge (Nat.le_refl _)) (obj_list hl ?_) hq _
    have key : ∀ (k : Nat) (acc : List Value) (j : Nat), acc.length = k → (∀ i v, acc[i]? = some v → ∃ t, v = Value.int (0 + ((j + i : Nat) : Int) * 1) t) → RepDs h' ((List.range' j k).map fun (i : Nat) => iD (i : Int)) acc := by
      intro k
      induction k with
      | zero => intro acc j hl _; rw [List.length_eq_zero_iff.mp hl]; rfl
      | succ k ih =>
        intro acc j hl hv
        cases acc with
        | nil => cases hl
        | cons v r =>
          obtain ⟨t, ht⟩ := hv 0 v rfl
          refine ⟨v, r, rfl, ⟨t, by rw [ht]; simp⟩, ?_⟩
          refine ih r (j + 1) (by simpa using hl) fun i u hu => ?_
          obtain ⟨t', ht'⟩ := hv (i + 1) u (by simpa using hu)
          exact ⟨t', by rw [ht', show j + (i + 1) = j + 1 + i by omega]⟩
    rw [List.range_eq_range']
    refine key n acc'.toList 0 (by rw [Array.length_toList]; exact hit.1) fun i v hv => ?_
    obtain ⟨t', ht'⟩ := hit.2 i v (by simpa using hv)
    exact ⟨t', by rw [ht']; simp⟩
  · exact h.elim
theorem range_ok {as : List AV} {Q : AV → Store → Prop} (h : bRange as σ Q) : CallV prog w C A (.type "range") as σ Q := fun F s vs I rs => by
  unfold bRange at h
  split at h
  · obtain ⟨h0, h1, hq⟩ := h
    obtain ⟨v, vr, rfl, r, hr⟩ := rs
    obtain ⟨t, rfl⟩ := rep_int_inv r
    cases hr
    rename_i i
    obtain ⟨j, rfl⟩ := Int.eq_ofNat_of_zero_le h0
    refine call_range_1 ?_
    exact ep_keeps I (push_keeps _ _) (show Rep C F _ (.rng j) _ from ⟨_, _, _, _, rfl, IsRange.new ..⟩) hq _
  · exact h.elim

theorem bcall_ok {x : Str} {v : Value} {as : List AV} {Q : AV → Store → Prop} (hh : A.handled = none) (hv : bi x = some v) (h : bcall x as σ Q) : CallV prog w C A v as σ Q := by
  unfold bi at hv
  unfold bcall at h
  by_cases e1 : x = ("len" : Str)
  · rw [if_pos e1] at hv h; cases hv; exact len_ok h
  rw [if_neg e1] at hv h
  by_cases e2 : x = ("abs" : Str)
  · rw [if_pos e2] at hv h; cases hv; exact abs_ok h
  rw [if_neg e2] at hv h
  by_cases e3 : x = ("max" : Str)
  · rw [if_pos e3] at hv h; cases hv; exact max_ok hh h
  rw [if_neg e3] at hv h
  by_cases e4 : x = ("sorted" : Str)
  · rw [if_pos e4] at hv h; cases hv; exact sorted_ok h
  rw [if_neg e4] at hv h
  by_cases e5 : x = ("list" : Str)
  · rw [if_pos e5] at hv h; cases hv; exact list_ok hh h
  rw [if_neg e5] at hv h
  by_cases e6 : x = ("range" : Str)
  · rw [if_pos e6] at hv h; cases hv; exact range_ok h
  rw [if_neg e6] at hv; cases hv
theorem bi_callee {x : Str} {v : Value} (hv : bi x = some v) : Callee C v := by
  unfold bi at hv
  repeat' split at hv
  all_goals first
    | (cases hv; exact .inl ⟨_, rfl⟩)
    | (cases hv; exact .inr (.inl ⟨_, rfl⟩))
    | cases hv

/-! ### methods of lists -/
noncomputable def methId (m : Str) : Option String :=
  if m = ("append" : Str) then some "list.append" else if m = ("pop" : Str) then some "list.pop" else if m = ("reverse" : Str) then some "list.reverse" else none
noncomputable def mAppend (a : AV) (as : List AV) (σ : Store) (Q : AV → Store → Prop) : Prop :=
  match a, as with
  | .loc n, [.d d] => ∃ ds, σ[n]? = some (.list ds) ∧ ds.length ≤ 1000000 ∧ Q N' (σ.set n (.list (ds ++ [d])))
  | _, _ => False
noncomputable def mPop (a : AV) (as : List AV) (σ : Store) (Q : AV → Store → Prop) : Prop :=
  match a, as with
  | .loc n, [] => ∃ ds d, σ[n]? = some (.list (ds ++ [d])) ∧ ds.length < 1000000 ∧ Q (.d d) (σ.set n (.list ds))
  | _, _ => False
noncomputable def mReverse (a : AV) (as : List AV) (σ : Store) (Q : AV → Store → Prop) : Prop :=
  match a, as with
  | .loc n, [] => ∃ ds, σ[n]? = some (.list ds) ∧ ds.length ≤ 1000000 ∧ Q N' (σ.set n (.list ds.reverse))
  | _, _ => False
noncomputable def meth (m : Str) (a : AV) (as : List AV) (σ : Store) (Q : AV → Store → Prop) : Prop :=
  if m = ("append" : Str) then mAppend a as σ Q else if m = ("pop" : Str) then mPop a as σ Q else if m = ("reverse" : Str) then mReverse a as σ Q else False

theorem ep_set {Q : AV → Store → Prop} {n : Nat} {a : Addr} {ao ao' : AO} {av : AV} {v : Value} {h' : Heap} (I : Inv C σ F s) (hn : σ[n]? = some ao) (hF : F[n]? = some a) (hs : Heap.SameBut a s.heap h')
    (hr : ObjRep C F h' a ao') (r : Rep C F s.heap av v) (q : Q av (σ.set n ao')) (t : Nat) : EPost C Q F s v { s with heap := h', toks := t } := by
  obtain ⟨I', m⟩ := I.set (t := t) hn hF hs hr
  exact ⟨av, _, F, q, r.mono m, I', m⟩
theorem isL_append {h : Heap} {a : Addr} {items : Array Value} {n : Nat} (hl : IsL h a items n) (f : Array Value → Array Value) : ∃ n', IsL (h.update a (Obj.mapSeq f)) a (f items) n' := ⟨_, hl.update f⟩

theorem append_ok {a : AV} {as : List AV} {va : Value} {vs : List Value} {Q : AV → Store → Prop} (h : mAppend a as σ Q) (I : Inv C σ F s) (ra : Rep C F s.heap a va) (rs : Reps C F s.heap as vs) :
    wpAny (model prog w) A (call (.builtin "list.append") ([va] ++ vs)) (EPost C Q F s) NoE s := by
  unfold mAppend at h
  split at h
  · obtain ⟨ds, hds, hsz, hq⟩ := h
    obtain ⟨a1, hF, rfl⟩ := ra
    obtain ⟨v, vr, rfl, rv, hr⟩ := rs
    cases hr
    obtain ⟨items, n, hl, r, hsize⟩ := I.isList hds hF
    refine call_meets PySem.F.slot_list_append ⟨_, hl, rfl⟩ PySem.F.entry_list_append (PySem.F.args_list_append_2 _ _) (list_append a1 items n v (sizeLine_big (by omega))) ⟨hl, ?_⟩
    obtain ⟨n', hl'⟩ := isL_append hl (·.push v)
    have hi : ImmK s.heap (s.heap.update a1 (Obj.mapSeq (·.push v))) := immK_sameBut (Heap.SameBut.update ..) fun o e => ObjRep.notImm (obj_list (C := C) (F := F) hl r) e
    refine ep_set I hds hF (Heap.SameBut.update ..) (obj_list hl' ?_) rep_none hq _
    rw [Array.toList_push]
    exact (r.imm hi).append ⟨v, [], rfl, RepD.imm hi rv, rfl⟩
  · exact h.elim
theorem pop_ok {a : AV} {as : List AV} {va : Value} {vs : List Value} {Q : AV → Store → Prop} (h : mPop a as σ Q) (I : Inv C σ F s) (ra : Rep C F s.heap a va) (rs : Reps C F s.heap as vs) :
    wpAny (model prog w) A (call (.builtin "list.pop") ([va] ++ vs)) (EPost C Q F s) NoE s := by
  unfold mPop at h
  split at h
  · obtain ⟨ds, d, hds, hsz, hq⟩ := h
    obtain ⟨a1, hF, rfl⟩ := ra
    cases rs
    obtain ⟨items, n, hl, r, hsize⟩ := I.isList hds hF
    rw [List.length_append, List.length_singleton] at hsize
    obtain ⟨v, hv, rv⟩ := r.get (k := ds.length) (x := d) (by simp)
    have hv' : items[items.size - 1]? = some v := by rw [hsize]; simpa using hv
    refine call_meets PySem.F.slot_list_pop ⟨_, hl, rfl⟩ PySem.F.entry_list_pop (PySem.F.args_list_pop_1 _) (MeetsSeq.list_pop_last a1 items n v hv' (sizeLine_big (n := items.size) (by omega))) ⟨hl, ?_⟩
    obtain ⟨n', hl'⟩ := isL_append hl (fun xs => xs.eraseIdxIfInBounds (items.size - 1))
    have hi : ImmK s.heap (s.heap.update a1 (Obj.mapSeq (fun xs => xs.eraseIdxIfInBounds (items.size - 1)))) := immK_sameBut (Heap.SameBut.update ..) fun o e => ObjRep.notImm (obj_list (C := C) (F := F) hl r) e
    refine ep_set (av := .d d) I hds hF (Heap.SameBut.update ..) (obj_list hl' ?_) rv hq _
    have e : (items.eraseIdxIfInBounds (items.size - 1)).toList = items.toList.take ds.length := by
      have : items.size - 1 < items.size := by omega
      rw [Array.eraseIdxIfInBounds, dif_pos this, Array.toList_eraseIdx, hsize, show ds.length + 1 - 1 = ds.length by omega]
      have hl2 : items.toList.length = ds.length + 1 := by rw [Array.length_toList]; exact hsize
      rw [List.eraseIdx_eq_take_drop_succ, List.drop_eq_nil_of_le (by omega), List.append_nil]
    rw [e]
    have := (r.imm hi).take ds.length
    simpa using this
  · exact h.elim
theorem reverse_ok {a : AV} {as : List AV} {va : Value} {vs : List Value} {Q : AV → Store → Prop} (h : mReverse a as σ Q) (I : Inv C σ F s) (ra : Rep C F s.heap a va) (rs : Reps C F s.heap as vs) :
    wpAny (model prog w) A (call (.builtin "list.reverse") ([va] ++ vs)) (EPost C Q F s) NoE s := by
  unfold mReverse at h
  split at h
  · obtain ⟨ds, hds, hsz, hq⟩ := h
    obtain ⟨a1, hF, rfl⟩ := ra
    cases rs
    obtain ⟨items, n, hl, r, hsize⟩ := I.isList hds hF
    refine call_meets PySem.F.slot_list_reverse ⟨_, hl, rfl⟩ PySem.F.entry_list_reverse (PySem.F.args_list_reverse_1 _) (AutoSeq1.list_reverse_list_0 a1 items n (sizeLine_big (by omega))) ⟨hl, ?_⟩
    obtain ⟨n', hl'⟩ := isL_append hl (·.reverse)
    have hi : ImmK s.heap (s.heap.update a1 (Obj.mapSeq (·.reverse))) := immK_sameBut (Heap.SameBut.update ..) fun o e => ObjRep.notImm (obj_list (C := C) (F := F) hl r) e
    refine ep_set I hds hF (Heap.SameBut.update ..) (obj_list hl' ?_) rep_none hq _
    rw [Array.toList_reverse]
    exact (r.imm hi).reverse
  · exact h.elim

theorem we_method {x m : Str} {xp apos pos} {args : List Expr} {id : String} {Q : AV → Store → Prop} (hm : methId m = some id) (ha : args.all noStar = true) (hn : args.length < 20) (hline : (apos.endLine == pos.line) = true)
    (h : WE (model prog w) C A env (.Name x xp) ρ σ fun a σ1 => (∃ n ds, a = .loc n ∧ σ1[n]? = some (.list ds)) ∧ WEs (model prog w) C A env args ρ σ1 fun as σ2 => meth m a as σ2 Q) :
    WE (model prog w) C A env (.Call (.Attribute (.Name x xp) m apos) args [] pos) ρ σ Q := fun F s I L => by
  have hfew : ((backTo pos (starEach args env)).all (fun x => !x.1) && (backToKw pos (keywordEach [] env)).all (fun x => x.1.isSome) && decide (args.length + ([] : List Keyword).length + (if ([] : List Keyword).isEmpty then 0 else 1) < 30)) = true := by
    rw [star_all pos ha]
    have : args.length + ([] : List Keyword).length + (if ([] : List Keyword).isEmpty then 0 else 1) < 30 := by simp; omega
    simp [keywordEach, backToKw]; omega
  have go : ∀ {B : Builtin} (slot : Slot "list" m id) (hty : typeOf (.builtin id) = pure (.type "method_descriptor"))
      (hc : ∀ {a as va vs σ2 F2 s2}, meth m a as σ2 Q → Inv C σ2 F2 s2 → Rep C F2 s2.heap a va → Reps C F2 s2.heap as vs → wpAny (model prog w) A (call (.builtin id) ([va] ++ vs)) (EPost C Q F2 s2) NoE s2),
      wpAny (model prog w) A (eval (.Call (.Attribute (.Name x xp) m apos) args [] pos) env) (EPost C Q F s) NoE s := fun {B} slot hty hc => by
    refine wpAny_Call_method (T := "list") (id := id) rfl hfew hline PySem.F.plainAttrs_list slot hty (we_then I L h fun va s1 a σ1 F1 ⟨⟨n, ds, ea, hn1⟩, h1⟩ ra I1 L1 m1 => ?_)
    subst ea
    have ra0 := ra
    obtain ⟨a1, hF, rfl⟩ := ra0
    obtain ⟨items, k, hl, r, hsize⟩ := I1.isList hn1 hF
    refine ⟨⟨_, hl, rfl⟩, fun b e => by cases e; exact ⟨_, hl, rfl⟩, ?_⟩
    refine callWith_builtin (star_any pos ha) (evalArgs_all ha (wpAny_mono (h1 pos F1 s1 I1 L1) (fun vs s2 ⟨as, σ2, F2, q, rs, I2, m2⟩ => ?_) fun _ _ x => x))
    exact wpAny_mono (hc q I2 (ra.mono m2) rs) (EPost.trans (m1.trans m2)) fun _ _ x => x
  unfold methId at hm
  by_cases e1 : m = ("append" : Str)
  · subst e1; rw [if_pos rfl] at hm; cases hm
    exact go (B := Builtin.«list.append») PySem.F.slot_list_append PySem.F.type_list_append fun q => append_ok (by unfold meth at q; rwa [if_pos rfl] at q)
  rw [if_neg e1] at hm
  by_cases e2 : m = ("pop" : Str)
  · subst e2; rw [if_pos rfl] at hm; cases hm
    exact go (B := Builtin.«list.pop») PySem.F.slot_list_pop PySem.F.type_list_pop fun q => pop_ok (by unfold meth at q; rwa [if_neg e1, if_pos rfl] at q)
  rw [if_neg e2] at hm
  by_cases e3 : m = ("reverse" : Str)
  · subst e3; rw [if_pos rfl] at hm; cases hm
    exact go (B := Builtin.«list.reverse») PySem.F.slot_list_reverse PySem.F.type_list_reverse fun q => reverse_ok (by unfold meth at q; rwa [if_neg e1, if_neg e2, if_pos rfl] at q)
  rw [if_neg e3] at hm; cases hm
end
end Mine

/-! W7 -/
namespace Mine

section
variable {prog : Program} {w : World} {C : Cx} {A : Around} {env : Env} {ρ : Rho} {σ : Store} {F : List Addr} {s : Shared} {sc : Scope}

/-! ### iterators -/
noncomputable def ItH (av : AV) (F : List Addr) (it : Addr) (i : Nat) (h : Heap) : Prop :=
  match av with
  | .loc n => ∃ l, F[n]? = some l ∧ h.IsListIter it l i
  | .rng k => IsRangeIter h it (i : Int) ((k : Int) - i) 1
  | _ => False
noncomputable def iterOf (av : AV) (σ : Store) (ds : List D) : Prop :=
  match av with
  | .loc n => σ[n]? = some (.list ds)
  | .rng k => k ≤ 1000000 ∧ ds = (List.range k).map fun (i : Nat) => iD (i : Int)
  | _ => False

theorem ItH.at {av : AV} {F F' : List Addr} {it : Addr} {i : Nat} {h h' : Heap} (x : ItH av F it i h) (e : h'.get? it = h.get? it) (p : ∀ (n : Nat) (a : Addr), F[n]? = some a → F'[n]? = some a) : ItH av F' it i h' := by
  unfold ItH at *
  split at x
  · obtain ⟨l, hF, o, ho, r⟩ := x
    exact ⟨l, p _ _ hF, o, e.trans ho, r⟩
  · exact e.trans x
  · exact x
theorem ItH.some {av : AV} {F : List Addr} {it : Addr} {i : Nat} {h : Heap} (x : ItH av F it i h) : ∃ o, h.get? it = some o ∧ ¬ ImmO o := by
  unfold ItH at x
  split at x
  · obtain ⟨l, hF, o, ho, hc, _⟩ := x
    refine ⟨o, ho, ?_⟩
    rintro (⟨q, _⟩ | ⟨q, _⟩) <;> rw [hc] at q <;> simp at q
  · refine ⟨_, x, ?_⟩
    rintro (⟨q, _⟩ | ⟨q, _⟩) <;> simp at q
  · exact x.elim

theorem iter_start {av : AV} {v : Value} {ds : List D} {Q : Value → Shared → Prop} (I : Inv C σ F s) (r : Rep C F s.heap av v) (hi : iterOf av σ ds)
    (h : ∀ h', (∀ b o, s.heap.get? b = some o → h'.get? b = some o) → ItH av F s.heap.objs.size 0 h' → Q (.ref s.heap.objs.size) { s with heap := h' }) :
    wpAny (model prog w) A (pyIter v) Q NoE s := by
  unfold iterOf at hi
  split at hi
  · obtain ⟨a, hF, rfl⟩ := r
    obtain ⟨items, n, hl, rr, hsz⟩ := I.isList hi hF
    exact wpAny_pyIter_list (items := items) ⟨_, hl, rfl, _, rfl⟩ (h _ (push_keeps _ _) ⟨a, hF, _, Heap.get?_push_size _ rfl, rfl, rfl⟩)
  · rename_i k
    obtain ⟨r, t, u, x, rfl, hr⟩ := r
    refine wpAny_pyIter_range hr (small_one (by decide) (by decide) (by omega) (by omega)) (h _ (push_keeps _ _) ?_)
    have e : Builtin.Range.rangeSize 0 k 1 = (k : Int) - ((0 : Nat) : Int) := by rw [rangeSize_one]; split <;> omega
    rw [e]
    exact Heap.get?_push_size _ rfl
  · exact hi.elim

theorem iter_next {av : AV} {it : Addr} {i : Nat} {d : D} {ds : List D} {Q : Option Value → Shared → Prop} (I : Inv C σ F s) (x : ItH av F it i s.heap) (hi : iterOf av σ ds) (hd : ds[i]? = some d)
    (h : ∀ h' v t, RepD h' d v → ItH av F it (i + 1) h' → Heap.SameBut it s.heap h' → Q (some v) { s with heap := h', toks := t }) :
    wpAny (model prog w) A (pyNext (.ref it)) Q NoE s := by
  have xi := x.some
  obtain ⟨oi, hoi, hni⟩ := xi
  unfold ItH at x
  unfold iterOf at hi
  split at hi
  · obtain ⟨l, hF, hit⟩ := x
    obtain ⟨items, n, hl, rr, hsz⟩ := I.isList hi hF
    obtain ⟨v, hv, rv⟩ := rr.get hd
    refine wpAny_pyNext_list_item hit (items := items) (x := v) ⟨_, hl, rfl, _, rfl⟩ (by simpa using hv) fun h' hit' hs => h h' v s.toks (RepD.imm (immK_sameBut hs fun o e => by rw [hoi] at e; cases e; exact hni) rv) ⟨l, hF, hit'⟩ hs
  · rename_i k
    obtain ⟨hk, rfl⟩ := hi
    simp only [List.getElem?_map, Option.map_eq_some_iff] at hd
    obtain ⟨j, hj, rfl⟩ := hd
    obtain ⟨hlt, hj⟩ := List.getElem?_eq_some_iff.mp hj
    simp at hj hlt
    subst hj
    refine wpAny_pyNext_range_item x (by omega) fun h' hit' hs => h h' _ _ (⟨_, rfl⟩ : RepD h' (iD (i : Int)) _) ?_ hs
    show IsRangeIter h' it ((i + 1 : Nat) : Int) ((k : Int) - ((i + 1 : Nat) : Int)) 1
    have e1 : ((i + 1 : Nat) : Int) = (i : Int) + 1 := by omega
    have e2 : (k : Int) - ((i + 1 : Nat) : Int) = (k : Int) - i - 1 := by omega
    rw [e2, e1]; exact hit'
  · exact hi.elim

theorem iter_end {av : AV} {it : Addr} {ds : List D} {Q : Option Value → Shared → Prop} (hh : A.handled = none) (I : Inv C σ F s) (x : ItH av F it ds.length s.heap) (hi : iterOf av σ ds)
    (h : ∀ h', Heap.ExtBut it s.heap h' → Q none { s with heap := h' }) :
    wpAny (model prog w) A (pyNext (.ref it)) Q NoE s := by
  unfold ItH at x
  unfold iterOf at hi
  split at hi
  · obtain ⟨l, hF, hit⟩ := x
    obtain ⟨items, n, hl, rr, hsz⟩ := I.isList hi hF
    refine wpAny_pyNext_list_end hh hit (items := items) ⟨_, hl, rfl, _, rfl⟩ (by rw [← hsz]; simp) h
  · rename_i k
    obtain ⟨hk, rfl⟩ := hi
    refine wpAny_pyNext_range_end hh x (by simp) h
  · exact hi.elim

/-! ### private objects -/
theorem Mono.ext {W F F' : List Addr} {h h1 h' : Heap} {a : Addr} (x : Mono W F h F' h1) (hs : Heap.ExtBut a h1 h') (ha : h.get? a = none) : Mono W F h F' h' := by
  have ne : ∀ b o, h.get? b = some o → b ≠ a := fun b o e q => by subst q; rw [ha] at e; cases e
  refine ⟨x.pre, fun b o e hF hW => hs b o (ne b o e) (x.keep b o e hF hW), fun b e => ?_, fun b o e i => hs b o (ne b o e) (x.imm b o e i)⟩
  obtain ⟨o, ho⟩ := Option.isSome_iff_exists.mp e
  obtain ⟨o', ho'⟩ := Option.isSome_iff_exists.mp (x.dom b e)
  exact isSome_of (hs b o' (ne b o ho) ho')
theorem Loc.ext {a : Addr} {h' : Heap} {h : Heap} (L : Loc C env ρ F h) (hs : Heap.ExtBut a h h') (ha : a ∉ own env) (hi : ImmK h h') : Loc C env ρ F h' := by
  obtain ⟨m, hn, hm⟩ := L.ns
  have n1 : env.locals ≠ a := fun q => ha (by simp [own, q])
  refine ⟨⟨m, hn.extBut hs n1, fun x av hk hx => let ⟨v, hv, r⟩ := hm x av hk hx; ⟨v, hv, r.at hi fun _ _ e => e⟩⟩, fun x c hc => ?_, L.inj, L.ne, L.out⟩
  obtain ⟨ov, ⟨oc, hoc, hd⟩, hv⟩ := L.cell x c hc
  have n2 : c ≠ a := fun q => ha (by simp only [own, List.mem_cons, List.mem_map]; exact .inr ⟨_, hc, q⟩)
  exact ⟨ov, ⟨oc, hs c oc n2 hoc, hd⟩, fun av hk hx => let ⟨v, e, r⟩ := hv av hk hx; ⟨v, e, r.at hi fun _ _ e => e⟩⟩
theorem Loc.dom {a : Addr} {h : Heap} (L : Loc C env ρ F h) (ha : a ∈ own env) : ∃ o, h.get? a = some o := by
  rcases List.mem_cons.mp ha with rfl | hc
  · obtain ⟨m, ⟨o, _, _, ho, _⟩, _⟩ := L.ns; exact ⟨o, ho⟩
  · obtain ⟨⟨y, c⟩, hyc, rfl⟩ := List.mem_map.mp hc
    obtain ⟨ov, ⟨oc, hoc, _⟩, _⟩ := L.cell y c hyc
    exact ⟨oc, hoc⟩
theorem Loc.rho {ρ' : Rho} {h : Heap} (L : Loc C env ρ F h) (hx : ∀ x av, ρ' x = some av → ρ x = some av) : Loc C env ρ' F h := by
  obtain ⟨m, hn, hm⟩ := L.ns
  exact ⟨⟨m, hn, fun x av hk h => hm x av hk (hx x av h)⟩, fun x c hc => let ⟨ov, a, b⟩ := L.cell x c hc; ⟨ov, a, fun av hk h => b av hk (hx x av h)⟩, L.inj, L.ne, L.out⟩

/-! ### stores to names -/
noncomputable def isOwn (sc : Scope) (x : Str) : Bool := match sc.names.lookup x with | some .local | some .cell => true | _ => false

theorem store_var {x : Str} {av : AV} {v : Value} {Q : Unit → Shared → Prop} (O : EnvOk sc env) (hx : isOwn sc x = true) (I : Inv C σ F s) (L : Loc C env ρ F s.heap) (r : Rep C F s.heap av v)
    (h : ∀ s', Inv C σ F s' → Loc C env (upd ρ x av) F s'.heap → Mono (own env) F s.heap F s'.heap → (∀ b, b ∉ own env → s'.heap.get? b = s.heap.get? b) → Q () s') :
    wpAny (model prog w) A (storeName env x v) Q NoE s := by
  unfold isOwn at hx
  have hcls : (env.scope.kind == .class || (env.scope.kind == .module && env.locals != env.globals)) = false := by rw [O.kind]; rfl
  obtain ⟨m, hn, hm⟩ := L.ns
  split at hx
  · rename_i hk
    have hk' := O.loc x hk
    refine wpAny_storeName_local hk' hn (fun h' hn' hs => ?_) hcls
    have hi : ImmK s.heap h' := immK_sameBut hs fun o e => ns_notImm hn e
    have hout := L.out env.locals (by simp [own])
    refine h _ (I.ext hs.extBut hout.1 hout.2 hi) ⟨⟨_, hn', fun y av' hy hy' => ?_⟩, fun y c hc => ?_, L.inj, L.ne, L.out⟩ ⟨⟨[], by simp, fun _ m => nomatch m⟩, fun b o e _ hW => ?_, fun b e => ?_, hi⟩ fun b hb => hs.2 b fun q => hb (by simp [own, q])
    · unfold upd at hy'
      by_cases hyx : y = x
      · rw [if_pos hyx] at hy'; cases hy'
        exact ⟨v, by simp [hyx], r.at hi fun _ _ e => e⟩
      · rw [if_neg hyx] at hy'
        obtain ⟨v', hv', r'⟩ := hm y av' hy hy'
        exact ⟨v', by simp [hyx, hv'], r'.at hi fun _ _ e => e⟩
    · obtain ⟨ov, hcell, hov⟩ := L.cell y c hc
      refine ⟨ov, hcell.sameBut hs (L.ne y c hc), fun av' hy hy' => ?_⟩
      have hyx : y ≠ x := by
        rintro rfl
        rw [hk'] at hy
        rcases hy with q | q <;> cases q
      unfold upd at hy'
      rw [if_neg hyx] at hy'
      obtain ⟨v', e, r'⟩ := hov av' hy hy'
      exact ⟨v', e, r'.at hi fun _ _ e => e⟩
    · exact (hs.2 b fun q => hW (by simp [own, q])).trans e
    · by_cases hb : b = env.locals
      · subst hb; obtain ⟨o, _, _, ho, _⟩ := hn'; exact isSome_of ho
      · show (h'.get? b).isSome; rw [hs.2 b hb]; exact e
  · rename_i hk
    obtain ⟨hk', hc⟩ := O.cell x hk
    obtain ⟨c, hc⟩ := Option.isSome_iff_exists.mp hc
    have hmem := mem_of_lookup hc
    obtain ⟨ov, hcell, hov⟩ := L.cell x c hmem
    have hcown : c ∈ own env := by simp only [own, List.mem_cons, List.mem_map]; exact .inr ⟨_, hmem, rfl⟩
    refine wpAny_storeName_cell O.kind hk' hc hcell fun h' hcell' hs => ?_
    have hi : ImmK s.heap h' := immK_sameBut hs fun o e => cell_notImm hcell e
    have hout := L.out c hcown
    refine h _ (I.ext hs.extBut hout.1 hout.2 hi (t := s.toks)) ⟨⟨m, hn.sameBut hs (fun q => L.ne x c hmem q.symm), fun y av' hy hy' => ?_⟩, fun y c' hc' => ?_, L.inj, L.ne, L.out⟩ ⟨⟨[], by simp, fun _ m => nomatch m⟩, fun b o e _ hW => ?_, fun b e => ?_, hi⟩ fun b hb => hs.2 b fun q => hb (by rw [q]; exact hcown)
    · have hyx : y ≠ x := by rintro rfl; rw [hk'] at hy; cases hy
      unfold upd at hy'
      rw [if_neg hyx] at hy'
      obtain ⟨v', hv', r'⟩ := hm y av' hy hy'
      exact ⟨v', hv', r'.at hi fun _ _ e => e⟩
    · by_cases hyx : y = x
      · subst hyx
        by_cases hcc : c' = c
        · subst hcc
          refine ⟨some v, hcell', fun av' _ hy' => ?_⟩
          unfold upd at hy'; rw [if_pos rfl] at hy'; cases hy'
          exact ⟨v, rfl, r.at hi fun _ _ e => e⟩
        · obtain ⟨ov', hcell2, hov2⟩ := L.cell y c' hc'
          exact absurd hc' (fun _ => hcc (by
            rcases O.uniq y c' c hc' hmem with e; exact e))
      · have hcc : c' ≠ c := fun q => hyx (L.inj y x c' hc' (q ▸ hmem))
        obtain ⟨ov', hcell2, hov2⟩ := L.cell y c' hc'
        refine ⟨ov', hcell2.sameBut hs hcc, fun av' hy hy' => ?_⟩
        unfold upd at hy'; rw [if_neg hyx] at hy'
        obtain ⟨v', e, r'⟩ := hov2 av' hy hy'
        exact ⟨v', e, r'.at hi fun _ _ e => e⟩
    · exact (hs.2 b fun q => hW (by rw [q]; exact hcown)).trans e
    · by_cases hb : b = c
      · subst hb; obtain ⟨o, ho, _⟩ := hcell'; exact isSome_of ho
      · show (h'.get? b).isSome; rw [hs.2 b hb]; exact e
  · cases hx
end
end Mine

/-! W8 -/
namespace Mine

section
variable {prog : Program} {w : World} {C : Cx} {A : Around} {env : Env} {ρ : Rho} {σ : Store} {F : List Addr} {s : Shared} {sc : Scope}

theorem SPost.trans {Q : AF → Rho → Store → Prop} {F1 : List Addr} {s1 : Shared} (m : Mono (own env) F s.heap F1 s1.heap) : ∀ v s', SPost C env Q F1 s1 v s' → SPost C env Q F s v s' :=
  fun _ _ ⟨af, ρ', σ', F', q, r, i, l, m'⟩ => ⟨af, ρ', σ', F', q, r, i, l, m.trans m'⟩
theorem sp_here {Q : AF → Rho → Store → Prop} {af : AF} {f : Flow} (I : Inv C σ F s) (L : Loc C env ρ F s.heap) (r : RepFlow C F s.heap af f) (q : Q af ρ σ) : SPost C env Q F s f s := ⟨af, ρ, σ, F, q, r, I, L, Mono.refl _ _ _⟩
theorem WB.mono {M : Model} {Q Q' : AF → Rho → Store → Prop} {sts : List Stmt} (h : WB M C A env sts ρ σ Q) (hq : ∀ f ρ' σ', Q f ρ' σ' → Q' f ρ' σ') : WB M C A env sts ρ σ Q' :=
  fun F s I L => wpAny_mono (h F s I L) (fun _ _ ⟨af, ρ', σ', F', q, r⟩ => ⟨af, ρ', σ', F', hq _ _ _ q, r⟩) fun _ _ x => x

theorem wb_nil {M : Model} {Q : AF → Rho → Store → Prop} (h : Q .next ρ σ) : WB M C A env [] ρ σ Q := fun _ _ I L => wpAny_execs_nil (sp_here (af := .next) I L rfl h)
theorem wb_cons {M : Model} {st : Stmt} {r : List Stmt} {Q : AF → Rho → Store → Prop} (h : WS M C A env st ρ σ fun f ρ1 σ1 => match f with | .next => WB M C A env r ρ1 σ1 Q | f => Q f ρ1 σ1) :
    WB M C A env (st :: r) ρ σ Q := fun F s I L => wpAny_execs_cons (wpAny_mono (h F s I L) (fun f s1 ⟨af, ρ1, σ1, F1, q, rf, I1, L1, m1⟩ => by
  cases af with
  | next =>
    cases rf
    exact wpAny_mono (q F1 s1 I1 L1) (SPost.trans m1) fun _ _ x => x
  | brk => cases rf; exact ⟨.brk, ρ1, σ1, F1, q, rfl, I1, L1, m1⟩
  | cont => cases rf; exact ⟨.cont, ρ1, σ1, F1, q, rfl, I1, L1, m1⟩
  | ret av =>
    obtain ⟨v, rfl, rv⟩ := rf
    exact ⟨.ret av, ρ1, σ1, F1, q, ⟨v, rfl, rv⟩, I1, L1, m1⟩) fun _ _ x => x)

noncomputable def notComp : Expr → Bool
  | .ListComp .. | .SetComp .. | .DictComp .. => false
  | _ => true
theorem swaps_no {e : Expr} {t : Option Expr} {n : Nat} (h : notComp e = true) : swapsWith e t n env = pure false := by cases e <;> first | rfl | cases h

theorem ws_assign {x : Str} {xp pos} {e : Expr} {Q : AF → Rho → Store → Prop} (O : EnvOk sc env) (hx : isOwn sc x = true) (he : notComp e = true)
    (h : WE (model prog w) C A env e ρ σ fun v σ1 => Q .next (upd ρ x v) σ1) : WS (model prog w) C A env (.Assign [.Name x xp] e pos) ρ σ Q := fun F s I L =>
  wpAny_Assign_Name (we_then I L h fun v s1 av σ1 F1 q r I1 L1 m1 => store_var O hx I1 L1 r fun s2 I2 L2 m2 _ => ⟨.next, _, _, _, q, rfl, I2, L2, m1.up.trans m2⟩) (swaps_no he)

theorem ws_aug {x : Str} {xp pos} {e : Expr} {Q : AF → Rho → Store → Prop} (O : EnvOk sc env) (hx : isOwn sc x = true) (hv : isVar sc x = true)
    (h : ∃ i, ρ x = some (I' i) ∧ WE (model prog w) C A env e ρ σ fun v σ1 => ∃ j, v = I' j ∧ Q .next (upd ρ x (I' (i + j))) σ1) : WS (model prog w) C A env (.AugAssign (.Name x xp) .Add e pos) ρ σ Q := fun F s I L => by
  obtain ⟨i, hi, h⟩ := h
  refine wpAny_AugAssign_Name (load_var O hv hi L fun v r => we_then I L h fun v1 s1 av σ1 F1 q r1 I1 L1 m1 => ?_)
  obtain ⟨j, rfl, hq⟩ := q
  obtain ⟨t, rfl⟩ := rep_int_inv r
  obtain ⟨u, rfl⟩ := rep_int_inv r1
  refine PyProof.Rows.iadd_int ?_
  refine store_var (s := { s1 with toks := s1.toks + 1 }) O hx (I1.tok _) L1 (rep_int _ _) fun s2 I2 L2 m2 _ => ⟨.next, _, _, _, hq, rfl, I2, L2, m1.up.trans m2⟩

theorem ws_return {e : Expr} {pos} {Q : AF → Rho → Store → Prop} (h : WE (model prog w) C A env e ρ σ fun v σ1 => Q (.ret v) ρ σ1) : WS (model prog w) C A env (.Return (some e) pos) ρ σ Q := fun F s I L =>
  wpAny_Return_some (we_then I L h fun v s1 av σ1 F1 q r I1 L1 m1 => ⟨.ret av, _, _, _, q, ⟨v, rfl, r⟩, I1, L1, m1.up⟩)
theorem ws_return_none {pos} {Q : AF → Rho → Store → Prop} (h : Q (.ret N') ρ σ) : WS (model prog w) C A env (.Return none pos) ρ σ Q := fun F s I L =>
  wpAny_Return_none ⟨.ret N', _, _, _, h, ⟨_, rfl, rep_none⟩, I, L, Mono.refl _ _ _⟩
theorem ws_continue {pos} {Q : AF → Rho → Store → Prop} (h : Q .cont ρ σ) : WS (model prog w) C A env (.Continue pos) ρ σ Q := fun F s I L => wpAny_Continue (sp_here (af := .cont) I L rfl h)
theorem ws_pass {pos} {Q : AF → Rho → Store → Prop} (h : Q .next ρ σ) : WS (model prog w) C A env (.Pass pos) ρ σ Q := fun F s I L => wpAny_Pass (sp_here (af := .next) I L rfl h)

theorem ws_expr {e : Expr} {pos} {Q : AF → Rho → Store → Prop} (O : EnvOk sc env) (he : notComp e = true) (h : WE (model prog w) C A env e ρ σ fun v σ1 => v = N' ∧ Q .next ρ σ1) : WS (model prog w) C A env (.Expr e pos) ρ σ Q := fun F s I L =>
  wpAny_Expr (we_then I L h fun v s1 av σ1 F1 ⟨e, q⟩ r I1 L1 m1 => by
    subst e
    have : v = .none := r
    subst this
    exact ⟨.next, _, _, _, q, rfl, I1, L1, m1.up⟩) (by unfold interactive; rw [O.kind]; rfl) (swaps_no he)

theorem ws_if {t : Expr} {b o : List Stmt} {pos} {Q : AF → Rho → Store → Prop} (h : WT (model prog w) C A env t ρ σ fun c σ1 => if c = true then WB (model prog w) C A env b ρ σ1 Q else WB (model prog w) C A env o ρ σ1 Q) :
    WS (model prog w) C A env (.If t b o pos) ρ σ Q := fun F s I L => wpAny_If (wt_then I L h fun c s1 σ1 F1 q I1 L1 m1 => by
  cases c
  · exact wpAny_mono (q F1 s1 I1 L1) (SPost.trans m1.up) fun _ _ x => x
  · exact wpAny_mono (q F1 s1 I1 L1) (SPost.trans m1.up) fun _ _ x => x)

theorem ws_while {t : Expr} {b : List Stmt} {pos} {Q : AF → Rho → Store → Prop}
    (h : ∃ (J : Nat → Rho → Store → Prop) (n : Nat), J n ρ σ ∧ ∀ n ρ σ, J n ρ σ → WT (model prog w) C A env t ρ σ fun c σ1 =>
      if c = true then WB (model prog w) C A env b ρ σ1 (fun f ρ' σ' => match f with | .next | .cont => ∃ m, m < n ∧ J m ρ' σ' | .brk => Q .next ρ' σ' | .ret v => Q (.ret v) ρ' σ') else Q .next ρ σ1) :
    WS (model prog w) C A env (.While t b [] pos) ρ σ Q := fun F s I L => by
  obtain ⟨J, n, hJ, step⟩ := h
  refine wpAny_While (codeAny_whileLoop (fun n s1 => ∃ ρ1 σ1 F1, J n ρ1 σ1 ∧ Inv C σ1 F1 s1 ∧ Loc C env ρ1 F1 s1.heap ∧ Mono (own env) F s.heap F1 s1.heap) (fun n s1 h1 => ?_) n ⟨ρ, σ, F, hJ, I, L, Mono.refl _ _ _⟩)
  obtain ⟨ρ1, σ1, F1, hJ1, I1, L1, m1⟩ := h1
  refine wpAny_mono (wt_then I1 L1 (step n ρ1 σ1 hJ1) fun c s2 σ2 F2 q I2 L2 m2 => ?_) (fun _ _ x => x) fun _ _ x => x.elim
  cases c with
  | false =>
    simp only [Bool.false_eq_true, if_false] at q ⊢
    exact wpAny_execs_nil ⟨.next, _, _, _, q, rfl, I2, L2, m1.trans m2.up⟩
  | true =>
    simp only [if_true] at q ⊢
    refine wpAny_mono (q F2 s2 I2 L2) (fun f s3 ⟨af, ρ3, σ3, F3, q3, rf, I3, L3, m3⟩ => ?_) fun _ _ x => x.elim
    have m := (m1.trans m2.up).trans m3
    cases af with
    | next =>
      cases rf
      obtain ⟨k, hk, hJ3⟩ := q3
      exact ⟨k, hk, ρ3, σ3, F3, hJ3, I3, L3, m⟩
    | cont =>
      cases rf
      obtain ⟨k, hk, hJ3⟩ := q3
      exact ⟨k, hk, ρ3, σ3, F3, hJ3, I3, L3, m⟩
    | brk => cases rf; exact ⟨.next, _, _, _, q3, rfl, I3, L3, m⟩
    | ret av =>
      obtain ⟨v, rfl, rv⟩ := rf
      exact ⟨.ret av, _, _, _, q3, ⟨v, rfl, rv⟩, I3, L3, m⟩

theorem ws_for {x : Str} {xp pos} {iter : Expr} {b : List Stmt} {Q : AF → Rho → Store → Prop} (O : EnvOk sc env) (hx : isOwn sc x = true) (hh : A.handled = none) (hs : notSet iter = true)
    (h : WE (model prog w) C A env iter ρ σ fun v σ1 => ∃ ds, iterOf v σ1 ds ∧ ∃ J : Nat → Rho → Store → Prop, J 0 ρ σ1 ∧ (∀ i ρ σ, J i ρ σ → iterOf v σ ds) ∧
      (∀ i d ρ σ, ds[i]? = some d → J i ρ σ → WB (model prog w) C A env b (upd ρ x (.d d)) σ fun f ρ' σ' => match f with | .next | .cont => J (i + 1) ρ' σ' | .brk => Q .next ρ' σ' | .ret v => Q (.ret v) ρ' σ') ∧
      (∀ ρ σ, J ds.length ρ σ → Q .next ρ σ)) :
    WS (model prog w) C A env (.For (.Name x xp) iter b [] pos) ρ σ Q := fun F s I L => by
  refine wpAny_For (we_then I L h fun v s1 av σ1 F1 q r I1 L1 m1 => ?_) (fun y => by
    unfold foldedSetIterable
    cases iter <;> first | rfl | cases hs)
  obtain ⟨ds, hi, J, h0, hst, hstep, hend⟩ := q
  refine iter_start I1 r hi fun h' hk hit => ?_
  have hnone : s1.heap.get? s1.heap.objs.size = none := get_none_of_ge (Nat.le_refl _)
  have hb := I1.base_none hnone
  have hown : s1.heap.objs.size ∉ own env := fun hm => by
    obtain ⟨o, ho⟩ := L1.dom hm
    rw [hnone] at ho; cases ho
  refine codeAny_forLoop (fun n s2 => ∃ i ρ2 σ2 F2, n = ds.length - i ∧ i ≤ ds.length ∧ J i ρ2 σ2 ∧ Inv C σ2 F2 s2 ∧ Loc C env ρ2 F2 s2.heap ∧ Mono (own env) F1 s1.heap F2 s2.heap ∧ ItH av F2 s1.heap.objs.size i s2.heap ∧ s1.heap.objs.size ∉ F2)
    (fun n s2 h2 => ?_) ds.length ⟨0, ρ, σ1, F1, rfl, Nat.zero_le _, h0, I1.keeps hk (t := s1.toks), L1.mono (Mono.keeps hk), Mono.keeps hk, hit, I1.size_notin⟩
  obtain ⟨i, ρ2, σ2, F2, rfl, hle, hJ, I2, L2, m2, it2, hF2⟩ := h2
  have hi2 := hst i ρ2 σ2 hJ
  obtain ⟨oi, hoi, hni⟩ := it2.some
  have hni' : ∀ o, s2.heap.get? s1.heap.objs.size = some o → ¬ ImmO o := fun o e => by rw [hoi] at e; cases e; exact hni
  rcases Nat.lt_or_ge i ds.length with hlt | hge
  · have hd : ds[i]? = some ds[i] := List.getElem?_eq_getElem hlt
    refine wpAny_mono (iter_next I2 it2 hi2 hd fun h3 v3 t rv it3 hs3 => ?_) (fun _ _ x => x) fun _ _ x => x.elim
    have im3 : ImmK s2.heap h3 := immK_sameBut hs3 hni'
    have I3 : Inv C σ2 F2 { s2 with heap := h3, toks := t } := I2.ext hs3.extBut hF2 hb im3
    have L3 : Loc C env ρ2 F2 h3 := L2.ext hs3.extBut hown im3
    have m3 : Mono (own env) F1 s1.heap F2 h3 := m2.ext hs3.extBut hnone
    refine PySem.wpAny_assign_Name (wpAny_mono (store_var (s := { s2 with heap := h3, toks := t }) (av := .d ds[i]) O hx I3 L3 rv fun s4 I4 L4 m4 hk4 => ?_) (fun _ _ x => x) fun _ _ x => x.elim)
    have it4 : ItH av F2 s1.heap.objs.size (i + 1) s4.heap := it3.at (hk4 _ hown) fun _ _ e => e
    refine wpAny_mono (hstep i ds[i] ρ2 σ2 hd hJ F2 s4 I4 L4) (fun f s5 ⟨af, ρ5, σ5, F5, q5, rf, I5, L5, m5⟩ => ?_) fun _ _ x => x.elim
    have m := (m3.trans m4).trans m5
    obtain ⟨o4, ho4, _⟩ := it4.some
    have it5 : ItH av F5 s1.heap.objs.size (i + 1) s5.heap := it4.at ((m5.keep _ _ ho4 hF2 hown).trans ho4.symm) fun _ _ e => m5.get e
    have hF5 : s1.heap.objs.size ∉ F5 := m5.notIn ho4 hF2
    cases af with
    | next => cases rf; exact ⟨ds.length - (i + 1), by omega, i + 1, ρ5, σ5, F5, rfl, hlt, q5, I5, L5, m, it5, hF5⟩
    | cont => cases rf; exact ⟨ds.length - (i + 1), by omega, i + 1, ρ5, σ5, F5, rfl, hlt, q5, I5, L5, m, it5, hF5⟩
    | brk => cases rf; exact ⟨.next, _, _, _, q5, rfl, I5, L5, m1.up.trans m⟩
    | ret av =>
      obtain ⟨v, rfl, rv⟩ := rf
      exact ⟨.ret av, _, _, _, q5, ⟨v, rfl, rv⟩, I5, L5, m1.up.trans m⟩
  · obtain rfl : i = ds.length := Nat.le_antisymm hle hge
    refine wpAny_mono (iter_end hh I2 it2 hi2 fun h3 hs3 => ?_) (fun _ _ x => x) fun _ _ x => x.elim
    have im3 : ImmK s2.heap h3 := immK_extBut hs3 hni'
    exact wpAny_execs_nil ⟨.next, ρ2, σ2, F2, hend _ _ hJ, rfl, I2.ext hs3 hF2 hb im3 (t := s2.toks), L2.ext hs3 hown im3, m1.up.trans (m2.ext hs3 hnone)⟩

/-! ### stores into places -/
inductive setItemV : AV → AV → AV → Store → Store → Prop
  | list {n : Nat} {i : Int} {ds : List D} {d : D} {σ : Store} (e : σ[n]? = some (.list ds)) (h0 : 0 ≤ i) (h1 : i < ds.length) (h2 : i < 1000000) : setItemV (.loc n) (I' i) (.d d) σ (σ.set n (.list (ds.set i.toNat d)))
  | dict {n : Nat} {i : Int} {ks : List Int} {b : Bool} {σ : Store} (e : σ[n]? = some (.dict ks)) (h : ks.length < 1000000) : setItemV (.loc n) (I' i) (B' b) σ (σ.set n (.dict (i :: ks)))

/-- a store into a plain list leaves a plain list -/
theorem wpAny_setItem_list' {l : Addr} {items : Array Value} {k : Int} {m : Nat} {t : Tok} {v : Value} {Q : Unit → Shared → Prop} (hl : IsL s.heap l items m)
    (h0 : 0 ≤ k) (hfit : k < 2 ^ 63) (hn : k < items.size)
    (hQ : ∀ h', (∃ m', IsL h' l (items.setIfInBounds k.toNat v) m') → Heap.SameBut l s.heap h' → Q () { s with heap := h' }) :
    wpAny (model prog w) A (setItem (.ref l) (.int k t) v) Q NoE s := by
  have hT : s.TypeIs (.ref l) "list" := ⟨_, hl, rfl⟩
  unfold setItem
  try with_reducible refine wpAny_holding ?_
  first | refine wpAny_bind (wpAny_pure ?_) | skip
  refine wpAny_bind (wpAny_sequenceKey hT (by decide) ?_)
  refine wpAny_bind (wpAny_callSpecial?_slot (name := Str.ofString "__setitem__") hT slot_list_setitem (wpAny_call_entry slot_list_setitem hT entry_list_setitem ?_ (args_list_setitem _ _ _)))
  show wpAny _ _ (Builtin.List.listSubscript? (.int k t) >>= _) _ _ s
  refine wpAny_bind (wpAny_listSubscript_int (fitsIndex_of h0 hfit) ?_)
  clear hfit
  obtain ⟨j, rfl⟩ := Int.eq_ofNat_of_zero_le h0
  have hj : j < items.size := by omega
  show wpAny _ _ ((seqItemAt l j >>= fun r => pure (r.map (j, ·))) >>= _) _ _ s
  refine wpAny_bind (wpAny_bind (wpAny_seqItemAt hl rfl (wpAny_pure ?_)))
  rw [show items[j]? = some items[j] from Array.getElem?_eq_getElem hj]
  show wpAny _ _ (setSeqItemAt l j v >>= _) _ _ s
  refine wpAny_bind (wpAny_setSeqItemAt hl rfl ?_)
  have fin := hQ _ ⟨_, hl.update (·.setIfInBounds j v)⟩ (Heap.SameBut.update ..)
  first
    | exact wpAny_bind (wpAny_pure (wpAny_pure ⟨.none, rfl, wpAny_pure fin⟩))
    | exact wpAny_pure ⟨.none, rfl, wpAny_pure fin⟩

theorem setItem_ok {a b v : AV} {va vb vv : Value} {σ1 : Store} {Q : Unit → Shared → Prop} (h : setItemV a b v σ σ1) (I : Inv C σ F s) (ra : Rep C F s.heap a va) (rb : Rep C F s.heap b vb) (rv : Rep C F s.heap v vv)
    (hq : ∀ s', Inv C σ1 F s' → Mono [] F s.heap F s'.heap → Q () s') : wpAny (model prog w) A (setItem va vb vv) Q NoE s := by
  cases h with
  | @list n i ds d _ hds h0 h1 h2 =>
    obtain ⟨a1, hF, rfl⟩ := ra
    obtain ⟨t, rfl⟩ := rep_int_inv rb
    obtain ⟨items, k, hl, r, hsz⟩ := I.isList hds hF
    obtain ⟨j, rfl⟩ := Int.eq_ofNat_of_zero_le h0
    refine wpAny_setItem_list' hl h0 (by omega) (by omega) fun h' hl' hs => ?_
    have him : ImmK s.heap h' := immK_sameBut hs fun o e => ObjRep.notImm (obj_list (C := C) (F := F) hl r) e
    obtain ⟨n', hl'⟩ := hl'
    obtain ⟨I2, m2⟩ := I.set (t := s.toks) hds hF hs (obj_list hl' (by simpa using (r.imm him).set j (RepD.imm him rv)))
    exact hq _ I2 m2
  | @dict n i ks c _ hks hlen =>
    obtain ⟨a1, hF, rfl⟩ := ra
    obtain ⟨t, rfl⟩ := rep_int_inv rb
    obtain ⟨f, hm, hf, hle⟩ := I.objs _ _ _ hks hF
    refine wpAny_setItem_intMap_le hm hle (sizeLine_big (by omega)) fun h' hm' hle' hs => ?_
    obtain ⟨I2, m2⟩ := I.set (t := s.toks + 1) hks hF hs (ao' := .dict (i :: ks)) ⟨_, hm', fun k => by
      by_cases e : k = i
      · simp [e]
      · simp [e, hf k], hle'⟩
    exact hq _ I2 m2

theorem ws_assign_sub {o i e : Expr} {sp pos} {Q : AF → Rho → Store → Prop} (he : notComp e = true)
    (h : WE (model prog w) C A env e ρ σ fun v σ1 => WE (model prog w) C A env o ρ σ1 fun a σ2 => WE (model prog w) C A env i ρ σ2 fun b σ3 => ∃ σ4, setItemV a b v σ3 σ4 ∧ Q .next ρ σ4) :
    WS (model prog w) C A env (.Assign [.Subscript o i sp] e pos) ρ σ Q := fun F s I L =>
  wpAny_Assign_Subscript (we_then I L h fun vv s1 v σ1 F1 h1 rv I1 L1 m1 => we_then I1 L1 h1 fun va s2 a σ2 F2 h2 ra I2 L2 m2 => we_then I2 L2 h2 fun vb s3 b σ3 F3 ⟨σ4, h3, hq⟩ rb I3 L3 m3 =>
    setItem_ok h3 I3 (ra.mono m3) rb (rv.mono (m2.trans m3)) fun s4 I4 m4 => ⟨.next, ρ, σ4, F3, hq, rfl, I4, L3.mono m4, (((m1.trans m2).trans m3).trans m4).up⟩) (swaps_no he)
end
end Mine

/-! W9 -/
namespace Mine

noncomputable def codeAttrs : List Str := ["expr", "rows", "consts", "depth"]

/-- the class of the text -/
structure ClsOk (C : Cx) : Prop where
  at_ : ∃ N mN, ClsAt C.h0 C.cls N mN ∧ mN "__setattr__" = none ∧ mN "__getattribute__" = none ∧ ∀ x ∈ codeAttrs, mN x = none

theorem object_no {x : Str} (h : x ∈ codeAttrs) : typeLookup (.type "object") x = pure none := by
  simp only [codeAttrs, List.mem_cons, List.not_mem_nil, or_false] at h
  rcases h with rfl | rfl | rfl | rfl <;> (rw [typeLookup_type, builtinLookup_eq_fast]; kernel_rfl)

section
variable {prog : Program} {w : World} {C : Cx} {A : Around} {env : Env} {ρ : Rho} {σ : Store} {F : List Addr} {s : Shared} {sc : Scope}

/-! ### a tuple to several names -/
noncomputable def namesOf : List Expr → Option (List Str)
  | [] => some []
  | .Name x _ :: r => (namesOf r).map (x :: ·)
  | _ => none
noncomputable def updS (ρ : Rho) : List Str → List S → Rho
  | x :: xs, v :: vs => updS (upd ρ x (.d (.s v))) xs vs
  | _, _ => ρ

theorem assign_names : ∀ {elts : List Expr} {xs : List Str} {vs : List S} {vals : List Value} {ρ : Rho} {s : Shared} {Q : Unit → Shared → Prop} (_ : EnvOk sc env) (_ : namesOf elts = some xs) (_ : xs.all (isOwn sc) = true)
    (_ : RepSs vs vals) (_ : Inv C σ F s) (_ : Loc C env ρ F s.heap) (_ : ∀ s', Inv C σ F s' → Loc C env (updS ρ xs vs) F s'.heap → Mono (own env) F s.heap F s'.heap → Q () s') (_ : xs.length = vs.length),
    wpAny (model prog w) A (assignInOrder ((assignEach elts env).map (·.2)) vals) Q NoE s
  | [], _, vs, vals, ρ, s, Q, O, hn, hx, r, I, L, h, hl => by
    cases hn
    cases vs with
    | nil => cases r; exact wpAny_pure (h s I L (Mono.refl _ _ _))
    | cons _ _ => cases hl
  | .Name x p :: es, _, vs, vals, ρ, s, Q, O, hn, hx, r, I, L, h, hl => by
    simp only [namesOf, Option.map_eq_some_iff] at hn
    obtain ⟨xs, hn, rfl⟩ := hn
    cases vs with
    | nil => cases hl
    | cons v vs =>
      obtain ⟨u, us, rfl, hv, hr⟩ := r
      rw [List.all_cons, Bool.and_eq_true] at hx
      show wpAny _ _ (holding us (assign (.Name x p) env u) >>= fun _ => assignInOrder ((assignEach es env).map (·.2)) us) _ _ s
      refine wpAny_bind (wpAny_holding (PySem.wpAny_assign_Name (store_var (av := .d (.s v)) O hx.1 I L hv fun s1 I1 L1 m1 _ => ?_)))
      exact assign_names (vs := vs) O hn hx.2 hr I1 L1 (fun s2 I2 L2 m2 => h s2 I2 L2 (m1.trans m2)) (by simpa using hl)
  | .BoolOp .. :: _, _, _, _, _, _, _, _, hn, _, _, _, _, _, _ => by cases hn
  | .NamedExpr .. :: _, _, _, _, _, _, _, _, hn, _, _, _, _, _, _ => by cases hn
  | .BinOp .. :: _, _, _, _, _, _, _, _, hn, _, _, _, _, _, _ => by cases hn
  | .UnaryOp .. :: _, _, _, _, _, _, _, _, hn, _, _, _, _, _, _ => by cases hn
  | .Lambda .. :: _, _, _, _, _, _, _, _, hn, _, _, _, _, _, _ => by cases hn
  | .IfExp .. :: _, _, _, _, _, _, _, _, hn, _, _, _, _, _, _ => by cases hn
  | .Dict .. :: _, _, _, _, _, _, _, _, hn, _, _, _, _, _, _ => by cases hn
  | .Set .. :: _, _, _, _, _, _, _, _, hn, _, _, _, _, _, _ => by cases hn
  | .ListComp .. :: _, _, _, _, _, _, _, _, hn, _, _, _, _, _, _ => by cases hn
  | .SetComp .. :: _, _, _, _, _, _, _, _, hn, _, _, _, _, _, _ => by cases hn
  | .DictComp .. :: _, _, _, _, _, _, _, _, hn, _, _, _, _, _, _ => by cases hn
  | .GeneratorExp .. :: _, _, _, _, _, _, _, _, hn, _, _, _, _, _, _ => by cases hn
  | .Await .. :: _, _, _, _, _, _, _, _, hn, _, _, _, _, _, _ => by cases hn
  | .Yield .. :: _, _, _, _, _, _, _, _, hn, _, _, _, _, _, _ => by cases hn
  | .YieldFrom .. :: _, _, _, _, _, _, _, _, hn, _, _, _, _, _, _ => by cases hn
  | .Compare .. :: _, _, _, _, _, _, _, _, hn, _, _, _, _, _, _ => by cases hn
  | .Call .. :: _, _, _, _, _, _, _, _, hn, _, _, _, _, _, _ => by cases hn
  | .FormattedValue .. :: _, _, _, _, _, _, _, _, hn, _, _, _, _, _, _ => by cases hn
  | .JoinedStr .. :: _, _, _, _, _, _, _, _, hn, _, _, _, _, _, _ => by cases hn
  | .Constant .. :: _, _, _, _, _, _, _, _, hn, _, _, _, _, _, _ => by cases hn
  | .Attribute .. :: _, _, _, _, _, _, _, _, hn, _, _, _, _, _, _ => by cases hn
  | .Subscript .. :: _, _, _, _, _, _, _, _, hn, _, _, _, _, _, _ => by cases hn
  | .Starred .. :: _, _, _, _, _, _, _, _, hn, _, _, _, _, _, _ => by cases hn
  | .List .. :: _, _, _, _, _, _, _, _, hn, _, _, _, _, _, _ => by cases hn
  | .Tuple .. :: _, _, _, _, _, _, _, _, hn, _, _, _, _, _, _ => by cases hn
  | .Slice .. :: _, _, _, _, _, _, _, _, hn, _, _, _, _, _, _ => by cases hn

theorem namesOf_each (env : Env) : ∀ {elts : List Expr} {xs : List Str}, namesOf elts = some xs → (assignEach elts env).length = xs.length ∧ (assignEach elts env).findIdx? (·.1) = none
  | [], _, h => by cases h; exact ⟨rfl, rfl⟩
  | e :: es, xs, h => by
    cases e
    case Name x p =>
      simp only [namesOf, Option.map_eq_some_iff] at h
      obtain ⟨ys, hn, rfl⟩ := h
      have ih := namesOf_each env hn
      refine ⟨?_, ?_⟩
      · show (assignEach es env).length + 1 = ys.length + 1
        rw [ih.1]
      · show List.findIdx? (·.1) ((false, assign (.Name x p) env) :: assignEach es env) = none
        rw [List.findIdx?_cons, if_neg (by simp), ih.2]; rfl
    all_goals cases h

noncomputable def notTuple : Expr → Bool
  | .Tuple .. => false
  | _ => true
theorem ws_assign_tuple {elts : List Expr} {xs : List Str} {k tpos pos} {e : Expr} {Q : AF → Rho → Store → Prop} (O : EnvOk sc env) (hh : A.handled = none) (hn : namesOf elts = some xs) (hx : xs.all (isOwn sc) = true) (he : notComp e = true) (ht : notTuple e = true)
    (h : WE (model prog w) C A env e ρ σ fun v σ1 => ∃ vs, v = .d (.t vs) ∧ vs.length = xs.length ∧ Q .next (updS ρ xs vs) σ1) : WS (model prog w) C A env (.Assign [.Tuple elts k tpos] e pos) ρ σ Q := fun F s I L =>
  Assign_Tuple (we_then I L h fun v s1 av σ1 F1 ⟨vs, ev, hl, q⟩ r I1 L1 m1 => by
    subst ev
    obtain ⟨a, items, n, rfl, hti, rr⟩ := r
    have hsz : items.size = vs.length := by simpa using rr.length
    refine wpAny_assign_Tuple hh (items := items) ⟨_, hti, rfl, _, rfl⟩ (by rw [(namesOf_each env hn).1, hsz, hl]) (namesOf_each env hn).2 fun h' hs => ?_
    have hnone : s1.heap.get? s1.heap.objs.size = none := get_none_of_ge (Nat.le_refl _)
    have im : ImmK s1.heap h' := immK_extBut hs fun o e => by rw [hnone] at e; cases e
    have hown : s1.heap.objs.size ∉ own env := fun hm => by
      obtain ⟨o, ho⟩ := L1.dom hm
      rw [hnone] at ho; cases ho
    refine assign_names (s := { s1 with heap := h' }) O hn hx rr (I1.ext hs I1.size_notin (I1.base_none hnone) im (t := s1.toks)) (L1.ext hs hown im) (fun s2 I2 L2 m2 => ⟨.next, _, _, _, q, rfl, I2, L2, m1.up.trans (((Mono.refl _ _ _).ext hs hnone).trans m2)⟩) hl.symm)
    (swaps_no (env := env) (n := pos.line) (t := some (.Tuple elts k tpos)) he) (by unfold swappedStores; cases e <;> first | rfl | cases ht)

/-! ### attributes -/
noncomputable def baseOk : Expr → Bool
  | .Name .. => true
  | .Call _ (_ :: _) _ _ => true
  | _ => false

theorem inst_of {n : Nat} {m : Nat} {kvs : List (Str × AV)} {a : Addr} (I : Inv C σ F s) (h1 : σ[n]? = some (.inst m)) (h2 : σ[m]? = some (.attrs kvs)) (hF : F[n]? = some a) :
    ∃ d o mA, F[m]? = some d ∧ s.heap.get? a = some o ∧ o.dict = some d ∧ s.heap.Ns1 d mA ∧ d ≠ a ∧ s.heap.Inst a C.cls mA ∧ (∀ x, (kvs.lookup x).isSome = (mA x).isSome) ∧ (∀ x av, kvs.lookup x = some av → ∃ v, mA x = some v ∧ Rep C F s.heap av v) := by
  obtain ⟨d, hd, hne, o, ho, hc, hdd, hdata⟩ := I.objs _ _ _ h1 hF
  obtain ⟨mA, hm, hs, hr⟩ := I.objs _ _ _ h2 hd
  exact ⟨d, o, mA, hd, ho, hdd, hm, hne, ⟨o, ho, hc, hdata, .inr ⟨d, hdd, hne, hm⟩⟩, hs, hr⟩

theorem rep_not_builtin {av : AV} {v : Value} {h : Heap} (r : Rep C F h av v) : handedOut v = pure v := by
  cases av with
  | d d => cases d with
    | s x => cases x with
      | none => have : v = .none := r; subst this; rfl
      | bool b => have : v = .bool b := r; subst this; rfl
      | int i => obtain ⟨t, rfl⟩ := r; rfl
      | str x => obtain ⟨_, t, rfl⟩ := r; rfl
    | t xs => obtain ⟨a, _, _, rfl, _⟩ := r; rfl
  | loc n => obtain ⟨a, _, rfl⟩ := r; rfl
  | rng n => obtain ⟨a, _, _, _, rfl, _⟩ := r; rfl
  | scr => have : v = .ref C.scr := r; subst this; rfl

theorem we_attr {e : Expr} {x : Str} {pos} {Q : AV → Store → Prop} (hC : ClsOk C) (he : baseOk e = true) (hx : x ∈ codeAttrs)
    (h : WE (model prog w) C A env e ρ σ fun v σ1 => ∃ n m kvs av, v = .loc n ∧ σ1[n]? = some (.inst m) ∧ σ1[m]? = some (.attrs kvs) ∧ kvs.lookup x = some av ∧ Q av σ1) :
    WE (model prog w) C A env (.Attribute e x pos) ρ σ Q := fun F s I L => by
  refine Attribute_any_ (we_then I L h fun v s1 _ σ1 F1 ⟨n, m, kvs, av, ev, h1, h2, hl, q⟩ r I1 L1 m1 => ?_) (by cases e <;> first | rfl | cases he | (rename_i f as ks p; cases as <;> first | (cases f <;> rfl) | cases he))
  subst ev
  obtain ⟨a, hF, rfl⟩ := r
  obtain ⟨d, o, mA, hd, ho, hdd, hm, hne, hI, hs, hr⟩ := inst_of I1 h1 h2 hF
  obtain ⟨v, hv, rv⟩ := hr x av hl
  obtain ⟨N, mN, X, _, hng, hno⟩ := hC.at_
  obtain ⟨nm, qq, bs, sn, sub, col, dd, k0, k1, k2, k3, k5, hCo⟩ := (X.keeps I1.base).obj
  have hn := (X.keeps I1.base).ns
  have fin : EPost C Q F s v { s1 with toks := s1.toks + 1 } := EPost.trans m1 _ _ (ep_tok I1 rv q _)
  obtain ⟨hh, g, dr, t, os⟩ := s1
  exact load_attr hCo hn hng (hno x hx) (object_no hx) hI hv (rep_not_builtin rv) fin

theorem setattr_ok {n m : Nat} {kvs : List (Str × AV)} {va vv : Value} {av : AV} {x : Str} {Q : Unit → Shared → Prop} (hC : ClsOk C) (hx : x ∈ codeAttrs) (I : Inv C σ F s) (h1 : σ[n]? = some (.inst m)) (h2 : σ[m]? = some (.attrs kvs)) (hk : kvs.length < 1000000)
    (ra : Rep C F s.heap (.loc n) va) (rv : Rep C F s.heap av vv) (hq : ∀ s', Inv C (σ.set m (.attrs ((x, av) :: kvs))) F s' → Mono [] F s.heap F s'.heap → Q () s') :
    wpAny (model prog w) A (setAttr va x vv) Q NoE s := by
  obtain ⟨a, hF, rfl⟩ := ra
  obtain ⟨d, o, mA, hd, ho, hdd, hm, hne, hI, hs, hr⟩ := inst_of I h1 h2 hF
  obtain ⟨N, mN, X, hns, hng, hno⟩ := hC.at_
  obtain ⟨nm, qq, bs, sn, sub, col, dd, k0, k1, k2, k3, k5, hCo⟩ := (X.keeps I.base).obj
  obtain ⟨_, _, _, _, _, _, _, _, _, _, _, _, hCo0⟩ := X.obj
  have hn := (X.keeps I.base).ns
  have haC : a ≠ C.cls := by rintro rfl; rw [I.fresh _ (List.mem_of_getElem? hF)] at hCo0; cases hCo0
  obtain ⟨_, _, _, o0, ho0, hc0, hd0, hdata0⟩ := I.objs _ _ _ h1 hF
  obtain rfl : o0 = o := by rw [ho] at ho0; cases ho0; rfl
  have hI' := I
  obtain ⟨hh, g, dr, t, os⟩ := s
  refine store_attr PySem.F.store_object hCo hn hns (hno x hx) (object_no hx) haC hI (fun h' tk' I' hk' hsame => ?_) (ns := kvs.map (·.1)) (fun y hy => ?_) (by rw [List.length_map]; exact sizeLine_big (by omega))
  · obtain ⟨o1, ho1, hc1, hda1, hsl1, hdi1⟩ := hsame o0 ho
    have hdi := hdi1 d hdd
    have keep : ∀ b o, b ≠ a → b ≠ d → hh.get? b = some o → h'.get? b = some o := fun b o' hb hb' e => hk' b o' hb (fun o₀ dx e₀ ed => by
      rw [ho] at e₀; cases e₀; rw [hdd] at ed; cases ed; exact hb') e
    have him : ImmK hh h' := fun b o' e im => by
      by_cases hb : b = a
      · subst hb; exact absurd im (ObjRep.notImm (hI'.objs _ _ _ h1 hF) e)
      · by_cases hb' : b = d
        · subst hb'; exact absurd im (ns_notImm hm.ns e)
        · exact keep b o' hb hb' e
    have hmA : h'.Ns1 d fun y => if y = x then some vv else mA y := by
      obtain ⟨o2, ho2, hc2, hn2, hdis⟩ := I'
      rw [ho1] at ho2; cases ho2
      rcases hdis with ⟨q, _⟩ | ⟨d2, hd2, _, hns2⟩
      · rw [hdi] at q; cases q
      · rw [hdi] at hd2; cases hd2; exact hns2
    have hmemA : a ∈ F := List.mem_of_getElem? hF
    have hmemD : d ∈ F := List.mem_of_getElem? hd
    have nba : ∀ b o', C.h0.get? b = some o' → b ≠ a ∧ b ≠ d := fun b o' e => ⟨(fun q => by rw [q, I.fresh a hmemA] at e; cases e), (fun q => by rw [q, I.fresh d hmemD] at e; cases e)⟩
    have idx : ∀ k b, F[k]? = some b → (b = a → k = n) ∧ (b = d → k = m) := fun k b e => by
      have hlt : k < F.length := by
        rcases Nat.lt_or_ge k F.length with q | q
        · exact q
        · rw [List.getElem?_eq_none q] at e; cases e
      exact ⟨fun q => (List.getElem?_inj hlt I.nodup).mp (by rw [e, hF, q]), fun q => (List.getElem?_inj hlt I.nodup).mp (by rw [e, hd, q])⟩
    have hmlt : m < σ.length := by
      rcases Nat.lt_or_ge m σ.length with q | q
      · exact q
      · rw [List.getElem?_eq_none q] at h2; cases h2
    have hnm : n ≠ m := by rintro rfl; rw [h1] at h2; cases h2
    refine hq _ ⟨fun b o' e => keep b o' (nba b o' e).1 (nba b o' e).2 (hI'.base b o' e), hI'.fresh, hI'.nodup, by simp [hI'.len], fun k ao b hkk hFk => ?_, hI'.gens, hI'.os⟩ ⟨⟨[], by simp, fun _ m => nomatch m⟩, fun b o' e hb _ => keep b o' (fun q => hb (q ▸ hmemA)) (fun q => hb (q ▸ hmemD)) e, fun b e => ?_, him⟩
    · by_cases ekm : k = m
      · subst ekm
        rw [hd] at hFk; cases hFk
        rw [List.getElem?_set_self hmlt] at hkk
        cases hkk
        refine ⟨_, hmA, fun y => ?_, fun y av' hy => ?_⟩
        · by_cases e : y = x
          · subst e; simp
          · have e' : (y == x) = false := beq_eq_false_iff_ne.mpr e
            rw [List.lookup_cons, e']; simp [e, hs y]
        · by_cases e : y = x
          · subst e
            rw [List.lookup_cons, beq_self_eq_true] at hy
            cases hy
            exact ⟨vv, by simp, rv.at him fun _ _ e => e⟩
          · have e' : (y == x) = false := beq_eq_false_iff_ne.mpr e
            rw [List.lookup_cons, e'] at hy
            obtain ⟨v', hv', rv'⟩ := hr y av' hy
            exact ⟨v', by simp [e, hv'], rv'.at him fun _ _ e => e⟩
      · rw [List.getElem?_set_ne (Ne.symm ekm)] at hkk
        by_cases ekn : k = n
        · subst ekn
          rw [hF] at hFk; cases hFk
          rw [h1] at hkk; cases hkk
          exact ⟨d, hd, hne, o1, ho1, hc1.trans hc0, hdi, fun c => by rw [hda1]; exact hdata0 c⟩
        · have R := hI'.objs k ao b hkk hFk
          obtain ⟨ob, hob⟩ := R.some
          have hne' := keep b ob (fun q => ekn ((idx k b hFk).1 q)) (fun q => ekm ((idx k b hFk).2 q)) hob
          exact R.at (hne'.trans hob.symm) him fun _ _ e => e
    · obtain ⟨ob, hob⟩ := Option.isSome_iff_exists.mp e
      by_cases hb : b = a
      · subst hb; exact isSome_of ho1
      · by_cases hb' : b = d
        · subst hb'; obtain ⟨o3, _, _, ho3, _⟩ := hmA; exact isSome_of ho3
        · exact isSome_of (keep b ob hb hb' hob)
  · have : (kvs.lookup y).isSome := by
      rw [hs y]
      cases e : mA y with
      | none => exact absurd e hy
      | some _ => rfl
    obtain ⟨z, hz⟩ := Option.isSome_iff_exists.mp this
    exact List.mem_map.mpr ⟨_, mem_of_lookup hz, rfl⟩

theorem ws_assign_attr {o e : Expr} {x : Str} {ap pos} {Q : AF → Rho → Store → Prop} (hC : ClsOk C) (hx : x ∈ codeAttrs) (he : notComp e = true)
    (h : WE (model prog w) C A env e ρ σ fun v σ1 => WE (model prog w) C A env o ρ σ1 fun a σ2 => ∃ n m kvs, a = .loc n ∧ σ2[n]? = some (.inst m) ∧ σ2[m]? = some (.attrs kvs) ∧ kvs.length < 1000000 ∧ Q .next ρ (σ2.set m (.attrs ((x, v) :: kvs)))) :
    WS (model prog w) C A env (.Assign [.Attribute o x ap] e pos) ρ σ Q := fun F s I L =>
  plainObj_wpAny_Assign_Attribute (we_then I L h fun vv s1 v σ1 F1 h1 rv I1 L1 m1 => we_then I1 L1 h1 fun va s2 a σ2 F2 ⟨n, m, kvs, ea, h2, h3, hl, q⟩ ra I2 L2 m2 => by
    subst ea
    exact setattr_ok hC hx I2 h2 h3 hl ra (rv.mono m2) fun s3 I3 m3 => ⟨.next, ρ, _, F2, q, rfl, I3, L2.mono m3, ((m1.trans m2).trans m3).up⟩) (swaps_no he)
end
end Mine

/-! W10 -/
namespace Mine

/-! ### closures of comprehensions -/
noncomputable def clos (cells : List (Str × Addr)) : List (Str × NameKind) → List (Str × Addr) → List (Str × Addr)
  | [], acc => acc
  | (n, k) :: r, acc => if k == .free then clos cells r ((n, (cells.lookup n).getD 0) :: acc) else clos cells r acc

theorem closureFor_is {env : Env} {scope : Scope} (h : ∀ x ∈ scope.names, x.2 = .free → (env.cells.lookup x.1).isSome) : closureFor scope env = pure (clos env.cells scope.names []) := by
  unfold closureFor
  have key : ∀ (names : List (Str × NameKind)) (acc : List (Str × Addr)) (f : Str × NameKind → List (Str × Addr) → Sem (ForInStep (List (Str × Addr)))),
      (∀ n k cs, f (n, k) cs = if k == .free then (do let a ← cellOf env n; pure (.yield ((n, a) :: cs))) else pure (.yield cs)) →
      (∀ x ∈ names, x.2 = .free → (env.cells.lookup x.1).isSome) → forIn names acc f = pure (clos env.cells names acc) := by
    intro names
    induction names with
    | nil => intro acc f _ _; rfl
    | cons x r ih =>
      intro acc f hf hx
      obtain ⟨n, k⟩ := x
      rw [List.forIn_cons, hf]
      unfold clos
      by_cases hk : (k == NameKind.free) = true
      · rw [if_pos hk, if_pos hk]
        obtain ⟨c, hc⟩ := Option.isSome_iff_exists.mp (hx (n, k) (List.mem_cons_self ..) (beq_iff_eq.mp hk))
        have hc' : env.cells.lookup n = some c := hc
        unfold cellOf
        rw [hc']
        exact ih _ f hf fun y hy => hx y (List.mem_cons_of_mem _ hy)
      · rw [if_neg hk, if_neg hk]
        exact ih _ f hf fun y hy => hx y (List.mem_cons_of_mem _ hy)
  show (forIn scope.names ([] : List (Str × Addr)) (fun x cs => match x with | (name, kind) => if (kind == NameKind.free) = true then (cellOf env name >>= fun a => pure (ForInStep.yield ((name, a) :: cs))) else pure (ForInStep.yield cs)) >>= fun cs => pure cs) = _
  rw [key scope.names [] _ (fun n k cs => rfl) h]; rfl

theorem clos_mem {cells : List (Str × Addr)} {x : Str} {c : Addr} : ∀ {names : List (Str × NameKind)} {acc : List (Str × Addr)}, (∀ y ∈ names, y.2 = .free → (cells.lookup y.1).isSome) →
    (x, c) ∈ clos cells names acc → (x, c) ∈ acc ∨ cells.lookup x = some c
  | [], _, _, h => .inl h
  | (n, k) :: r, acc, hn, h => by
    unfold clos at h
    by_cases hk : (k == NameKind.free) = true
    · rw [if_pos hk] at h
      rcases clos_mem (fun y hy => hn y (List.mem_cons_of_mem _ hy)) h with h | h
      · rcases List.mem_cons.mp h with e | h
        · cases e
          obtain ⟨c, hc⟩ := Option.isSome_iff_exists.mp (hn (x, k) (List.mem_cons_self ..) (beq_iff_eq.mp hk))
          right
          have hc' : cells.lookup x = some c := hc
          rw [hc']; rfl
        · exact .inl h
      · exact .inr h
    · rw [if_neg hk] at h
      exact clos_mem (fun y hy => hn y (List.mem_cons_of_mem _ hy)) h
theorem clos_has {cells : List (Str × Addr)} {x : Str} : ∀ {names : List (Str × NameKind)} {acc : List (Str × Addr)}, ((∃ c, (x, c) ∈ acc) ∨ (x, NameKind.free) ∈ names) → ∃ c, (x, c) ∈ clos cells names acc
  | [], acc, h => by rcases h with h | h; exact h; cases h
  | (n, k) :: r, acc, h => by
    unfold clos
    by_cases hk : (k == NameKind.free) = true
    · rw [if_pos hk]
      refine clos_has ?_
      rcases h with ⟨c, h⟩ | h
      · exact .inl ⟨c, .tail _ h⟩
      · rcases List.mem_cons.mp h with e | h
        · cases e; exact .inl ⟨_, .head _⟩
        · exact .inr h
    · rw [if_neg hk]
      refine clos_has ?_
      rcases h with h | h
      · exact .inl h
      · rcases List.mem_cons.mp h with e | h
        · cases e; simp at hk
        · exact .inr h
theorem lookup_of_mem {α : Type} : ∀ {l : List (Str × α)} {x : Str} {c : α}, (x, c) ∈ l → (l.lookup x).isSome
  | (k, v) :: r, x, c, h => by
    rw [List.lookup_cons]
    cases e : x == k with
    | true => rfl
    | false =>
      rcases List.mem_cons.mp h with q | h
      · cases q; simp at e
      · exact lookup_of_mem h

theorem lookup_relabel {env : Env} : ∀ {names : List (Str × NameKind)} {x : Str},
    (names.map fun (n, k) => if (k == NameKind.free && env.scope.kind == .function && env.kindOf n == some .cell) then (n, NameKind.cell) else (n, k)).lookup x =
      (names.lookup x).map fun k => if (k == NameKind.free && env.scope.kind == .function && env.kindOf x == some .cell) then NameKind.cell else k
  | [], _ => rfl
  | (n, k) :: r, x => by
    show List.lookup x ((if (k == NameKind.free && env.scope.kind == .function && env.kindOf n == some .cell) = true then (n, NameKind.cell) else (n, k)) :: _) = _
    cases hx : x == n with
    | true =>
      have := beq_iff_eq.mp hx
      subst this
      by_cases hc : (k == NameKind.free && env.scope.kind == .function && env.kindOf x == some .cell) = true
      · rw [if_pos hc, List.lookup_cons, hx, List.lookup_cons, hx, Option.map_some, if_pos hc]
      · rw [if_neg hc, List.lookup_cons, hx, List.lookup_cons, hx, Option.map_some, if_neg hc]
    | false =>
      by_cases hc : (k == NameKind.free && env.scope.kind == .function && env.kindOf n == some .cell) = true
      · rw [if_pos hc, List.lookup_cons, hx, List.lookup_cons, hx]; exact lookup_relabel
      · rw [if_neg hc, List.lookup_cons, hx, List.lookup_cons, hx]; exact lookup_relabel

/-- the names that a comprehension sees -/
noncomputable def crho (sc' : Scope) (ρ : Rho) : Rho := fun y => if sc'.names.lookup y = some .free then ρ y else none

/-- what a comprehension's scope must be -/
noncomputable def compOk (sc sc' : Scope) (x : Str) : Bool :=
  decide (sc'.kind = .function) && sc'.names.all (fun y => decide (y.2 ≠ .cell)) && sc'.names.all (fun y => decide (y.2 = .local → sc'.names.lookup y.1 = some .local)) &&
    sc'.names.all (fun y => decide (y.2 = .free → sc.names.lookup y.1 = some .cell)) && decide (sc'.names.lookup x = some .local) && decide (sc'.names.lookup ("__classdict__" : Str) ≠ some .free)

structure CompOk (sc sc' : Scope) (x : Str) : Prop where
  kind : sc'.kind = .function
  cell : ∀ y ∈ sc'.names, y.2 ≠ .cell
  loc : ∀ y ∈ sc'.names, y.2 = .local → sc'.names.lookup y.1 = some .local
  free : ∀ y ∈ sc'.names, y.2 = .free → sc.names.lookup y.1 = some .cell
  var : sc'.names.lookup x = some .local
  cd : sc'.names.lookup ("__classdict__" : Str) ≠ some .free
theorem compOk_of {sc sc' : Scope} {x : Str} (h : compOk sc sc' x = true) : CompOk sc sc' x := by
  simp only [compOk, Bool.and_eq_true, decide_eq_true_eq, List.all_eq_true] at h
  obtain ⟨⟨⟨⟨⟨h1, h2⟩, h3⟩, h4⟩, h5⟩, h6⟩ := h
  exact ⟨h1, h2, h3, h4, h5, h6⟩

section
variable {prog : Program} {w : World} {C : Cx} {A : Around} {env : Env} {ρ : Rho} {σ : Store} {F : List Addr} {s : Shared} {sc sc' : Scope} {x : Str}

noncomputable def cenvOf (sc' : Scope) (Cc : Addr) (env : Env) : Env := { newEnv sc' Cc env.globals (clos env.cells sc'.names []) env.qual none .none (some env) 0 with scope := relabel sc' env }

theorem envOk_comp (O : EnvOk sc env) (K : CompOk sc sc' x) (Cc : Addr) : EnvOk sc' (cenvOf sc' Cc env) := by
  have hfree : ∀ y ∈ sc'.names, y.2 = .free → (env.cells.lookup y.1).isSome := fun y hy hf => (O.cell y.1 (K.free y hy hf)).2
  have hk : ∀ y, (cenvOf sc' Cc env).kindOf y = (sc'.names.lookup y).map fun k => if (k == NameKind.free && env.scope.kind == .function && env.kindOf y == some .cell) then NameKind.cell else k := fun y => lookup_relabel
  refine ⟨K.kind, O.glob, O.blt, fun y hy => ?_, fun y hy => absurd rfl (K.cell _ (mem_of_lookup hy)), fun y hy => ?_, fun y hy => ?_, fun y c c' h1 h2 => ?_, K.cd⟩
  · rw [hk, hy]; rfl
  · have hc := O.cell y (K.free _ (mem_of_lookup hy) rfl)
    refine ⟨.inl ?_, ?_⟩
    · rw [hk, hy, Option.map_some, if_pos (by rw [O.kind, hc.1]; rfl)]
    · obtain ⟨c, hcm⟩ := clos_has (cells := env.cells) (acc := []) (.inr (mem_of_lookup hy))
      exact lookup_of_mem hcm
  · rw [hk, hy]; rfl
  · rcases clos_mem hfree h1 with q | q
    · cases q
    · rcases clos_mem hfree h2 with q' | q'
      · cases q'
      · rw [q] at q'; cases q'; rfl

theorem loc_comp {h h' : Heap} {Cc : Addr} (O : EnvOk sc env) (K : CompOk sc sc' x) (L : Loc C env ρ F h) (hk : ∀ b o, h.get? b = some o → h'.get? b = some o) (hn : h'.Ns Cc fun _ => none) (hc : h.get? Cc = none) (hF : Cc ∉ F) (hb : C.h0.get? Cc = none) :
    Loc C (cenvOf sc' Cc env) (crho sc' ρ) F h' := by
  have hfree : ∀ y ∈ sc'.names, y.2 = .free → (env.cells.lookup y.1).isSome := fun y hy hf => (O.cell y.1 (K.free y hy hf)).2
  have mem : ∀ y c, (y, c) ∈ (cenvOf sc' Cc env).cells → (y, c) ∈ env.cells := fun y c hyc => by
    rcases clos_mem hfree hyc with q | q
    · cases q
    · exact mem_of_lookup q
  have im : ImmK h h' := immK_keeps hk
  refine ⟨⟨_, hn, fun y av hy hr => ?_⟩, fun y c hyc => ?_, fun y y' c h1 h2 => L.inj y y' c (mem _ _ h1) (mem _ _ h2), fun y c hyc => ?_, fun a ha => ?_⟩
  · exfalso
    unfold crho at hr
    split at hr
    · rename_i q
      have hkk : (cenvOf sc' Cc env).kindOf y = (sc'.names.lookup y).map fun k => if (k == NameKind.free && env.scope.kind == .function && env.kindOf y == some .cell) then NameKind.cell else k := lookup_relabel
      have hc := O.cell y (K.free _ (mem_of_lookup q) rfl)
      rw [hkk, q, Option.map_some, if_pos (by rw [O.kind, hc.1]; rfl)] at hy
      cases hy
    · cases hr
  · obtain ⟨ov, hcell, hov⟩ := L.cell y c (mem y c hyc)
    refine ⟨ov, hcell.keeps hk, fun av _ hr => ?_⟩
    unfold crho at hr
    split at hr
    · rename_i q
      obtain ⟨v, e, r⟩ := hov av (.inl (O.cell y (K.free _ (mem_of_lookup q) rfl)).1) hr
      exact ⟨v, e, r.at im fun _ _ e => e⟩
    · cases hr
  · rintro rfl
    obtain ⟨ov, ⟨o, ho, _⟩, _⟩ := L.cell y c (mem y c hyc)
    rw [show h.get? c = none from hc] at ho; cases ho
  · rcases List.mem_cons.mp ha with rfl | ha
    · exact ⟨hF, hb⟩
    · obtain ⟨⟨y, c⟩, hyc, rfl⟩ := List.mem_map.mp ha
      exact L.out c (by simp only [own, List.mem_cons, List.mem_map]; exact .inr ⟨_, mem y c hyc, rfl⟩)

/-- a store to a local name: its frame alone changes -/
theorem store_local {av : AV} {v : Value} {Q : Unit → Shared → Prop} (O : EnvOk sc env) (hx : sc.names.lookup x = some .local) (I : Inv C σ F s) (L : Loc C env ρ F s.heap) (r : Rep C F s.heap av v)
    (h : ∀ s', Inv C σ F s' → Loc C env (upd ρ x av) F s'.heap → Heap.SameBut env.locals s.heap s'.heap → ImmK s.heap s'.heap → Q () s') :
    wpAny (model prog w) A (storeName env x v) Q NoE s := by
  obtain ⟨m, hn, hm⟩ := L.ns
  have hk' := O.loc x hx
  have hcls : (env.scope.kind == .class || (env.scope.kind == .module && env.locals != env.globals)) = false := by rw [O.kind]; rfl
  refine wpAny_storeName_local hk' hn (fun h' hn' hs => ?_) hcls
  have hi : ImmK s.heap h' := immK_sameBut hs fun o e => ns_notImm hn e
  have hout := L.out env.locals (by simp [own])
  refine h _ (I.ext hs.extBut hout.1 hout.2 hi) ⟨⟨_, hn', fun y av' hy hy' => ?_⟩, fun y c hc => ?_, L.inj, L.ne, L.out⟩ hs hi
  · unfold upd at hy'
    by_cases hyx : y = x
    · rw [if_pos hyx] at hy'; cases hy'
      exact ⟨v, by simp [hyx], r.at hi fun _ _ e => e⟩
    · rw [if_neg hyx] at hy'
      obtain ⟨v', hv', r'⟩ := hm y av' hy hy'
      exact ⟨v', by simp [hyx, hv'], r'.at hi fun _ _ e => e⟩
  · obtain ⟨ov, hcell, hov⟩ := L.cell y c hc
    refine ⟨ov, hcell.sameBut hs (L.ne y c hc), fun av' hy hy' => ?_⟩
    have hyx : y ≠ x := by
      rintro rfl
      rw [hk'] at hy
      rcases hy with q | q <;> cases q
    unfold upd at hy'
    rw [if_neg hyx] at hy'
    obtain ⟨v', e, r'⟩ := hov av' hy hy'
    exact ⟨v', e, r'.at hi fun _ _ e => e⟩

/-- a private object enters the store -/
theorem Inv.adopt {a : Addr} {ao : AO} (I : Inv C σ F s) (ha : a ∉ F) (hb : C.h0.get? a = none) (hr : ObjRep C (F ++ [a]) s.heap a ao) : Inv C (σ ++ [ao]) (F ++ [a]) s := by
  refine ⟨I.base, fun b m => ?_, ?_, by simp [I.len], fun n ao' b hn hF => ?_, I.gens, I.os⟩
  · rcases List.mem_append.mp m with m | m
    · exact I.fresh b m
    · rw [List.mem_singleton.mp m]; exact hb
  · rw [List.nodup_append]
    exact ⟨I.nodup, by simp, fun x hx y hy => by rw [List.mem_singleton.mp hy]; rintro rfl; exact ha hx⟩
  · rcases Nat.lt_trichotomy n F.length with q | q | q
    · rw [List.getElem?_append_left q] at hF
      rw [List.getElem?_append_left (I.len ▸ q)] at hn
      have R := I.objs n ao' b hn hF
      exact R.at rfl (ImmK.refl _) fun k c e => by
        have hlt : k < F.length := by
          rcases Nat.lt_or_ge k F.length with q | q
          · exact q
          · rw [List.getElem?_eq_none q] at e; cases e
        rw [List.getElem?_append_left hlt]; exact e
    · subst q
      rw [List.getElem?_append_right (Nat.le_refl _)] at hF
      rw [List.getElem?_append_right (by rw [I.len]; exact Nat.le_refl _)] at hn
      simp at hF; simp [I.len] at hn
      subst hF; subst hn; exact hr
    · rw [List.getElem?_eq_none (by simp; omega)] at hF; cases hF
theorem Mono.adopt {W F F' : List Addr} {h h' : Heap} {a : Addr} (m : Mono W F h F' h') (ha : h.get? a = none) : Mono W F h (F' ++ [a]) h' := by
  obtain ⟨N, e, hN⟩ := m.pre
  exact ⟨⟨N ++ [a], by rw [e, List.append_assoc], fun b hb => by
    rcases List.mem_append.mp hb with hb | hb
    · exact hN b hb
    · rw [List.mem_singleton.mp hb]; exact ha⟩, m.keep, m.dom, m.imm⟩
theorem Loc.adopt {a : Addr} {h : Heap} (L : Loc C env ρ F h) (ha : a ∉ own env) : Loc C env ρ (F ++ [a]) h := by
  have p : ∀ (n : Nat) (b : Addr), F[n]? = some b → (F ++ [a])[n]? = some b := fun n b e => by
    have hlt : n < F.length := by
      rcases Nat.lt_or_ge n F.length with q | q
      · exact q
      · rw [List.getElem?_eq_none q] at e; cases e
    rw [List.getElem?_append_left hlt]; exact e
  obtain ⟨m, hn, hm⟩ := L.ns
  refine ⟨⟨m, hn, fun y av hk hy => let ⟨v, e, r⟩ := hm y av hk hy; ⟨v, e, r.at (ImmK.refl _) p⟩⟩, fun y c hc => let ⟨ov, h1, h2⟩ := L.cell y c hc; ⟨ov, h1, fun av hk hy => let ⟨v, e, r⟩ := h2 av hk hy; ⟨v, e, r.at (ImmK.refl _) p⟩⟩, L.inj, L.ne, fun b hb => ⟨fun q => ?_, (L.out b hb).2⟩⟩
  rcases List.mem_append.mp q with q | q
  · exact (L.out b hb).1 q
  · rw [List.mem_singleton.mp q] at hb; exact ha hb

/-- what the turns of a comprehension over a list ask -/
noncomputable def CompVC (prog : Program) (w : World) (C : Cx) (A : Around) (sc' : Scope) (x : Str) (elt : Expr) (ρ : Rho) (v : AV) (σ1 : Store) (K : List D → Store → Prop) : Prop :=
  ∃ n ds, v = .loc n ∧ σ1[n]? = some (.list ds) ∧ ds.length ≤ 1000000 ∧ ∃ J : Nat → List D → Store → Prop, J 0 [] σ1 ∧ (∀ i acc σ, J i acc σ → σ[n]? = some (.list ds)) ∧
    (∀ i d acc σ, ds[i]? = some d → J i acc σ → ∀ env' : Env, EnvOk sc' env' → ∀ ρ', ρ' x = some (.d d) → (∀ y, sc'.names.lookup y = some .free → ρ' y = ρ y) → WE (model prog w) C A env' elt ρ' σ fun y σ' => ∃ dy, y = .d dy ∧ J (i + 1) (acc ++ [dy]) σ') ∧
    (∀ acc σ, J ds.length acc σ → acc.length = ds.length → K acc σ)

theorem comp_core {elt iter : Expr} {xp : Pos} {cpos pos : Pos} {use : Option (Value → Sem Unit)} {K : List D → Store → Prop} {Q : Value → Shared → Prop} (O : EnvOk sc env) (hh : A.handled = none) (hit : notSet iter = true) (Kc : CompOk sc sc' x)
    (I : Inv C σ F s) (L : Loc C env ρ F s.heap)
    (h : WE (model prog w) C A env iter ρ σ fun v σ1 => CompVC prog w C A sc' x elt ρ v σ1 K)
    (hend : ∀ s' σ2 F2 D acc Cc m, K acc σ2 → Inv C (σ2 ++ [.list acc]) (F2 ++ [D]) s' → Loc C env ρ (F2 ++ [D]) s'.heap → Mono [] F s.heap (F2 ++ [D]) s'.heap → F2.length = σ2.length → s'.heap.Ns Cc m → Cc ∉ F2 ++ [D] → Cc ∉ own env → C.h0.get? Cc = none → s.heap.get? Cc = none →
      compPost (model prog w) A NoE use Q (.ref D) Cc (.ok .next) s') :
    wpAny (model prog w) A (comprehension (.ListComp elt [⟨.Name x xp, iter, [], 0⟩] sc' cpos) sc' env pos (newList []) false (eval iter env) use) Q NoE s := by
  have hfree : ∀ y ∈ sc'.names, y.2 = .free → (env.cells.lookup y.1).isSome := fun y hy hf => (O.cell y.1 (Kc.free y hy hf)).2
  refine wpAny_comprehension_free rfl (fun y => by unfold foldedSetIterable; cases iter <;> first | rfl | cases hit) (closureFor_is hfree) Kc.kind Kc.loc (we_then I L h fun v s1 av σ1 F1 hv r I1 L1 m1 => ?_)
  obtain ⟨n, ds, rfl, hds, hlen, J, J0, Jst, Jstep, Jend⟩ := hv
  obtain ⟨l, hF, rfl⟩ := r
  obtain ⟨items, k, hl, rr, hsz⟩ := I1.isList hds hF
  refine wpAny_pyIter_list (items := items) ⟨_, hl, rfl, _, rfl⟩ ?_
  refine wpAny_newObj_type (hd := by size_fits) ?_
  refine wpAny_newFunctionEnv Kc.cell (by intro y hy; simp at hy) (fun h1 hns hsb => ?_) Kc.kind
  dsimp only at hns hsb ⊢
  -- the three private objects
  generalize hH1 : s1.heap.push { cls := .type "list_iterator", data := .fields #[.ref l, .int 0 0] } = H1 at hns hsb ⊢
  have hD : H1.objs.size = s1.heap.objs.size + 1 := by rw [← hH1, Heap.size_push]
  generalize hH2 : H1.push { cls := .type "list", dict := none, data := .seq ([] : List Value).toArray } = H2 at hns hsb ⊢
  have hC : H2.objs.size = s1.heap.objs.size + 2 := by rw [← hH2, Heap.size_push, hD]
  have qIC : s1.heap.objs.size ≠ H2.objs.size := by rw [hC]; exact Nat.ne_of_lt (Nat.lt_add_of_pos_right (by decide))
  have qID : s1.heap.objs.size ≠ H1.objs.size := by rw [hD]; exact Nat.ne_of_lt (Nat.lt_succ_self _)
  have qDC : H1.objs.size ≠ H2.objs.size := by rw [hC, hD]; exact Nat.ne_of_lt (Nat.lt_succ_self _)
  have old : ∀ b o, s1.heap.get? b = some o → h1.get? b = some o := fun b o e => by
    have hlt := Heap.lt_size e
    exact hsb.extBut b o (by rw [hC]; exact Nat.ne_of_lt (Nat.lt_of_lt_of_le hlt (Nat.le_add_right _ _))) (Heap.get?_push_of_some _ (hH2 ▸ Heap.get?_push_of_some _ (hH1 ▸ Heap.get?_push_of_some _ e)))
  have hit1 : h1.IsListIter s1.heap.objs.size l 0 := ⟨_, hsb.extBut _ _ qIC (Heap.get?_push_of_some _ (hH2 ▸ Heap.get?_push_of_some _ (hH1 ▸ Heap.get?_push_size _ rfl))), rfl, rfl⟩
  have hacc1 : IsL h1 H1.objs.size #[] 0 := hsb.extBut _ _ qDC (Heap.get?_push_of_some _ (hH2 ▸ Heap.get?_push_size _ rfl))
  have nI : s1.heap.get? s1.heap.objs.size = none := get_none_of_ge (Nat.le_refl _)
  have nD : s1.heap.get? H1.objs.size = none := get_none_of_ge (by omega)
  have nC : s1.heap.get? H2.objs.size = none := get_none_of_ge (by omega)
  have fI : s1.heap.objs.size ∉ F1 := I1.size_notin
  have notin : ∀ a, s1.heap.get? a = none → a ∉ F1 := fun a ha hm => by obtain ⟨o, ho⟩ := I1.lt hm; rw [ha] at ho; cases ho
  have notown : ∀ a, s1.heap.get? a = none → a ∉ own env := fun a ha hm => by obtain ⟨o, ho⟩ := L1.dom hm; rw [ha] at ho; cases ho
  have hCown : ∀ a, s1.heap.get? a = none → a ≠ H2.objs.size → a ∉ own (cenvOf sc' H2.objs.size env) := fun a ha hne hm => by
    rcases List.mem_cons.mp hm with e | hm
    · exact hne e
    · obtain ⟨⟨y, c⟩, hyc, rfl⟩ := List.mem_map.mp hm
      rcases clos_mem hfree hyc with q | q
      · cases q
      · exact notown c ha (by simp only [own, List.mem_cons, List.mem_map]; exact .inr ⟨_, mem_of_lookup q, rfl⟩)
  have ec : ({ newEnv sc' H2.objs.size env.globals (clos env.cells sc'.names []) env.qual none .none (some env) builtinsNs with scope := relabel sc' env } : Env) = cenvOf sc' H2.objs.size env := rfl
  have Oc : EnvOk sc' (cenvOf sc' H2.objs.size env) := envOk_comp O Kc _
  have loop : codeAny (model prog w) A (.compLoop (.ListComp elt [⟨.Name x xp, iter, [], 0⟩] sc' cpos) 0 (.ref s1.heap.objs.size) (.ref H1.objs.size) (cenvOf sc' H2.objs.size env))
      (compPost (model prog w) A NoE use Q (.ref H1.objs.size) H2.objs.size) { s1 with heap := h1, toks := s1.toks + ([] : List (Str × Value)).length } := by
    refine codeAny_compLoop_list (fun n2 s2 => ∃ i acc ρ2 σ2 F2 its kk, n2 = ds.length - i ∧ i ≤ ds.length ∧ acc.length = i ∧ J i acc σ2 ∧ Inv C σ2 F2 s2 ∧ Loc C (cenvOf sc' H2.objs.size env) ρ2 F2 s2.heap ∧ (∀ y, sc'.names.lookup y = some .free → ρ2 y = ρ y) ∧ Mono [] F1 s1.heap F2 s2.heap ∧
      s2.heap.IsListIter s1.heap.objs.size l i ∧ IsL s2.heap H1.objs.size its kk ∧ RepDs s2.heap acc its.toList ∧ s1.heap.objs.size ∉ F2 ∧ H1.objs.size ∉ F2 ∧ H2.objs.size ∉ F2)
      (fun n2 s2 h2 => ?_) ds.length ⟨0, [], crho sc' ρ, σ1, F1, #[], 0, rfl, Nat.zero_le _, rfl, J0, I1.keeps old, loc_comp O Kc L1 old hns nC (notin _ nC) (I1.base_none nC), fun y hy => by unfold crho; rw [if_pos hy], Mono.keeps old, hit1, hacc1, rfl, fI, notin _ nD, notin _ nC⟩
    obtain ⟨i, acc, ρ2, σ2, F2, its, kk, rfl, hle, hacl, hJ, I2, L2, hρ2, m2, it2, ac2, ra2, fI2, fD2, fC2⟩ := h2
    have hds2 := Jst i acc σ2 hJ
    have hF2 : F2[n]? = some l := m2.get hF
    obtain ⟨items2, k2, hl2, rr2, hsz2⟩ := I2.isList hds2 hF2
    have bI := I1.base_none nI
    have bD := I1.base_none nD
    have bC := I1.base_none nC
    have hIimm : ∀ o, s2.heap.get? s1.heap.objs.size = some o → ¬ ImmO o := fun o e => by
      obtain ⟨o', ho', hc', _⟩ := it2
      rw [e] at ho'; cases ho'
      rintro (⟨q, _⟩ | ⟨q, _⟩) <;> rw [hc'] at q <;> simp at q
    rcases Nat.lt_or_ge i ds.length with hlt | hge
    · have hd : ds[i]? = some ds[i] := List.getElem?_eq_getElem hlt
      obtain ⟨v, hv, rv⟩ := rr2.get hd
      refine wpAny_mono (wpAny_pyNext_list_item (items := items2) (x := v) (E := NoE) it2 ⟨_, hl2, rfl, _, rfl⟩ (by simpa using hv) fun h3 it3 hs3 => ?_) (fun _ _ z => z) fun _ _ z => z.elim
      have im3 : ImmK s2.heap h3 := immK_sameBut hs3 hIimm
      have I3 : Inv C σ2 F2 { s2 with heap := h3, toks := s2.toks } := I2.ext hs3.extBut fI2 bI im3
      have L3 := L2.ext hs3.extBut (hCown _ nI qIC) im3
      have m3 : Mono [] F1 s1.heap F2 h3 := m2.ext hs3.extBut nI
      have ac3 : IsL h3 H1.objs.size its kk := (hs3.2 _ qID.symm).trans ac2
      refine PySem.wpAny_assign_Name (wpAny_mono (store_local (s := { s2 with heap := h3, toks := s2.toks }) (av := .d ds[i]) Oc Kc.var I3 L3 (RepD.imm im3 rv) fun s4 I4 L4 hs4 im4 => ?_) (fun _ _ z => z) fun _ _ z => z.elim)
      have hs4' : Heap.SameBut H2.objs.size h3 s4.heap := hs4
      have m4 : Mono [] F1 s1.heap F2 s4.heap := m3.ext hs4'.extBut nC
      have ac4 : IsL s4.heap H1.objs.size its kk := (hs4'.2 _ qDC).trans ac3
      have it4 : s4.heap.IsListIter s1.heap.objs.size l (i + 1) := it3.extBut hs4'.extBut qIC
      have ra4 := (ra2.imm im3).imm im4
      refine wpAny_mono (Jstep i ds[i] acc σ2 hd hJ _ Oc _ (by simp [upd]) (fun y hy => by
        have : y ≠ x := by rintro rfl; rw [Kc.var] at hy; cases hy
        simp [upd, this, hρ2 y hy]) F2 s4 I4 L4) (fun y s5 ⟨av5, σ5, F5, ⟨dy, ey, hJ5⟩, r5, I5, m5⟩ => ?_) fun _ _ z => z.elim
      subst ey
      obtain ⟨oI4, hoI4, rI4⟩ := it4
      have ac5 : IsL s5.heap H1.objs.size its kk := m5.keep _ _ ac4 fD2 (by simp)
      have it5 : s5.heap.IsListIter s1.heap.objs.size l (i + 1) := ⟨oI4, m5.keep _ _ hoI4 fI2 (by simp), rI4⟩
      have ra5 := ra4.imm m5.imm
      have fD5 := m5.notIn ac4 fD2
      have fI5 := m5.notIn hoI4 fI2
      obtain ⟨mC, ⟨oC, esC, epC, hoC, _⟩, _⟩ := L4.ns
      have fC5 := m5.notIn hoC fC2
      have L5 := L4.mono m5
      refine wpAny_mono (call_meets PySem.F.slot_list_append ⟨_, ac5, rfl⟩ PySem.F.entry_list_append (PySem.F.args_list_append_2 _ _) (list_append H1.objs.size its kk y (by
        have := ra5.length; rw [Array.length_toList] at this; exact sizeLine_big (by omega))) (Q := fun _ s6 => ∃ m, m < ds.length - i ∧ _) (E := NoE) ⟨ac5, ?_⟩) (fun _ _ z => z) fun _ _ z => z.elim
      obtain ⟨kk', ac6⟩ := isL_append ac5 (·.push y)
      have hs6 : Heap.SameBut H1.objs.size s5.heap (s5.heap.update H1.objs.size (Obj.mapSeq (·.push y))) := Heap.SameBut.update ..
      have im6 : ImmK s5.heap (s5.heap.update H1.objs.size (Obj.mapSeq (·.push y))) := immK_sameBut hs6 fun o e => ObjRep.notImm (obj_list (C := C) (F := F5) ac5 ra5) e
      refine ⟨ds.length - (i + 1), by omega, i + 1, acc ++ [dy], _, σ5, F5, _, kk', rfl, hlt, by simp [hacl], hJ5, I5.ext hs6.extBut fD5 bD im6, L5.ext hs6.extBut (hCown _ nD qDC) im6, fun z hz => ?_, (m4.trans m5).ext hs6.extBut nD, it5.extBut hs6.extBut qID, ac6, ?_, fI5, fD5, fC5⟩
      · have : z ≠ x := by rintro rfl; rw [Kc.var] at hz; cases hz
        simp [upd, this, hρ2 z hz]
      · rw [Array.toList_push]
        exact (ra5.imm im6).append ⟨y, [], rfl, RepD.imm im6 r5, rfl⟩
    · obtain rfl : i = ds.length := Nat.le_antisymm hle hge
      refine wpAny_mono (wpAny_pyNext_list_end (items := items2) (E := NoE) hh it2 ⟨_, hl2, rfl, _, rfl⟩ (by rw [← hsz2]; simp) fun h3 hs3 => ?_) (fun _ _ z => z) fun _ _ z => z.elim
      have im3 : ImmK s2.heap h3 := immK_extBut hs3 hIimm
      have ac3 : IsL h3 H1.objs.size its kk := hs3 _ _ qID.symm ac2
      have L3 : Loc C (cenvOf sc' H2.objs.size env) ρ2 F2 h3 := L2.ext hs3 (hCown _ nI qIC) im3
      obtain ⟨mC, hnC, _⟩ := L3.ns
      have I3 : Inv C σ2 F2 { s2 with heap := h3, toks := s2.toks } := I2.ext hs3 fI2 bI im3
      have m3 : Mono [] F1 s1.heap F2 h3 := m2.ext hs3 nI
      have gone : ∀ a, s1.heap.get? a = none → s.heap.get? a = none := fun a ha => by
        cases q : s.heap.get? a with
        | none => rfl
        | some o => have := m1.dom a (isSome_of q); rw [ha] at this; cases this
      refine hend _ σ2 F2 H1.objs.size acc H2.objs.size mC (Jend acc σ2 hJ hacl) (I3.adopt fD2 bD (obj_list ac3 (ra2.imm im3))) ((L1.mono m3).adopt (notown _ nD)) ((m1.trans m3).adopt (gone _ nD)) I2.len hnC (fun q => ?_) (notown _ nC) bC (gone _ nC)
      rcases List.mem_append.mp q with q | q
      · exact fC2 q
      · exact qDC (List.mem_singleton.mp q).symm
  exact codeAny_compStart_list loop (wpAny_pyIter_listiter hit1 loop)
end
end Mine

/-! W11 -/
namespace Mine

section
variable {prog : Program} {w : World} {C : Cx} {A : Around} {env : Env} {ρ : Rho} {σ : Store} {F : List Addr} {s : Shared} {sc sc' : Scope} {x : Str}

theorem ns_notImm' {h : Heap} {a : Addr} {m : Str → Option Value} (hn : h.Ns a m) : ∀ o, h.get? a = some o → ¬ ImmO o := fun _ e => ns_notImm hn e

/-- the end of a comprehension whose value is asked -/
theorem comp_value {Q : AV → Store → Prop} {s' : Shared} {σ2 : Store} {F2 : List Addr} {D Cc : Addr} {acc : List Mine.D} {m : Str → Option Value} (hK : Q (.loc σ2.length) (σ2 ++ [.list acc]))
    (I : Inv C (σ2 ++ [.list acc]) (F2 ++ [D]) s') (mm : Mono [] F s.heap (F2 ++ [D]) s'.heap) (hl : F2.length = σ2.length) (hn : s'.heap.Ns Cc m) (hF : Cc ∉ F2 ++ [D]) (hb : C.h0.get? Cc = none) (hs0 : s.heap.get? Cc = none) :
    compPost (model prog w) A NoE none (EPost C Q F s) (.ref D) Cc (.ok .next) s' := by
  refine ⟨m, hn, fun h' hs => ?_⟩
  have im : ImmK s'.heap h' := immK_sameBut hs (ns_notImm' hn)
  exact ⟨.loc σ2.length, _, _, hK, ⟨D, by rw [← hl]; simp, rfl⟩, I.ext hs.extBut hF hb im (t := s'.toks), mm.ext hs.extBut hs0⟩

theorem we_comp {elt iter : Expr} {xp cpos : Pos} {Q : AV → Store → Prop} (O : EnvOk sc env) (hh : A.handled = none) (hit : notSet iter = true) (Kc : CompOk sc sc' x)
    (h : WE (model prog w) C A env iter ρ σ fun v σ1 => CompVC prog w C A sc' x elt ρ v σ1 fun acc σ2 => Q (.loc σ2.length) (σ2 ++ [.list acc])) :
    WE (model prog w) C A env (.ListComp elt [⟨.Name x xp, iter, [], 0⟩] sc' cpos) ρ σ Q := fun F s I L => by
  rw [eval_ListComp]
  exact comp_core O hh hit Kc I L h fun s' σ2 F2 D acc Cc m hK I2 L2 mm hl hn hF _ hb hs0 => comp_value hK I2 mm hl hn hF hb hs0

/-- the end of a comprehension whose value goes to a name -/
theorem comp_use {Q : AF → Rho → Store → Prop} {y : Str} {yp : Pos} {s' : Shared} {σ2 : Store} {F2 : List Addr} {D Cc : Addr} {acc : List Mine.D} {m : Str → Option Value} (O : EnvOk sc env) (hy : isOwn sc y = true)
    (hK : Q .next (upd ρ y (.loc σ2.length)) (σ2 ++ [.list acc]))
    (I : Inv C (σ2 ++ [.list acc]) (F2 ++ [D]) s') (L : Loc C env ρ (F2 ++ [D]) s'.heap) (mm : Mono [] F s.heap (F2 ++ [D]) s'.heap) (hl : F2.length = σ2.length) (hn : s'.heap.Ns Cc m) (hF : Cc ∉ F2 ++ [D]) (ho : Cc ∉ own env) (hb : C.h0.get? Cc = none) (hs0 : s.heap.get? Cc = none) :
    compPost (model prog w) A NoE (some (assign (.Name y yp) env)) (fun _ s' => SPost C env Q F s .next s') (.ref D) Cc (.ok .next) s' := by
  show wpAny _ A (assign (.Name y yp) env (.ref D)) _ _ s'
  refine PySem.wpAny_assign_Name (store_var (av := .loc σ2.length) O hy I L ⟨D, by rw [← hl]; simp, rfl⟩ fun s'' I2 L2 m2 hk => ?_)
  obtain ⟨oc, es, ep, hoc, hr⟩ := hn
  have hn2 : s''.heap.Ns Cc m := ⟨oc, es, ep, (hk Cc ho).trans hoc, hr⟩
  refine ⟨m, hn2, fun h' hs => ?_⟩
  have im : ImmK s''.heap h' := immK_sameBut hs (ns_notImm' hn2)
  exact ⟨.next, _, _, _, hK, rfl, I2.ext hs.extBut hF hb im (t := s''.toks), L2.ext hs.extBut ho im, (mm.up.trans m2).ext hs.extBut hs0⟩

theorem swaps_some (e : Expr) (y : Str) (yp : Pos) (n : Nat) (env : Env) : ∃ b, swapsWith e (some (.Name y yp)) n env = pure b := by
  cases e <;> exact ⟨_, rfl⟩

theorem assign_comp_of {elt : Expr} {gens : List Comprehension} {y : Str} {yp cpos pos : Pos} {Q : AF → Rho → Store → Prop} (O : EnvOk sc env) (hy : isOwn sc y = true) (ha : firstAsync gens = false)
    (I : Inv C σ F s) (L : Loc C env ρ F s.heap)
    (h1 : WE (model prog w) C A env (.ListComp elt gens sc' cpos) ρ σ fun v σ1 => Q .next (upd ρ y v) σ1)
    (h2 : wpAny (model prog w) A (comprehension (.ListComp elt gens sc' cpos) sc' env (firstIterPos gens cpos) (newList []) false (firstIter gens env) (some (assign (.Name y yp) env))) (fun _ s' => SPost C env Q F s .next s') NoE s) :
    wpAny (model prog w) A (exec (.Assign [.Name y yp] (.ListComp elt gens sc' cpos) pos) env) (SPost C env Q F s) NoE s := by
  obtain ⟨b, hsw⟩ := swaps_some (.ListComp elt gens sc' cpos) y yp pos.line env
  cases b with
  | false =>
    exact wpAny_Assign_Name (we_then I L h1 fun v s1 av σ1 F1 q r I1 L1 m1 => store_var O hy I1 L1 r fun s2 I2 L2 m2 _ => ⟨.next, _, _, _, q, rfl, I2, L2, m1.up.trans m2⟩) hsw
  | true =>
    rw [exec_Assign_Name_used _ _ _ _ hsw]
    refine wpAny_bind (wpAny_standAt (wpAny_bind ?_))
    show wpAny _ A (do let _ ← comprehension (.ListComp elt gens sc' cpos) sc' env (firstIterPos gens cpos) (newList []) (firstAsync gens) (firstIter gens env) (some (assign (.Name y yp) env))) _ _ s
    rw [ha]
    exact wpAny_bind (wpAny_mono h2 (fun _ s' q => wpAny_pure (wpAny_pure q)) fun _ _ x => x)

theorem ws_assign_comp {elt iter : Expr} {xp cpos yp pos : Pos} {y : Str} {Q : AF → Rho → Store → Prop} (O : EnvOk sc env) (hy : isOwn sc y = true) (hh : A.handled = none) (hit : notSet iter = true) (Kc : CompOk sc sc' x)
    (h : WE (model prog w) C A env iter ρ σ fun v σ1 => CompVC prog w C A sc' x elt ρ v σ1 fun acc σ2 => Q .next (upd ρ y (.loc σ2.length)) (σ2 ++ [.list acc])) :
    WS (model prog w) C A env (.Assign [.Name y yp] (.ListComp elt [⟨.Name x xp, iter, [], 0⟩] sc' cpos) pos) ρ σ Q := fun F s I L =>
  assign_comp_of O hy rfl I L (we_comp O hh hit Kc h) (comp_core O hh hit Kc I L h fun s' σ2 F2 D acc Cc m hK I2 L2 mm hl hn hF ho hb hs0 => comp_use O hy hK I2 L2 mm hl hn hF ho hb hs0)
end
end Mine

/-! W12 -/
namespace Mine

section
variable {prog : Program} {w : World} {A : Around} {s : Shared} {R : Result → Shared → Prop}
variable {elt t1 t2 iter1 iter2 : Expr} {scope : Scope} {pos : Pos} {it acc : Value} {env : Env}

theorem compTurn2_0 (elt t1 t2 iter1 iter2 : Expr) (scope : Scope) (pos : Pos) (it acc : Value) (env : Env) :
    compTurn (.ListComp elt [⟨t1, iter1, [], 0⟩, ⟨t2, iter2, [], 0⟩] scope pos) 0 it acc env = (standAt iter1.pos >>= fun _ => pyNext it >>= fun r => match r with
      | none => pure (.done .next)
      | some v => letOwnedTupleGo t1 it v >>= fun _ => assign t1 env v >>= fun _ =>
        eval iter2 env >>= fun x => standAt iter2.pos >>= fun _ => foldedSetIterable iter2 env x >>= fun x => holding [x] (pyIter x) >>= fun it2 =>
          runOwn (.compStart (.ListComp elt [⟨t1, iter1, [], 0⟩, ⟨t2, iter2, [], 0⟩] scope pos) 1 it2 acc env) env >>= fun _ =>
          again (.compLoop (.ListComp elt [⟨t1, iter1, [], 0⟩, ⟨t2, iter2, [], 0⟩] scope pos) 0 it acc env)) := by rfl
theorem compTurn2_1 (elt t1 t2 iter1 iter2 : Expr) (scope : Scope) (pos : Pos) (it acc : Value) (env : Env) :
    compTurn (.ListComp elt [⟨t1, iter1, [], 0⟩, ⟨t2, iter2, [], 0⟩] scope pos) 1 it acc env = (standAt iter2.pos >>= fun _ => pyNext it >>= fun r => match r with
      | none => pure (.done .next)
      | some v => letOwnedTupleGo t2 it v >>= fun _ => assign t2 env v >>= fun _ =>
        (eval elt env >>= fun x => call (.builtin "list.append") [acc, x] >>= fun _ => pure ()) >>= fun _ =>
          again (.compLoop (.ListComp elt [⟨t1, iter1, [], 0⟩, ⟨t2, iter2, [], 0⟩] scope pos) 1 it acc env)) := by rfl

theorem compStart2 (d : Nat) (hd : d = 0 ∨ d = 1)
    (h0 : codeAny (model prog w) A (.compLoop (.ListComp elt [⟨t1, iter1, [], 0⟩, ⟨t2, iter2, [], 0⟩] scope pos) d it acc env) R s)
    (h : wpAny (model prog w) A (pyIter it) (fun it' s' => codeAny (model prog w) A (.compLoop (.ListComp elt [⟨t1, iter1, [], 0⟩, ⟨t2, iter2, [], 0⟩] scope pos) d it' acc env) R s') NoE s) :
    codeAny (model prog w) A (.compStart (.ListComp elt [⟨t1, iter1, [], 0⟩, ⟨t2, iter2, [], 0⟩] scope pos) d it acc env) R s := by
  refine codeAny_of_tree ?_
  show wpAny _ _ ((compStart (.ListComp elt [⟨t1, iter1, [], 0⟩, ⟨t2, iter2, [], 0⟩] scope pos) d it acc env).onRaise (fun x => do noteFrame x env; standAt theWindowsPlace)) _ _ s
  refine wpAny_notedAt ?_
  have h' := wpAny_mono h (fun _ _ x => x) (E' := notedBy (model prog w) A env fun x s' => R (.error x) s') fun _ _ x => x.elim
  unfold compStart
  rcases hd with rfl | rfl
  · show wpAny _ _ (ask >>= _) _ _ s
    refine wpAny_bind (wpAny_askSetting (wpAny_ite ?_))
    split
    · first
        | exact wpAny_bind (wpAny_pure (wpAny_pure (And.intro rfl h0)))
        | exact wpAny_pure (And.intro rfl h0)
    · first
        | exact wpAny_bind (wpAny_rule (wpAny_bind (wpAny_standAt (wpAny_bind (wpAny_mono h' (fun it' s' h' => wpAny_pure (And.intro rfl h')) fun _ _ x => x)))))
        | (refine wpAny_bind (wpAny_rule ?_); show wpAny _ _ (standAt iter1.pos >>= _) _ _ s; exact wpAny_bind (wpAny_standAt (wpAny_bind (wpAny_mono h' (fun it' s' h' => wpAny_pure (And.intro rfl h')) fun _ _ x => x))))
  · show wpAny _ _ (ask >>= _) _ _ s
    refine wpAny_bind (wpAny_askSetting (wpAny_ite ?_))
    split
    · first
        | exact wpAny_bind (wpAny_pure (wpAny_pure (And.intro rfl h0)))
        | exact wpAny_pure (And.intro rfl h0)
    · first
        | exact wpAny_bind (wpAny_rule (wpAny_bind (wpAny_standAt (wpAny_bind (wpAny_mono h' (fun it' s' h' => wpAny_pure (And.intro rfl h')) fun _ _ x => x)))))
        | (refine wpAny_bind (wpAny_rule ?_); show wpAny _ _ (standAt iter2.pos >>= _) _ _ s; exact wpAny_bind (wpAny_standAt (wpAny_bind (wpAny_mono h' (fun it' s' h' => wpAny_pure (And.intro rfl h')) fun _ _ x => x))))

theorem compLoop2_1 (I : Nat → Shared → Prop)
    (turn : ∀ n s, I n s → wpAny (model prog w) A (pyNext it) (fun r s₁ => match r with
      | none => R (.ok .next) s₁
      | some v => wpAny (model prog w) A (assign t2 env v) (fun _ s₂ => wpAny (model prog w) A (eval elt env) (fun x s₃ =>
          wpAny (model prog w) A (call (.builtin "list.append") [acc, x]) (fun _ s₄ => ∃ m, m < n ∧ I m s₄) NoE s₃) NoE s₂) NoE s₁) NoE s)
    (n : Nat) (h : I n s) (ht : ∀ v, letOwnedTupleGo t2 it v = pure () := by intro _; rfl) :
    codeAny (model prog w) A (.compLoop (.ListComp elt [⟨t1, iter1, [], 0⟩, ⟨t2, iter2, [], 0⟩] scope pos) 1 it acc env) R s := by
  refine codeAny_loop rfl I (fun n s hI => ?_) n h
  show wpAny _ _ ((compTurn (.ListComp elt [⟨t1, iter1, [], 0⟩, ⟨t2, iter2, [], 0⟩] scope pos) 1 it acc env).onRaise (fun x => do noteFrame x env; theTreesLotGoes x)) _ _ s
  refine wpAny_noted ?_
  rw [compTurn2_1]
  refine wpAny_bind (wpAny_standAt (wpAny_bind (wpAny_mono (turn n s hI) (fun r s₁ h₁ => ?_) fun _ _ h' => h'.elim)))
  cases r with
  | none => exact wpAny_pure h₁
  | some v =>
    refine wpAny_bind (wpAny_of_eq (ht v) ?_)
    exact wpAny_bind (wpAny_mono h₁ (fun _ s₂ h₂ => wpAny_bind (wpAny_bind (wpAny_mono h₂ (fun x s₃ h₃ => wpAny_bind (wpAny_mono h₃
      (fun _ s₄ h₄ => wpAny_pure (wpAny_pure ⟨rfl, h₄⟩)) fun _ _ h' => h'.elim)) fun _ _ h' => h'.elim))) fun _ _ h' => h'.elim)

theorem compLoop2_0 (hit : notSet iter2 = true) (I : Nat → Shared → Prop)
    (turn : ∀ n s, I n s → wpAny (model prog w) A (pyNext it) (fun r s₁ => match r with
      | none => R (.ok .next) s₁
      | some v => wpAny (model prog w) A (assign t1 env v) (fun _ s₂ => wpAny (model prog w) A (eval iter2 env) (fun x s₃ => wpAny (model prog w) A (pyIter x) (fun it2 s₄ =>
          codeAny (model prog w) A (.compStart (.ListComp elt [⟨t1, iter1, [], 0⟩, ⟨t2, iter2, [], 0⟩] scope pos) 1 it2 acc env) (fun r s₅ => (∃ f, r = .ok f) ∧ ∃ m, m < n ∧ I m s₅) s₄) NoE s₃) NoE s₂) NoE s₁) NoE s)
    (n : Nat) (h : I n s) (ht : ∀ v, letOwnedTupleGo t1 it v = pure () := by intro _; rfl) :
    codeAny (model prog w) A (.compLoop (.ListComp elt [⟨t1, iter1, [], 0⟩, ⟨t2, iter2, [], 0⟩] scope pos) 0 it acc env) R s := by
  refine codeAny_loop rfl I (fun n s hI => ?_) n h
  show wpAny _ _ ((compTurn (.ListComp elt [⟨t1, iter1, [], 0⟩, ⟨t2, iter2, [], 0⟩] scope pos) 0 it acc env).onRaise (fun x => do noteFrame x env; theTreesLotGoes x)) _ _ s
  refine wpAny_noted ?_
  rw [compTurn2_0]
  refine wpAny_bind (wpAny_standAt (wpAny_bind (wpAny_mono (turn n s hI) (fun r s₁ h₁ => ?_) fun _ _ h' => h'.elim)))
  cases r with
  | none => exact wpAny_pure h₁
  | some v =>
    refine wpAny_bind (wpAny_of_eq (ht v) ?_)
    refine wpAny_bind (wpAny_mono h₁ (fun _ s₂ h₂ => wpAny_bind (wpAny_mono h₂ (fun x s₃ h₃ => wpAny_bind (wpAny_standAt (wpAny_bind ?_))) fun _ _ h' => h'.elim)) fun _ _ h' => h'.elim)
    have hf : foldedSetIterable iter2 env x = pure x := by unfold foldedSetIterable; cases iter2 <;> first | rfl | cases hit
    rw [hf]
    refine wpAny_pure (wpAny_bind (wpAny_holding (wpAny_mono h₃ (fun it2 s₄ h₄ => wpAny_bind (wpAny_runOwn (codeAny_mono h₄ fun r s₅ h₅ => ?_))) fun _ _ h' => h'.elim)))
    obtain ⟨⟨f, rfl⟩, h₆⟩ := h₅
    exact wpAny_pure ⟨rfl, h₆⟩
end

section
variable {prog : Program} {w : World} {C : Cx} {A : Around} {env : Env} {ρ : Rho} {σ : Store} {F : List Addr} {s : Shared} {sc sc' : Scope} {x1 x2 : Str}

noncomputable def CompVC2 (prog : Program) (w : World) (C : Cx) (A : Around) (sc' : Scope) (x1 x2 : Str) (iter2 elt : Expr) (ρ : Rho) (v : AV) (σ1 : Store) (K : List D → Store → Prop) : Prop :=
  ∃ n ds, v = .loc n ∧ σ1[n]? = some (.list ds) ∧ ds.length ≤ 1000000 ∧ ∃ J : Nat → List D → Store → Prop, J 0 [] σ1 ∧ (∀ i acc σ, J i acc σ → σ[n]? = some (.list ds)) ∧
    (∀ i d acc σ, ds[i]? = some d → J i acc σ → ∀ env' : Env, EnvOk sc' env' → ∀ ρ', ρ' x1 = some (.d d) → (∀ y, sc'.names.lookup y = some .free → ρ' y = ρ y) → WE (model prog w) C A env' iter2 ρ' σ fun v2 σ2 =>
      ∃ n2 ds2, v2 = .loc n2 ∧ σ2[n2]? = some (.list ds2) ∧ ∃ J2 : Nat → List D → Store → Prop, J2 0 acc σ2 ∧ (∀ j acc σ, J2 j acc σ → σ[n2]? = some (.list ds2) ∧ acc.length ≤ 1000000) ∧
        (∀ j d2 acc σ, ds2[j]? = some d2 → J2 j acc σ → ∀ ρ'', ρ'' x1 = some (.d d) → ρ'' x2 = some (.d d2) → (∀ y, sc'.names.lookup y = some .free → ρ'' y = ρ y) → WE (model prog w) C A env' elt ρ'' σ fun y σ' => ∃ dy, y = .d dy ∧ J2 (j + 1) (acc ++ [dy]) σ') ∧
        (∀ acc σ, J2 ds2.length acc σ → J (i + 1) acc σ)) ∧
    (∀ acc σ, J ds.length acc σ → K acc σ)

theorem comp_core2 {elt iter1 iter2 : Expr} {xp1 xp2 cpos pos : Pos} {use : Option (Value → Sem Unit)} {K : List D → Store → Prop} {Q : Value → Shared → Prop} (O : EnvOk sc env) (hh : A.handled = none) (hit : notSet iter1 = true) (hit2 : notSet iter2 = true) (Kc : CompOk sc sc' x1)
    (hx2 : sc'.names.lookup x2 = some .local) (hne : x1 ≠ x2)
    (I : Inv C σ F s) (L : Loc C env ρ F s.heap)
    (h : WE (model prog w) C A env iter1 ρ σ fun v σ1 => CompVC2 prog w C A sc' x1 x2 iter2 elt ρ v σ1 K)
    (hend : ∀ s' σ2 F2 D acc Cc m, K acc σ2 → Inv C (σ2 ++ [.list acc]) (F2 ++ [D]) s' → Loc C env ρ (F2 ++ [D]) s'.heap → Mono [] F s.heap (F2 ++ [D]) s'.heap → F2.length = σ2.length → s'.heap.Ns Cc m → Cc ∉ F2 ++ [D] → Cc ∉ own env → C.h0.get? Cc = none → s.heap.get? Cc = none →
      compPost (model prog w) A NoE use Q (.ref D) Cc (.ok .next) s') :
    wpAny (model prog w) A (comprehension (.ListComp elt [⟨.Name x1 xp1, iter1, [], 0⟩, ⟨.Name x2 xp2, iter2, [], 0⟩] sc' cpos) sc' env pos (newList []) false (eval iter1 env) use) Q NoE s := by
  have hfree : ∀ y ∈ sc'.names, y.2 = .free → (env.cells.lookup y.1).isSome := fun y hy hf => (O.cell y.1 (Kc.free y hy hf)).2
  refine wpAny_comprehension_free rfl (fun y => by unfold foldedSetIterable; cases iter1 <;> first | rfl | cases hit) (closureFor_is hfree) Kc.kind Kc.loc (we_then I L h fun v s1 av σ1 F1 hv r I1 L1 m1 => ?_)
  obtain ⟨n, ds, rfl, hds, hlen, J, J0, Jst, Jstep, Jend⟩ := hv
  obtain ⟨l, hF, rfl⟩ := r
  obtain ⟨items, k, hl, rr, hsz⟩ := I1.isList hds hF
  refine wpAny_pyIter_list (items := items) ⟨_, hl, rfl, _, rfl⟩ ?_
  refine wpAny_newObj_type (hd := by size_fits) ?_
  refine wpAny_newFunctionEnv Kc.cell (by intro y hy; simp at hy) (fun h1 hns hsb => ?_) Kc.kind
  dsimp only at hns hsb ⊢
  generalize hH1 : s1.heap.push { cls := .type "list_iterator", data := .fields #[.ref l, .int 0 0] } = H1 at hns hsb ⊢
  have hD : H1.objs.size = s1.heap.objs.size + 1 := by rw [← hH1, Heap.size_push]
  generalize hH2 : H1.push { cls := .type "list", dict := none, data := .seq ([] : List Value).toArray } = H2 at hns hsb ⊢
  have hC : H2.objs.size = s1.heap.objs.size + 2 := by rw [← hH2, Heap.size_push, hD]
  have qIC : s1.heap.objs.size ≠ H2.objs.size := by rw [hC]; exact Nat.ne_of_lt (Nat.lt_add_of_pos_right (by decide))
  have qID : s1.heap.objs.size ≠ H1.objs.size := by rw [hD]; exact Nat.ne_of_lt (Nat.lt_succ_self _)
  have qDC : H1.objs.size ≠ H2.objs.size := by rw [hC, hD]; exact Nat.ne_of_lt (Nat.lt_succ_self _)
  have old : ∀ b o, s1.heap.get? b = some o → h1.get? b = some o := fun b o e => by
    have hlt := Heap.lt_size e
    exact hsb.extBut b o (by rw [hC]; exact Nat.ne_of_lt (Nat.lt_of_lt_of_le hlt (Nat.le_add_right _ _))) (Heap.get?_push_of_some _ (hH2 ▸ Heap.get?_push_of_some _ (hH1 ▸ Heap.get?_push_of_some _ e)))
  have hit1 : h1.IsListIter s1.heap.objs.size l 0 := ⟨_, hsb.extBut _ _ qIC (Heap.get?_push_of_some _ (hH2 ▸ Heap.get?_push_of_some _ (hH1 ▸ Heap.get?_push_size _ rfl))), rfl, rfl⟩
  have hacc1 : IsL h1 H1.objs.size #[] 0 := hsb.extBut _ _ qDC (Heap.get?_push_of_some _ (hH2 ▸ Heap.get?_push_size _ rfl))
  have nI : s1.heap.get? s1.heap.objs.size = none := get_none_of_ge (Nat.le_refl _)
  have nD : s1.heap.get? H1.objs.size = none := get_none_of_ge (by rw [hD]; exact Nat.le_succ _)
  have nC : s1.heap.get? H2.objs.size = none := get_none_of_ge (by rw [hC]; exact Nat.le_add_right _ _)
  have fI : s1.heap.objs.size ∉ F1 := I1.size_notin
  have notin : ∀ a, s1.heap.get? a = none → a ∉ F1 := fun a ha hm => by obtain ⟨o, ho⟩ := I1.lt hm; rw [ha] at ho; cases ho
  have notown : ∀ a, s1.heap.get? a = none → a ∉ own env := fun a ha hm => by obtain ⟨o, ho⟩ := L1.dom hm; rw [ha] at ho; cases ho
  have hCown : ∀ a, s1.heap.get? a = none → a ≠ H2.objs.size → a ∉ own (cenvOf sc' H2.objs.size env) := fun a ha hne hm => by
    rcases List.mem_cons.mp hm with e | hm
    · exact hne e
    · obtain ⟨⟨y, c⟩, hyc, rfl⟩ := List.mem_map.mp hm
      rcases clos_mem hfree hyc with q | q
      · cases q
      · exact notown c ha (by simp only [own, List.mem_cons, List.mem_map]; exact .inr ⟨_, mem_of_lookup q, rfl⟩)
  have Oc : EnvOk sc' (cenvOf sc' H2.objs.size env) := envOk_comp O Kc _
  have bI := I1.base_none nI
  have bD := I1.base_none nD
  have bC := I1.base_none nC
  have gone : ∀ a, s1.heap.get? a = none → s.heap.get? a = none := fun a ha => by
    cases q : s.heap.get? a with
    | none => rfl
    | some o => have := m1.dom a (isSome_of q); rw [ha] at this; cases this
  have loop : codeAny (model prog w) A (.compLoop (.ListComp elt [⟨.Name x1 xp1, iter1, [], 0⟩, ⟨.Name x2 xp2, iter2, [], 0⟩] sc' cpos) 0 (.ref s1.heap.objs.size) (.ref H1.objs.size) (cenvOf sc' H2.objs.size env))
      (compPost (model prog w) A NoE use Q (.ref H1.objs.size) H2.objs.size) { s1 with heap := h1, toks := s1.toks + ([] : List (Str × Value)).length } := by
    refine compLoop2_0 hit2 (fun n2 s2 => ∃ i acc ρ2 σ2 F2 its kk, n2 = ds.length - i ∧ i ≤ ds.length ∧ J i acc σ2 ∧ Inv C σ2 F2 s2 ∧ Loc C (cenvOf sc' H2.objs.size env) ρ2 F2 s2.heap ∧ (∀ y, sc'.names.lookup y = some .free → ρ2 y = ρ y) ∧ Mono [] F1 s1.heap F2 s2.heap ∧
      s2.heap.IsListIter s1.heap.objs.size l i ∧ IsL s2.heap H1.objs.size its kk ∧ RepDs s2.heap acc its.toList ∧ s1.heap.objs.size ∉ F2 ∧ H1.objs.size ∉ F2 ∧ H2.objs.size ∉ F2)
      (fun n2 s2 h2 => ?_) ds.length ⟨0, [], crho sc' ρ, σ1, F1, #[], 0, rfl, Nat.zero_le _, J0, I1.keeps old, loc_comp O Kc L1 old hns nC (notin _ nC) (I1.base_none nC), fun y hy => by unfold crho; rw [if_pos hy], Mono.keeps old, hit1, hacc1, rfl, fI, notin _ nD, notin _ nC⟩
    obtain ⟨i, acc, ρ2, σ2, F2, its, kk, rfl, hle, hJ, I2, L2, hρ2, m2, it2, ac2, ra2, fI2, fD2, fC2⟩ := h2
    have hds2 := Jst i acc σ2 hJ
    have hF2 : F2[n]? = some l := m2.get hF
    obtain ⟨items2, k2, hl2, rr2, hsz2⟩ := I2.isList hds2 hF2
    have hIimm : ∀ o, s2.heap.get? s1.heap.objs.size = some o → ¬ ImmO o := fun o e => by
      obtain ⟨o', ho', hc', _⟩ := it2
      rw [e] at ho'; cases ho'
      rintro (⟨q, _⟩ | ⟨q, _⟩) <;> rw [hc'] at q <;> simp at q
    rcases Nat.lt_or_ge i ds.length with hlt | hge
    · have hd : ds[i]? = some ds[i] := List.getElem?_eq_getElem hlt
      obtain ⟨v, hv, rv⟩ := rr2.get hd
      refine wpAny_mono (wpAny_pyNext_list_item (items := items2) (x := v) (E := NoE) it2 ⟨_, hl2, rfl, _, rfl⟩ (by simpa using hv) fun h3 it3 hs3 => ?_) (fun _ _ z => z) fun _ _ z => z
      have im3 : ImmK s2.heap h3 := immK_sameBut hs3 hIimm
      have I3 : Inv C σ2 F2 { s2 with heap := h3, toks := s2.toks } := I2.ext hs3.extBut fI2 bI im3
      have L3 := L2.ext hs3.extBut (hCown _ nI qIC) im3
      have m3 : Mono [] F1 s1.heap F2 h3 := m2.ext hs3.extBut nI
      have ac3 : IsL h3 H1.objs.size its kk := (hs3.2 _ qID.symm).trans ac2
      refine PySem.wpAny_assign_Name (store_local (s := { s2 with heap := h3, toks := s2.toks }) (av := .d ds[i]) Oc Kc.var I3 L3 (RepD.imm im3 rv) fun s4 I4 L4 hs4 im4 => ?_)
      have hs4' : Heap.SameBut H2.objs.size h3 s4.heap := hs4
      have m4 : Mono [] F1 s1.heap F2 s4.heap := m3.ext hs4'.extBut nC
      have ac4 : IsL s4.heap H1.objs.size its kk := (hs4'.2 _ qDC).trans ac3
      have it4 : s4.heap.IsListIter s1.heap.objs.size l (i + 1) := it3.extBut hs4'.extBut qIC
      have ra4 := (ra2.imm im3).imm im4
      have hρ4 : ∀ y, sc'.names.lookup y = some .free → upd ρ2 x1 (.d ds[i]) y = ρ y := fun y hy => by
        have : y ≠ x1 := by rintro rfl; rw [Kc.var] at hy; cases hy
        simp [upd, this, hρ2 y hy]
      refine we_then I4 L4 (Jstep i ds[i] acc σ2 hd hJ _ Oc _ (by simp [upd]) hρ4) fun v2 s5 av5 σ5 F5 hv5 r5 I5 L5 m5 => ?_
      obtain ⟨n2, ds2, rfl, hds5, J2, J20, J2st, J2step, J2end⟩ := hv5
      obtain ⟨l2, hF5, rfl⟩ := r5
      obtain ⟨items5, k5, hl5, rr5, hsz5⟩ := I5.isList hds5 hF5
      obtain ⟨oI4, hoI4, rI4⟩ := it4
      have ac5 : IsL s5.heap H1.objs.size its kk := m5.keep _ _ ac4 fD2 (by simp)
      have it5 : s5.heap.IsListIter s1.heap.objs.size l (i + 1) := ⟨oI4, m5.keep _ _ hoI4 fI2 (by simp), rI4⟩
      have ra5 := ra4.imm m5.imm
      have fD5 := m5.notIn ac4 fD2
      have fI5 := m5.notIn hoI4 fI2
      obtain ⟨mC, ⟨oC, esC, epC, hoC, _⟩, _⟩ := L4.ns
      have fC5 := m5.notIn hoC fC2
      refine wpAny_pyIter_list (items := items5) ⟨_, hl5, rfl, _, rfl⟩ ?_
      have kp := push_keeps s5.heap { cls := .type "list_iterator", data := .fields #[.ref l2, .int 0 0] }
      have nJ : s5.heap.get? s5.heap.objs.size = none := get_none_of_ge (Nat.le_refl _)
      have fJ : s5.heap.objs.size ∉ F5 := I5.size_notin
      have bJ := I5.base_none nJ
      have nJ1 : s1.heap.get? s5.heap.objs.size = none := by
        cases q : s1.heap.get? s5.heap.objs.size with
        | none => rfl
        | some o => have := (m4.trans m5).dom _ (isSome_of q); rw [nJ] at this; cases this
      have neq : ∀ a o, s5.heap.get? a = some o → a ≠ s5.heap.objs.size := fun a o e => Nat.ne_of_lt (Heap.lt_size e)
      have qJD := neq _ _ ac5
      have qJI := neq _ _ it5.choose_spec.1
      have qJC : H2.objs.size ≠ s5.heap.objs.size := by
        obtain ⟨_, ⟨o', _, _, ho', _⟩, _⟩ := L5.ns
        exact neq _ _ ho'
      have hJown : s5.heap.objs.size ∉ own (cenvOf sc' H2.objs.size env) := fun hm => by obtain ⟨o, ho⟩ := L5.dom hm; rw [nJ] at ho; cases ho
      have hit5 : (s5.heap.push { cls := .type "list_iterator", data := .fields #[.ref l2, .int 0 0] }).IsListIter s5.heap.objs.size l2 0 := ⟨_, Heap.get?_push_size _ rfl, rfl, rfl⟩
      have inner : codeAny (model prog w) A (.compLoop (.ListComp elt [⟨.Name x1 xp1, iter1, [], 0⟩, ⟨.Name x2 xp2, iter2, [], 0⟩] sc' cpos) 1 (.ref s5.heap.objs.size) (.ref H1.objs.size) (cenvOf sc' H2.objs.size env))
          (fun r s6 => (∃ f, r = .ok f) ∧ ∃ m, m < ds.length - i ∧ ∃ i acc ρ2 σ2 F2 its kk, m = ds.length - i ∧ i ≤ ds.length ∧ J i acc σ2 ∧ Inv C σ2 F2 s6 ∧ Loc C (cenvOf sc' H2.objs.size env) ρ2 F2 s6.heap ∧ (∀ y, sc'.names.lookup y = some .free → ρ2 y = ρ y) ∧ Mono [] F1 s1.heap F2 s6.heap ∧
            s6.heap.IsListIter s1.heap.objs.size l i ∧ IsL s6.heap H1.objs.size its kk ∧ RepDs s6.heap acc its.toList ∧ s1.heap.objs.size ∉ F2 ∧ H1.objs.size ∉ F2 ∧ H2.objs.size ∉ F2)
          { s5 with heap := s5.heap.push { cls := .type "list_iterator", data := .fields #[.ref l2, .int 0 0] } } := by
        refine compLoop2_1 (fun n6 s6 => ∃ j acc ρ6 σ6 F6 its kk, n6 = ds2.length - j ∧ j ≤ ds2.length ∧ J2 j acc σ6 ∧ Inv C σ6 F6 s6 ∧ Loc C (cenvOf sc' H2.objs.size env) ρ6 F6 s6.heap ∧ ρ6 x1 = some (.d ds[i]) ∧ (∀ y, sc'.names.lookup y = some .free → ρ6 y = ρ y) ∧ Mono [] F1 s1.heap F6 s6.heap ∧ F6[n2]? = some l2 ∧
          s6.heap.IsListIter s5.heap.objs.size l2 j ∧ s6.heap.IsListIter s1.heap.objs.size l (i + 1) ∧ IsL s6.heap H1.objs.size its kk ∧ RepDs s6.heap acc its.toList ∧ s5.heap.objs.size ∉ F6 ∧ s1.heap.objs.size ∉ F6 ∧ H1.objs.size ∉ F6 ∧ H2.objs.size ∉ F6)
          (fun n6 s6 h6 => ?_) ds2.length ⟨0, acc, upd ρ2 x1 (.d ds[i]), σ5, F5, its, kk, rfl, Nat.zero_le _, J20, I5.keeps kp (t := s5.toks), L5.mono (Mono.keeps kp), by simp [upd], hρ4, (m4.trans m5).trans (Mono.keeps kp), hF5, hit5, (by obtain ⟨o, ho, r⟩ := it5; exact ⟨o, kp _ _ ho, r⟩), kp _ _ ac5, ra5.imm (immK_keeps kp), fJ, fI5, fD5, fC5⟩
        obtain ⟨j, acc6, ρ6, σ6, F6, its6, kk6, rfl, hle6, hJ6, I6, L6, hx16, hρ6, m6, hF6, jt6, it6, ac6, ra6, fJ6, fI6, fD6, fC6⟩ := h6
        obtain ⟨hds6, hal6⟩ := J2st j acc6 σ6 hJ6
        obtain ⟨items6, k6, hl6, rr6, hsz6⟩ := I6.isList hds6 hF6
        have hJimm : ∀ o, s6.heap.get? s5.heap.objs.size = some o → ¬ ImmO o := fun o e => by
          obtain ⟨o', ho', hc', _⟩ := jt6
          rw [e] at ho'; cases ho'
          rintro (⟨q, _⟩ | ⟨q, _⟩) <;> rw [hc'] at q <;> simp at q
        rcases Nat.lt_or_ge j ds2.length with hlt6 | hge6
        · have hd6 : ds2[j]? = some ds2[j] := List.getElem?_eq_getElem hlt6
          obtain ⟨v6, hv6, rv6⟩ := rr6.get hd6
          refine wpAny_mono (wpAny_pyNext_list_item (items := items6) (x := v6) (E := NoE) jt6 ⟨_, hl6, rfl, _, rfl⟩ (by simpa using hv6) fun h7 jt7 hs7 => ?_) (fun _ _ z => z) fun _ _ z => z
          have im7 : ImmK s6.heap h7 := immK_sameBut hs7 hJimm
          have I7 : Inv C σ6 F6 { s6 with heap := h7, toks := s6.toks } := I6.ext hs7.extBut fJ6 bJ im7
          have L7 := L6.ext hs7.extBut hJown im7
          have m7 : Mono [] F1 s1.heap F6 h7 := m6.ext hs7.extBut nJ1
          have ac7 : IsL h7 H1.objs.size its6 kk6 := (hs7.2 _ qJD).trans ac6
          have it7 : h7.IsListIter s1.heap.objs.size l (i + 1) := it6.extBut hs7.extBut qJI
          refine PySem.wpAny_assign_Name (store_local (s := { s6 with heap := h7, toks := s6.toks }) (av := .d ds2[j]) Oc hx2 I7 L7 (RepD.imm im7 rv6) fun s8 I8 L8 hs8 im8 => ?_)
          have hs8' : Heap.SameBut H2.objs.size h7 s8.heap := hs8
          have m8 : Mono [] F1 s1.heap F6 s8.heap := m7.ext hs8'.extBut nC
          have ac8 : IsL s8.heap H1.objs.size its6 kk6 := (hs8'.2 _ qDC).trans ac7
          have it8 : s8.heap.IsListIter s1.heap.objs.size l (i + 1) := it7.extBut hs8'.extBut qIC
          have jt8 : s8.heap.IsListIter s5.heap.objs.size l2 (j + 1) := jt7.extBut hs8'.extBut qJC.symm
          have ra8 := (ra6.imm im7).imm im8
          have hρ8 : ∀ y, sc'.names.lookup y = some .free → upd ρ6 x2 (.d ds2[j]) y = ρ y := fun y hy => by
            have : y ≠ x2 := by rintro rfl; rw [hx2] at hy; cases hy
            simp [upd, this, hρ6 y hy]
          have hx8 : upd ρ6 x2 (.d ds2[j]) x1 = some (.d ds[i]) := by simp [upd, hne, hx16]
          refine we_then I8 L8 (J2step j ds2[j] acc6 σ6 hd6 hJ6 _ hx8 (by simp [upd]) hρ8) fun y9 s9 av9 σ9 F9 hv9 r9 I9 L9 m9 => ?_
          obtain ⟨dy, rfl, hJ9⟩ := hv9
          obtain ⟨oI8, hoI8, rI8⟩ := it8
          obtain ⟨oJ8, hoJ8, rJ8⟩ := jt8
          have ac9 : IsL s9.heap H1.objs.size its6 kk6 := m9.keep _ _ ac8 fD6 (by simp)
          have it9 : s9.heap.IsListIter s1.heap.objs.size l (i + 1) := ⟨oI8, m9.keep _ _ hoI8 fI6 (by simp), rI8⟩
          have jt9 : s9.heap.IsListIter s5.heap.objs.size l2 (j + 1) := ⟨oJ8, m9.keep _ _ hoJ8 fJ6 (by simp), rJ8⟩
          have ra9 := ra8.imm m9.imm
          have fD9 := m9.notIn ac8 fD6
          have fI9 := m9.notIn hoI8 fI6
          have fJ9 := m9.notIn hoJ8 fJ6
          obtain ⟨mC8, ⟨oC8, esC8, epC8, hoC8, _⟩, _⟩ := L8.ns
          have fC9 := m9.notIn hoC8 fC6
          refine wpAny_mono (call_meets PySem.F.slot_list_append ⟨_, ac9, rfl⟩ PySem.F.entry_list_append (PySem.F.args_list_append_2 _ _) (list_append H1.objs.size its6 kk6 y9 (by
            have := ra9.length; rw [Array.length_toList] at this; exact sizeLine_big (by omega))) (Q := fun _ s6 => ∃ m, m < ds2.length - j ∧ _) (E := NoE) ⟨ac9, ?_⟩) (fun _ _ z => z) fun _ _ z => z
          obtain ⟨kk', ac10⟩ := isL_append ac9 (·.push y9)
          have hs10 : Heap.SameBut H1.objs.size s9.heap (s9.heap.update H1.objs.size (Obj.mapSeq (·.push y9))) := Heap.SameBut.update ..
          have im10 : ImmK s9.heap (s9.heap.update H1.objs.size (Obj.mapSeq (·.push y9))) := immK_sameBut hs10 fun o e => ObjRep.notImm (obj_list (C := C) (F := F9) ac9 ra9) e
          refine ⟨ds2.length - (j + 1), by omega, j + 1, acc6 ++ [dy], _, σ9, F9, _, kk', rfl, hlt6, hJ9, I9.ext hs10.extBut fD9 bD im10, L9.ext hs10.extBut (hCown _ nD qDC) im10, hx8, hρ8, (m8.trans m9).ext hs10.extBut nD, m9.get hF6, jt9.extBut hs10.extBut qJD.symm, it9.extBut hs10.extBut qID, ac10, ?_, fJ9, fI9, fD9, fC9⟩
          rw [Array.toList_push]
          exact (ra9.imm im10).append ⟨y9, [], rfl, RepD.imm im10 r9, rfl⟩
        · obtain rfl : j = ds2.length := Nat.le_antisymm hle6 hge6
          refine wpAny_mono (wpAny_pyNext_list_end (items := items6) (E := NoE) hh jt6 ⟨_, hl6, rfl, _, rfl⟩ (by rw [← hsz6]; simp) fun h7 hs7 => ?_) (fun _ _ z => z) fun _ _ z => z
          have im7 : ImmK s6.heap h7 := immK_extBut hs7 hJimm
          exact ⟨⟨_, rfl⟩, ds.length - (i + 1), by omega, i + 1, acc6, ρ6, σ6, F6, its6, kk6, rfl, hlt, J2end acc6 σ6 hJ6, I6.ext hs7 fJ6 bJ im7 (t := s6.toks), L6.ext hs7 hJown im7, hρ6, m6.ext hs7 nJ1, it6.extBut hs7 qJI, hs7 _ _ qJD ac6, ra6.imm im7, fI6, fD6, fC6⟩
      exact compStart2 1 (.inr rfl) inner (wpAny_pyIter_listiter hit5 inner)
    · obtain rfl : i = ds.length := Nat.le_antisymm hle hge
      refine wpAny_mono (wpAny_pyNext_list_end (items := items2) (E := NoE) hh it2 ⟨_, hl2, rfl, _, rfl⟩ (by rw [← hsz2]; simp) fun h3 hs3 => ?_) (fun _ _ z => z) fun _ _ z => z
      have im3 : ImmK s2.heap h3 := immK_extBut hs3 hIimm
      have ac3 : IsL h3 H1.objs.size its kk := hs3 _ _ qID.symm ac2
      have L3 : Loc C (cenvOf sc' H2.objs.size env) ρ2 F2 h3 := L2.ext hs3 (hCown _ nI qIC) im3
      obtain ⟨mC, hnC, _⟩ := L3.ns
      have I3 : Inv C σ2 F2 { s2 with heap := h3, toks := s2.toks } := I2.ext hs3 fI2 bI im3
      have m3 : Mono [] F1 s1.heap F2 h3 := m2.ext hs3 nI
      refine hend _ σ2 F2 H1.objs.size acc H2.objs.size mC (Jend acc σ2 hJ) (I3.adopt fD2 bD (obj_list ac3 (ra2.imm im3))) ((L1.mono m3).adopt (notown _ nD)) ((m1.trans m3).adopt (gone _ nD)) I2.len hnC (fun q => ?_) (notown _ nC) bC (gone _ nC)
      rcases List.mem_append.mp q with q | q
      · exact fC2 q
      · exact qDC (List.mem_singleton.mp q).symm
  exact compStart2 0 (.inl rfl) loop (wpAny_pyIter_listiter hit1 loop)

theorem we_comp2 {elt iter1 iter2 : Expr} {xp1 xp2 cpos : Pos} {Q : AV → Store → Prop} (O : EnvOk sc env) (hh : A.handled = none) (hit : notSet iter1 = true) (hit2 : notSet iter2 = true) (Kc : CompOk sc sc' x1)
    (hx2 : sc'.names.lookup x2 = some .local) (hne : x1 ≠ x2)
    (h : WE (model prog w) C A env iter1 ρ σ fun v σ1 => CompVC2 prog w C A sc' x1 x2 iter2 elt ρ v σ1 fun acc σ2 => Q (.loc σ2.length) (σ2 ++ [.list acc])) :
    WE (model prog w) C A env (.ListComp elt [⟨.Name x1 xp1, iter1, [], 0⟩, ⟨.Name x2 xp2, iter2, [], 0⟩] sc' cpos) ρ σ Q := fun F s I L => by
  rw [eval_ListComp]
  exact comp_core2 O hh hit hit2 Kc hx2 hne I L h fun s' σ2 F2 D acc Cc m hK I2 L2 mm hl hn hF _ hb hs0 => comp_value hK I2 mm hl hn hF hb hs0

theorem ws_assign_comp2 {elt iter1 iter2 : Expr} {xp1 xp2 cpos yp pos : Pos} {y : Str} {Q : AF → Rho → Store → Prop} (O : EnvOk sc env) (hy : isOwn sc y = true) (hh : A.handled = none) (hit : notSet iter1 = true) (hit2 : notSet iter2 = true) (Kc : CompOk sc sc' x1)
    (hx2 : sc'.names.lookup x2 = some .local) (hne : x1 ≠ x2)
    (h : WE (model prog w) C A env iter1 ρ σ fun v σ1 => CompVC2 prog w C A sc' x1 x2 iter2 elt ρ v σ1 fun acc σ2 => Q .next (upd ρ y (.loc σ2.length)) (σ2 ++ [.list acc])) :
    WS (model prog w) C A env (.Assign [.Name y yp] (.ListComp elt [⟨.Name x1 xp1, iter1, [], 0⟩, ⟨.Name x2 xp2, iter2, [], 0⟩] sc' cpos) pos) ρ σ Q := fun F s I L =>
  assign_comp_of O hy rfl I L (we_comp2 O hh hit hit2 Kc hx2 hne h) (comp_core2 O hh hit hit2 Kc hx2 hne I L h fun s' σ2 F2 D acc Cc m hK I2 L2 mm hl hn hF ho hb hs0 => comp_use O hy hK I2 L2 mm hl hn hF ho hb hs0)
end
end Mine

/-! W13 -/
namespace Mine

noncomputable def bindRho : List Str → List AV → Rho → Rho
  | n :: ns, v :: vs, ρ => bindRho ns vs (upd ρ n v)
  | _, _, ρ => ρ
noncomputable def rho0 : Rho := fun _ => none

/-- what a function's scope must be -/
noncomputable def scOk (sc : Scope) (names : List Str) : Bool :=
  decide (sc.kind = .function) && !sc.isCoroutine && !sc.isGenerator && sc.names.all (fun y => decide (y.2 ≠ .free)) && decide ((sc.names.map (·.1)).Nodup) &&
    names.all fun n => match sc.names.lookup n with | some .local | some .cell => true | _ => false

structure ScOk (sc : Scope) (names : List Str) : Prop where
  kind : sc.kind = .function
  co : sc.isCoroutine = false
  gen : sc.isGenerator = false
  free : ∀ y ∈ sc.names, y.2 ≠ .free
  nodup : (sc.names.map (·.1)).Nodup
  args : ∀ n ∈ names, sc.names.lookup n = some .local ∨ sc.names.lookup n = some .cell
theorem scOk_of {sc : Scope} {names : List Str} (h : scOk sc names = true) : ScOk sc names := by
  simp only [scOk, Bool.and_eq_true, decide_eq_true_eq, List.all_eq_true, Bool.not_eq_true'] at h
  obtain ⟨⟨⟨⟨⟨h1, h2⟩, h3⟩, h4⟩, h5⟩, h6⟩ := h
  refine ⟨h1, h2, h3, h4, h5, fun n hn => ?_⟩
  have := h6 n hn
  split at this
  · rename_i q; exact .inl q
  · rename_i q; exact .inr q
  · cases this

theorem cellsFrom_mem : ∀ {names : List (Str × NameKind)} {n : Nat} {acc : List (Str × Addr)} {x : Str} {c : Addr}, (x, c) ∈ cellsFrom n names acc → (x, c) ∈ acc ∨ (n ≤ c ∧ (x, NameKind.cell) ∈ names)
  | [], _, _, _, _, h => .inl h
  | (y, k) :: r, n, acc, x, c, h => by
    unfold cellsFrom at h
    by_cases hk : (k == NameKind.cell) = true
    · rw [if_pos hk] at h
      rcases cellsFrom_mem h with h | ⟨h1, h2⟩
      · rcases List.mem_cons.mp h with e | h
        · cases e; exact .inr ⟨Nat.le_refl _, by rw [← beq_iff_eq.mp hk]; exact .head _⟩
        · exact .inl h
      · exact .inr ⟨Nat.le_of_succ_le h1, .tail _ h2⟩
    · rw [if_neg hk] at h
      rcases cellsFrom_mem h with h | ⟨h1, h2⟩
      · exact .inl h
      · exact .inr ⟨h1, .tail _ h2⟩
theorem cellsFrom_has : ∀ {names : List (Str × NameKind)} {n : Nat} {acc : List (Str × Addr)} {x : Str}, ((∃ c, (x, c) ∈ acc) ∨ (x, NameKind.cell) ∈ names) → ∃ c, (x, c) ∈ cellsFrom n names acc
  | [], _, acc, _, h => by rcases h with h | h; exact h; cases h
  | (y, k) :: r, n, acc, x, h => by
    unfold cellsFrom
    by_cases hk : (k == NameKind.cell) = true
    · rw [if_pos hk]
      refine cellsFrom_has ?_
      rcases h with ⟨c, h⟩ | h
      · exact .inl ⟨c, .tail _ h⟩
      · rcases List.mem_cons.mp h with e | h
        · cases e; exact .inl ⟨_, .head _⟩
        · exact .inr h
    · rw [if_neg hk]
      refine cellsFrom_has ?_
      rcases h with h | h
      · exact .inl h
      · rcases List.mem_cons.mp h with e | h
        · cases e; simp at hk
        · exact .inr h
theorem cellsFrom_uniq : ∀ {names : List (Str × NameKind)} {n : Nat} {acc : List (Str × Addr)}, (names.map (·.1)).Nodup → (∀ x c, (x, c) ∈ acc → x ∉ names.map (·.1)) → (∀ x c c', (x, c) ∈ acc → (x, c') ∈ acc → c = c') →
    ∀ x c c', (x, c) ∈ cellsFrom n names acc → (x, c') ∈ cellsFrom n names acc → c = c'
  | [], _, _, _, _, h => h
  | (y, k) :: r, n, acc, hn, ha, h => by
    rw [List.map_cons, List.nodup_cons] at hn
    unfold cellsFrom
    by_cases hk : (k == NameKind.cell) = true
    · rw [if_pos hk]
      refine cellsFrom_uniq hn.2 (fun x c hm => ?_) fun x c c' h1 h2 => ?_
      · rcases List.mem_cons.mp hm with e | hm
        · cases e; exact hn.1
        · exact fun q => ha x c hm (List.mem_cons_of_mem _ q)
      · rcases List.mem_cons.mp h1 with e | h1 <;> rcases List.mem_cons.mp h2 with e' | h2
        · cases e; cases e'; rfl
        · cases e; exact absurd (List.mem_cons_self ..) (ha _ _ h2)
        · cases e'; exact absurd (List.mem_cons_self ..) (ha _ _ h1)
        · exact h x c c' h1 h2
    · rw [if_neg hk]
      exact cellsFrom_uniq hn.2 (fun x c hm q => ha x c hm (List.mem_cons_of_mem _ q)) h

/-- a function of the text, as it stands at the base -/
structure FnAt (C : Cx) (a : Addr) (names : List Str) (sc : Scope) (body : List Stmt) : Prop where
  at_ : ∃ o fd, C.h0.get? a = some o ∧ o.data = .func fd ∧ C.h0.CodeRec fd.code fd.qualname ∧ fd.body = .stmts body ∧ fd.scope = sc ∧ fd.closure = [] ∧ fd.globals = mainGlobals ∧ fd.builtins = builtinsNs ∧
    ∀ vals : List Value, vals.length = names.length → bindArgs fd ⟨vals, []⟩ = pure (names.zip vals)

section
variable {prog : Program} {w : World} {C : Cx} {A : Around} {env : Env} {ρ : Rho} {σ : Store} {F : List Addr} {s : Shared} {sc : Scope}

theorem bind_rel {k : Str → Option NameKind} {h : Heap} : ∀ {names : List Str} {avs : List AV} {vals : List Value} {ρ : Rho} {m cm : Str → Option Value}, Reps C F h avs vals → names.length = avs.length →
    (∀ x av, k x = some .local → ρ x = some av → ∃ v, m x = some v ∧ Rep C F h av v) → (∀ x av, k x ≠ some .local → ρ x = some av → ∃ v, cm x = some v ∧ Rep C F h av v) →
    (∀ x av, k x = some .local → bindRho names avs ρ x = some av → ∃ v, bindL k (names.zip vals) m x = some v ∧ Rep C F h av v) ∧ (∀ x av, k x ≠ some .local → bindRho names avs ρ x = some av → ∃ v, bindC k (names.zip vals) cm x = some v ∧ Rep C F h av v)
  | [], [], _, ρ, m, cm, r, _, h1, h2 => by cases r; exact ⟨h1, h2⟩
  | n :: ns, a :: as, _, ρ, m, cm, ⟨v, vr, e, rv, rr⟩, hl, h1, h2 => by
    subst e
    refine bind_rel (ρ := upd ρ n a) rr (by simpa using hl) (fun x av hk hx => ?_) fun x av hk hx => ?_
    · unfold upd at hx
      by_cases hxn : x = n
      · subst hxn
        rw [if_pos rfl] at hx; cases hx
        exact ⟨v, by rw [if_pos hk]; simp, rv⟩
      · rw [if_neg hxn] at hx
        obtain ⟨u, hu, ru⟩ := h1 x av hk hx
        refine ⟨u, ?_, ru⟩
        split
        · simp [hxn, hu]
        · exact hu
    · unfold upd at hx
      by_cases hxn : x = n
      · subst hxn
        rw [if_pos rfl] at hx; cases hx
        exact ⟨v, by rw [if_neg hk]; simp, rv⟩
      · rw [if_neg hxn] at hx
        obtain ⟨u, hu, ru⟩ := h2 x av hk hx
        refine ⟨u, ?_, ru⟩
        split
        · exact hu
        · simp [hxn, hu]
  | [], _ :: _, _, _, _, _, _, hl, _, _ => by cases hl
  | _ :: _, [], _, _, _, _, _, hl, _, _ => by cases hl

theorem Mono.within {W F F' : List Addr} {h h1 h' : Heap} (hk : ∀ b o, h.get? b = some o → h1.get? b = some o) (m : Mono W F h1 F' h') (hW : ∀ a ∈ W, h.get? a = none) : Mono [] F h F' h' := by
  obtain ⟨N, e, hN⟩ := m.pre
  refine ⟨⟨N, e, fun a ha => ?_⟩, fun b o q hF _ => m.keep b o (hk b o q) hF fun hw => ?_, fun b q => ?_, (immK_keeps hk).trans m.imm⟩
  · cases q : h.get? a with
    | none => rfl
    | some o => have := hk a o q; rw [hN a ha] at this; cases this
  · rw [hW b hw] at q; cases q
  · obtain ⟨o, ho⟩ := Option.isSome_iff_exists.mp q
    exact m.dom b (isSome_of (hk b o ho))

/-- a call of a function of the text -/
theorem call_fn {a : Addr} {names : List Str} {body : List Stmt} {as : List AV} {k : Nat} {Q : AV → Store → Prop} (hB : Base C) (hf : FnAt C a names sc body) (hsc : ScOk sc names) (ok : OkA (k + 1) A) (hlen : names.length = as.length)
    (h : ∀ A' env', OkA k A' → EnvOk sc env' → WB (model prog w) C A' env' body (bindRho names as rho0) σ fun af _ σ' => match af with | .ret v => Q v σ' | .next => Q N' σ' | _ => False) :
    CallV prog w C A (.ref a) as σ Q := fun F s vs I rs => by
  obtain ⟨o, fd, ho, hd, hcr, hbody, hscope, hclo, hglob, hblt, hbind⟩ := hf.at_
  subst hscope
  have hvl : vs.length = names.length := by rw [rs.length, hlen]
  have hnone : s.heap.get? s.heap.objs.size = none := get_none_of_ge (Nat.le_refl _)
  have cmem : ∀ x c, (x, c) ∈ cellsFrom (s.heap.objs.size + 1) fd.scope.names [] → s.heap.objs.size + 1 ≤ c ∧ (x, NameKind.cell) ∈ fd.scope.names := fun x c hm => by
    rcases cellsFrom_mem hm with q | q
    · cases q
    · exact q
  have O : EnvOk fd.scope (callEnvC fd s.heap.objs.size a) := by
    refine ⟨hsc.kind, hglob, hblt, fun x hx => hx, fun x hx => ⟨hx, ?_⟩, fun x hx => absurd rfl (hsc.free _ (mem_of_lookup hx)), fun x hx => hx, fun x c c' h1 h2 => ?_, fun hx => absurd rfl (hsc.free _ (mem_of_lookup hx))⟩
    · obtain ⟨c, hc⟩ := cellsFrom_has (n := s.heap.objs.size + 1) (acc := []) (.inr (mem_of_lookup hx))
      exact lookup_of_mem hc
    · exact cellsFrom_uniq (acc := []) hsc.nodup (fun _ _ hm => nomatch hm) (fun _ _ _ hm => nomatch hm) x c c' h1 h2
  have ok' : OkA k (A.deeper (callEnvC fd s.heap.objs.size a)) := ⟨ok.hh, by have := ok.depth; show A.depth + 1 + k < _; omega, by have := ok.units; show A.units + 3 + 8 * k + 200 < _; omega⟩
  refine wpAny_call (codeAny_call_cells (fd := fd) (body := body) (binds := names.zip vs) (by have := ok.depth; omega) (I.base _ _ ho) hd (hB.lim.keeps I.base) (hcr.keeps I.base) hbody (hbind vs hvl) hclo (fun x hx => ?_) (fun s1 X => ?_) hsc.co hsc.gen hsc.kind)
  · have hx1 : x.1 ∈ names := (List.of_mem_zip (show (x.1, x.2) ∈ names.zip vs from hx)).1
    rcases hsc.args x.1 hx1 with q | q
    · exact .inl q
    · refine .inr ⟨q, ?_⟩
      obtain ⟨c, hc⟩ := cellsFrom_has (n := s.heap.objs.size + 1) (acc := []) (.inr (mem_of_lookup q))
      exact lookup_of_mem hc
  · have X0 := X
    obtain ⟨h', tk, rfl, hk⟩ := X0.done
    have br := bind_rel (k := (callEnvC fd s.heap.objs.size a).kindOf) (ρ := rho0) (m := fun _ => none) (cm := fun _ => none) rs hlen (fun _ _ _ e => nomatch e) (fun _ _ _ e => nomatch e)
    have im : ImmK s.heap h' := immK_keeps hk
    have I1 : Inv C σ F { s with heap := h', toks := tk } := I.keeps hk
    have own_none : ∀ b ∈ own (callEnvC fd s.heap.objs.size a), s.heap.get? b = none := fun b hb => by
      rcases List.mem_cons.mp hb with rfl | hb
      · exact hnone
      · obtain ⟨⟨y, c⟩, hyc, rfl⟩ := List.mem_map.mp hb
        exact get_none_of_ge (Nat.le_of_succ_le (cmem y c hyc).1)
    have L1 : Loc C (callEnvC fd s.heap.objs.size a) (bindRho names as rho0) F h' := by
      refine ⟨⟨_, X.toInCall.ns, fun x av hkx hx => let ⟨v, hv, r⟩ := br.1 x av hkx hx; ⟨v, hv, r.at im fun _ _ e => e⟩⟩, fun x c hc => ?_, fun x x' c h1 h2 => name_of_addr X.apart h1 h2, fun x c hc => ?_, fun b hb => ⟨fun hm => ?_, I.base_none (own_none b hb)⟩⟩
      · obtain ⟨c', hc'⟩ := Option.isSome_iff_exists.mp (lookup_of_mem hc)
        have := O.uniq x c c' hc (mem_of_lookup hc')
        subst this
        refine ⟨_, X.cell x c hc', fun av hkx hx => ?_⟩
        obtain ⟨v, hv, r⟩ := br.2 x av (by rcases hkx with q | q <;> rw [q] <;> simp) hx
        exact ⟨v, hv, r.at im fun _ _ e => e⟩
      · exact Nat.ne_of_gt (Nat.lt_of_succ_le (cmem x c hc).1)
      · obtain ⟨ob, hob⟩ := I.lt hm
        rw [own_none b hb] at hob; cases hob
    refine wpAny_mono (h _ _ ok' O F _ I1 L1) (fun f s2 ⟨af, ρ2, σ2, F2, q, rf, I2, L2, m2⟩ => ?_) fun _ _ x => x.elim
    have mm : Mono [] F s.heap F2 s2.heap := Mono.within hk m2 own_none
    cases af with
    | next => cases rf; exact ⟨N', σ2, F2, q, rep_none, I2, mm⟩
    | brk => exact q.elim
    | cont => exact q.elim
    | ret av =>
      obtain ⟨v, rfl, rv⟩ := rf
      exact ⟨av, σ2, F2, q, rv, I2, mm⟩

/-- the class of the text, called -/
theorem call_cls {a : Addr} {names : List Str} {body : List Stmt} {as : List AV} {k : Nat} {Q : AV → Store → Prop} (hB : Base C) (hC : ∃ N mN, ClsAt C.h0 C.cls N mN ∧ mN "__init__" = some (.ref a)) (hf : FnAt C a names sc body) (hco : ∀ o, C.h0.get? a = some o → o.cls = .type "function") (hsc : ScOk sc names) (ok : OkA (k + 2) A) (hlen : names.length = as.length + 1)
    (h : ∀ A' env', OkA k A' → EnvOk sc env' → WB (model prog w) C A' env' body (bindRho names (.loc σ.length :: as) rho0) (σ ++ [.inst (σ.length + 1), .attrs []]) fun af _ σ' => match af with | .ret v => v = N' ∧ Q (.loc σ.length) σ' | .next => Q (.loc σ.length) σ' | _ => False) :
    CallV prog w C A (.ref C.cls) as σ Q := fun F s vs I rs => by
  obtain ⟨N, mN, X, hi⟩ := hC
  obtain ⟨o, fd, ho, hd, _⟩ := hf.at_
  have hcls := hco o ho
  obtain ⟨nm, q, bs, sn, sub, col, dd, k0, k1, k2, k3, k5, hCo⟩ := (X.keeps I.base).obj
  have hn := (X.keeps I.base).ns
  have hoI := I.base _ _ ho
  have key : ∀ h' x dx, Heap.MadeObj s.heap h' x dx C.cls → wpAny (model prog w) (A.under (.builtin "type.__call__" ⟨.ref C.cls :: vs, []⟩)) (call (.ref a) (.ref x :: vs)) (fun r s' => r = .none ∧ EPost C Q F s (.ref x) s') NoE { s with heap := h' } := fun h' x dx Mk => by
    obtain ⟨ox, hx, hcx, hncx, hdx⟩ := Mk.inst
    have hdd := Mk.dict ox hx
    have hnsd : h'.Ns1 dx fun _ => none := by
      rcases hdx with ⟨hn0, _⟩ | ⟨d', hd', _, hns'⟩
      · rw [hn0] at hdd; cases hdd
      · obtain rfl := Option.some.inj (hd'.symm.trans hdd); exact hns'
    have hne : dx ≠ x := by
      rcases hdx with ⟨hn0, _⟩ | ⟨d', hd', hne', _⟩
      · rw [hn0] at hdd; cases hdd
      · obtain rfl := Option.some.inj (hd'.symm.trans hdd); exact hne'
    have xF : x ∉ F := fun hm => by obtain ⟨ob, hob⟩ := I.lt hm; rw [Mk.newX] at hob; cases hob
    have dF : dx ∉ F := fun hm => by obtain ⟨ob, hob⟩ := I.lt hm; rw [Mk.newD] at hob; cases hob
    have I1 : Inv C σ F { s with heap := h' } := I.keeps Mk.keeps (t := s.toks)
    have I2 : Inv C (σ ++ [.inst (σ.length + 1), .attrs []]) (F ++ [x, dx]) { s with heap := h' } := by
      have bx := I.base_none Mk.newX
      have bd := I.base_none Mk.newD
      refine ⟨I1.base, fun b hm => ?_, ?_, by simp [I.len], fun n ao b hnn hF => ?_, I1.gens, I1.os⟩
      · rcases List.mem_append.mp hm with hm | hm
        · exact I.fresh b hm
        · simp only [List.mem_cons, List.not_mem_nil, or_false] at hm
          rcases hm with rfl | rfl
          · exact bx
          · exact bd
      · rw [List.nodup_append]
        refine ⟨I.nodup, by simp [Ne.symm hne], fun y hy z hz => ?_⟩
        simp only [List.mem_cons, List.not_mem_nil, or_false] at hz
        rcases hz with rfl | rfl
        · rintro rfl; exact xF hy
        · rintro rfl; exact dF hy
      · have hlt : n < (F ++ [x, dx]).length := by
          rcases Nat.lt_or_ge n (F ++ [x, dx]).length with q | q
          · exact q
          · rw [List.getElem?_eq_none q] at hF; cases hF
        simp only [List.length_append, List.length_cons, List.length_nil] at hlt
        rcases Nat.lt_or_ge n F.length with q | q
        · rw [List.getElem?_append_left q] at hF
          rw [List.getElem?_append_left (I.len ▸ q)] at hnn
          exact (I1.objs n ao b hnn hF).at rfl (ImmK.refl _) fun k c e => by
            have hlt : k < F.length := by
              rcases Nat.lt_or_ge k F.length with q | q
              · exact q
              · rw [List.getElem?_eq_none q] at e; cases e
            rw [List.getElem?_append_left hlt]; exact e
        · rw [List.getElem?_append_right q] at hF
          rw [List.getElem?_append_right (by rw [← I.len]; exact q), ← I.len] at hnn
          have hn01 : n = F.length ∨ n = F.length + 1 := by omega
          rcases hn01 with rfl | rfl
          · simp at hF hnn
            subst hF; subst hnn
            exact ⟨dx, by rw [List.getElem?_append_right (Nat.le_succ _)]; simp, hne, ox, hx, hcx, hdd, hncx⟩
          · simp at hF hnn
            subst hF; subst hnn
            exact ⟨_, hnsd, fun _ => rfl, fun _ _ e => nomatch e⟩
    have m2 : Mono [] F s.heap (F ++ [x, dx]) h' := by
      refine ⟨⟨[x, dx], rfl, fun b hm => ?_⟩, fun b o e _ _ => Mk.keeps b o e, fun b e => by obtain ⟨ob, hob⟩ := Option.isSome_iff_exists.mp e; exact isSome_of (Mk.keeps b ob hob), immK_keeps Mk.keeps⟩
      simp only [List.mem_cons, List.not_mem_nil, or_false] at hm
      rcases hm with rfl | rfl
      · exact Mk.newX
      · exact Mk.newD
    have rx : Rep C (F ++ [x, dx]) h' (.loc σ.length) (.ref x) := rep_loc (by rw [← I.len]; simp)
    have ok1 : OkA (k + 1) (A.under (.builtin "type.__call__" ⟨.ref C.cls :: vs, []⟩)) := by
      refine ⟨ok.hh, ?_, ?_⟩
      · have := ok.depth
        show A.depth + 1 + (k + 1) < _
        omega
      · have := ok.units
        have e : (A.under (.builtin "type.__call__" ⟨.ref C.cls :: vs, []⟩)).units = A.units + 1 := rfl
        rw [e]; omega
    refine wpAny_mono (call_fn (Q := fun v σ' => v = N' ∧ Q (.loc σ.length) σ') hB hf hsc ok1 (as := .loc σ.length :: as) (by simpa using hlen) (fun A' env' ok' O' => (h A' env' ok' O').mono fun af ρ' σ' hq => ?_) (F ++ [x, dx]) { s with heap := h' } (.ref x :: vs) I2 ⟨_, _, rfl, rx, rs.mono m2⟩) (fun v s3 ⟨av, σ3, F3, ⟨e, q3⟩, rv, I3, m3⟩ => ?_) fun _ _ z => z
    · cases af with
      | next => exact ⟨rfl, hq⟩
      | ret v => exact hq
      | brk => exact hq
      | cont => exact hq
    · subst e
      exact ⟨rv, _, σ3, F3, q3, rx.mono m3, I3, m2.trans m3⟩
  obtain ⟨hh, g, d, t, os⟩ := s
  exact wpAny_call_obj_init PySem.F.objNew hCo hn hi hoI hcls key
end
end Mine

/-! W14 -/
namespace Mine

/-- the functions of the text -/
noncomputable def fnNames : List Str := ["Code", "row_targets", "with_targets", "goes_on", "height_change", "loop_change", "target_states", "greatest_height", "last_target", "thread_jumps", "reached_rows", "target_flags", "idle_rows", "sets_visible", "keep_rows", "improved", "optimise",
  "_law_digits", "_law_draw", "_law_rows", "_law_aims", "_law_reached", "_law_kept", "_law_in_ring", "_law_idle"]
noncomputable def known (f : Str) : Bool := (bi f).isSome || fnNames.contains f

abbrev EP := AV → Store → Prop
abbrev CallT := Str → List AV → Store → EP → Prop
abbrev WEx := EP → Rho → Store → Prop

noncomputable def callP (Φ : CallT) (f : Str) (as : List AV) (σ : Store) (Q : EP) : Prop := if (bi f).isSome = true then bcall f as σ Q else Φ f as σ Q

noncomputable def constP (c : Const) (Q : EP) (σ : Store) : Prop := match c with
  | .int i => Q (I' i) σ
  | .str x => Q (S' x) σ
  | .bool b => Q (B' b) σ
  | .none => Q N' σ
  | _ => False
noncomputable def nameP (x : Str) (Q : EP) (ρ : Rho) (σ : Store) : Prop := ∃ av, ρ x = some av ∧ Q av σ
noncomputable def unP (op : UnaryOp) (v : AV) (σ : Store) (Q : EP) : Prop := match op with
  | .Not => ∃ b, v = B' b ∧ Q (B' (!b)) σ
  | .USub => ∃ i, v = I' i ∧ Q (I' (-i)) σ
  | _ => False
noncomputable def attrP (v : AV) (x : Str) (σ : Store) (Q : EP) : Prop := ∃ n m kvs av, v = .loc n ∧ σ[n]? = some (.inst m) ∧ σ[m]? = some (.attrs kvs) ∧ kvs.lookup x = some av ∧ Q av σ
noncomputable def compP (sc' : Scope) (x : Str) (elt : EP → Rho → Store → Prop) (ρ : Rho) (v : AV) (σ1 : Store) (K : List D → Store → Prop) : Prop :=
  ∃ n ds, v = .loc n ∧ σ1[n]? = some (.list ds) ∧ ds.length ≤ 1000000 ∧ ∃ J : Nat → List D → Store → Prop, J 0 [] σ1 ∧ (∀ i acc σ, J i acc σ → σ[n]? = some (.list ds)) ∧
    (∀ i d acc σ, ds[i]? = some d → J i acc σ → ∀ ρ', ρ' x = some (.d d) → (∀ y, sc'.names.lookup y = some .free → ρ' y = ρ y) → elt (fun y σ' => ∃ dy, y = .d dy ∧ J (i + 1) (acc ++ [dy]) σ') ρ' σ) ∧
    (∀ acc σ, J ds.length acc σ → acc.length = ds.length → K acc σ)
noncomputable def compP2 (sc' : Scope) (x1 x2 : Str) (iter2 elt : EP → Rho → Store → Prop) (ρ : Rho) (v : AV) (σ1 : Store) (K : List D → Store → Prop) : Prop :=
  ∃ n ds, v = .loc n ∧ σ1[n]? = some (.list ds) ∧ ds.length ≤ 1000000 ∧ ∃ J : Nat → List D → Store → Prop, J 0 [] σ1 ∧ (∀ i acc σ, J i acc σ → σ[n]? = some (.list ds)) ∧
    (∀ i d acc σ, ds[i]? = some d → J i acc σ → ∀ ρ', ρ' x1 = some (.d d) → (∀ y, sc'.names.lookup y = some .free → ρ' y = ρ y) → iter2 (fun v2 σ2 =>
      ∃ n2 ds2, v2 = .loc n2 ∧ σ2[n2]? = some (.list ds2) ∧ ∃ J2 : Nat → List D → Store → Prop, J2 0 acc σ2 ∧ (∀ j acc σ, J2 j acc σ → σ[n2]? = some (.list ds2) ∧ acc.length ≤ 1000000) ∧
        (∀ j d2 acc σ, ds2[j]? = some d2 → J2 j acc σ → ∀ ρ'', ρ'' x1 = some (.d d) → ρ'' x2 = some (.d d2) → (∀ y, sc'.names.lookup y = some .free → ρ'' y = ρ y) → elt (fun y σ' => ∃ dy, y = .d dy ∧ J2 (j + 1) (acc ++ [dy]) σ') ρ'' σ) ∧
        (∀ acc σ, J2 ds2.length acc σ → J (i + 1) acc σ)) ρ' σ) ∧
    (∀ acc σ, J ds.length acc σ → K acc σ)

noncomputable def unOk : UnaryOp → Bool
  | .Not => true
  | .USub => true
  | _ => false

mutual
/-- what can be seen from the text alone -/
noncomputable def okE : Expr → Scope → Bool
  | .Constant (.str x) _ _, _ => PyData.strOk x
  | .Constant _ _ _, _ => true
  | .Name x _, sc => isVar sc x
  | .Tuple es _ _, sc => okEs es sc
  | .List es _, sc => okEs es sc
  | .Dict _ _ _, _ => true
  | .BinOp l _ r _, sc => okE l sc && okE r sc
  | .UnaryOp op x _, sc => unOk op && okE x sc
  | .BoolOp _ es _, sc => okEs es sc
  | .Compare l _ [r] _, sc => notSet r && okE l sc && okE r sc
  | .IfExp t b o _, sc => okE t sc && okE b sc && okE o sc
  | .Call (.Name g _) args [] _, sc => isGlob sc g && known g && okEs args sc
  | .Call (.Attribute (.Name x _) m apos) args [] pos, sc => (methId m).isSome && decide (args.length < 20) && (apos.endLine == pos.line) && isVar sc x && okEs args sc
  | .Attribute e x _, sc => baseOk e && codeAttrs.contains x && okE e sc
  | .Subscript e (.Slice none (some u) none _) _, sc => okE e sc && okE u sc
  | .Subscript e (.Slice (some u) none none _) _, sc => okE e sc && okE u sc
  | .Subscript e i _, sc => notSlice i && okE e sc && okE i sc
  | .ListComp elt [⟨.Name x _, iter, [], 0⟩] sc' _, sc => compOk sc sc' x && notSet iter && okE iter sc && okE elt sc'
  | .ListComp elt [⟨.Name x1 _, iter1, [], 0⟩, ⟨.Name x2 _, iter2, [], 0⟩] sc' _, sc => compOk sc sc' x1 && decide (sc'.names.lookup x2 = some .local) && decide (x1 ≠ x2) && notSet iter1 && notSet iter2 && okE iter1 sc && okE iter2 sc' && okE elt sc'
  | _, _ => false
noncomputable def okEs : List Expr → Scope → Bool
  | [], _ => true
  | e :: r, sc => noStar e && okE e sc && okEs r sc
end

mutual
noncomputable def wE (C : Cx) (Φ : CallT) : Expr → EP → Rho → Store → Prop
  | .Constant c _ _, Q, _, σ => constP c Q σ
  | .Name x _, Q, ρ, σ => nameP x Q ρ σ
  | .Tuple es _ _, Q, ρ, σ => wEs C Φ es (fun as σ1 => as.length ≤ 1000000 ∧ ∃ xs, scalars as = some xs ∧ Q (.d (.t xs)) σ1) ρ σ
  | .List es _, Q, ρ, σ => wEs C Φ es (fun as σ1 => as.length ≤ 1000000 ∧ ∃ xs, datas as = some xs ∧ Q (.loc σ1.length) (σ1 ++ [.list xs])) ρ σ
  | .Dict [] [] _, Q, _, σ => Q (.loc σ.length) (σ ++ [.dict []])
  | .BinOp l op r _, Q, ρ, σ => wE C Φ l (fun a σ1 => wE C Φ r (fun b σ2 => binop op a b σ2 Q) ρ σ1) ρ σ
  | .UnaryOp op x _, Q, ρ, σ => wE C Φ x (fun v σ1 => unP op v σ1 Q) ρ σ
  | .Compare l [op] [r] _, Q, ρ, σ => wE C Φ l (fun a σ1 => wE C Φ r (fun b σ2 => ∃ c, cmp op a b σ2 c ∧ Q (B' c) σ2) ρ σ1) ρ σ
  | .IfExp t b o _, Q, ρ, σ => wT C Φ t (wE C Φ t) (fun c σ1 => if c = true then wE C Φ b Q ρ σ1 else wE C Φ o Q ρ σ1) ρ σ
  | .Call (.Name g _) args [] _, Q, ρ, σ => wEs C Φ args (fun as σ1 => callP Φ g as σ1 Q) ρ σ
  | .Call (.Attribute (.Name x _) m _) args [] _, Q, ρ, σ => nameP x (fun a σ1 => (∃ n ds, a = .loc n ∧ σ1[n]? = some (.list ds)) ∧ wEs C Φ args (fun as σ2 => meth m a as σ2 Q) ρ σ1) ρ σ
  | .Attribute e x _, Q, ρ, σ => wE C Φ e (fun v σ1 => attrP v x σ1 Q) ρ σ
  | .Subscript e (.Slice none (some u) none _) _, Q, ρ, σ => wE C Φ e (fun a σ1 => wE C Φ u (fun b σ2 => ∃ k, b = I' k ∧ sliceUpto C a k σ2 Q) ρ σ1) ρ σ
  | .Subscript e (.Slice (some u) none none _) _, Q, ρ, σ => wE C Φ e (fun a σ1 => wE C Φ u (fun b σ2 => ∃ xs k, a = .d (.t xs) ∧ b = I' k ∧ 1 ≤ k ∧ k ≤ xs.length ∧ xs.length ≤ 1000000 ∧ Q (.d (.t (xs.drop k.toNat))) σ2) ρ σ1) ρ σ
  | .Subscript e i _, Q, ρ, σ => wE C Φ e (fun a σ1 => wE C Φ i (fun b σ2 => ∃ r, item a b σ2 r ∧ Q r σ2) ρ σ1) ρ σ
  | .ListComp elt [⟨.Name x _, iter, [], 0⟩] sc' _, Q, ρ, σ =>
      wE C Φ iter (fun v σ1 => compP sc' x (wE C Φ elt) ρ v σ1 fun acc σ2 => Q (.loc σ2.length) (σ2 ++ [.list acc])) ρ σ
  | .ListComp elt [⟨.Name x1 _, iter1, [], 0⟩, ⟨.Name x2 _, iter2, [], 0⟩] sc' _, Q, ρ, σ =>
      wE C Φ iter1 (fun v σ1 => compP2 sc' x1 x2 (wE C Φ iter2) (wE C Φ elt) ρ v σ1 fun acc σ2 => Q (.loc σ2.length) (σ2 ++ [.list acc])) ρ σ
  | _, _, _, _ => False
noncomputable def wT (C : Cx) (Φ : CallT) : Expr → WEx → (Bool → Store → Prop) → Rho → Store → Prop
  | .UnaryOp .Not x _, _, Q, ρ, σ => wT C Φ x (wE C Φ x) (fun b σ1 => Q (!b) σ1) ρ σ
  | .BoolOp op es _, _, Q, ρ, σ => wTs C Φ op es Q ρ σ
  | .Compare l [op] [r] _, _, Q, ρ, σ => wE C Φ l (fun a σ1 => wE C Φ r (fun b σ2 => ∃ c, cmp op a b σ2 c ∧ Q c σ2) ρ σ1) ρ σ
  | e, whole, Q, ρ, σ => plainTest e = true ∧ whole (fun v σ1 => ∃ b, v = B' b ∧ Q b σ1) ρ σ
noncomputable def wTs (C : Cx) (Φ : CallT) : BoolOp → List Expr → (Bool → Store → Prop) → Rho → Store → Prop
  | .And, [], Q, _, σ => Q true σ
  | .Or, [], Q, _, σ => Q false σ
  | .And, x :: r, Q, ρ, σ => wT C Φ x (wE C Φ x) (fun b σ1 => if b = true then wTs C Φ .And r Q ρ σ1 else Q false σ1) ρ σ
  | .Or, x :: r, Q, ρ, σ => wT C Φ x (wE C Φ x) (fun b σ1 => if b = true then Q true σ1 else wTs C Φ .Or r Q ρ σ1) ρ σ
noncomputable def wEs (C : Cx) (Φ : CallT) : List Expr → (List AV → Store → Prop) → Rho → Store → Prop
  | [], Q, _, σ => Q [] σ
  | e :: r, Q, ρ, σ => wE C Φ e (fun a σ1 => wEs C Φ r (fun as σ2 => Q (a :: as) σ2) ρ σ1) ρ σ
end

abbrev SP := AF → Rho → Store → Prop
noncomputable def seqK (k : Rho → Store → Prop) (Q : SP) : SP
  | .next, ρ, σ => k ρ σ
  | .brk, ρ, σ => Q .brk ρ σ
  | .cont, ρ, σ => Q .cont ρ σ
  | .ret v, ρ, σ => Q (.ret v) ρ σ
noncomputable def loopK (k : Rho → Store → Prop) (Q : SP) : SP
  | .next, ρ, σ => k ρ σ
  | .brk, ρ, σ => Q .next ρ σ
  | .cont, ρ, σ => k ρ σ
  | .ret v, ρ, σ => Q (.ret v) ρ σ
noncomputable def whileP (test : (Bool → Store → Prop) → Rho → Store → Prop) (body : SP → Rho → Store → Prop) (Q : SP) (ρ : Rho) (σ : Store) : Prop :=
  ∃ (J : Nat → Rho → Store → Prop) (n : Nat), J n ρ σ ∧ ∀ n ρ σ, J n ρ σ → test (fun c σ1 => if c = true then body (loopK (fun ρ' σ' => ∃ m, m < n ∧ J m ρ' σ') Q) ρ σ1 else Q .next ρ σ1) ρ σ
noncomputable def forP (x : Str) (body : SP → Rho → Store → Prop) (Q : SP) (ρ : Rho) (v : AV) (σ1 : Store) : Prop :=
  ∃ ds, iterOf v σ1 ds ∧ ∃ J : Nat → Rho → Store → Prop, J 0 ρ σ1 ∧ (∀ i ρ σ, J i ρ σ → iterOf v σ ds) ∧
    (∀ i d ρ σ, ds[i]? = some d → J i ρ σ → body (loopK (fun ρ' σ' => J (i + 1) ρ' σ') Q) (upd ρ x (.d d)) σ) ∧ (∀ ρ σ, J ds.length ρ σ → Q .next ρ σ)

mutual
noncomputable def okS : Stmt → Scope → Bool
  | .Assign [.Name x _] e _, sc => isOwn sc x && okE e sc
  | .Assign [.Tuple elts _ _] e _, sc => (match namesOf elts with | some xs => xs.all (isOwn sc) | none => false) && notComp e && notTuple e && okE e sc
  | .Assign [.Subscript o i _] e _, sc => notComp e && okE o sc && okE i sc && okE e sc
  | .Assign [.Attribute o x _] e _, sc => codeAttrs.contains x && notComp e && okE o sc && okE e sc
  | .AugAssign (.Name x _) _ e _, sc => isOwn sc x && isVar sc x && okE e sc
  | .Expr e _, sc => notComp e && okE e sc
  | .If t b o _, sc => okE t sc && okB b sc && okB o sc
  | .While t b _ _, sc => okE t sc && okB b sc
  | .For (.Name x _) iter b _ _, sc => isOwn sc x && notSet iter && okE iter sc && okB b sc
  | .Return (some e) _, sc => okE e sc
  | .Return none _, _ => true
  | .Continue _, _ => true
  | .Pass _, _ => true
  | _, _ => false
noncomputable def okB : List Stmt → Scope → Bool
  | [], _ => true
  | st :: r, sc => okS st sc && okB r sc
end

mutual
noncomputable def wS (C : Cx) (Φ : CallT) : Stmt → SP → Rho → Store → Prop
  | .Assign [.Name x _] e _, Q, ρ, σ => wE C Φ e (fun v σ1 => Q .next (upd ρ x v) σ1) ρ σ
  | .Assign [.Tuple elts _ _] e _, Q, ρ, σ => wE C Φ e (fun v σ1 => ∃ vs, v = .d (.t vs) ∧ vs.length = ((namesOf elts).getD []).length ∧ Q .next (updS ρ ((namesOf elts).getD []) vs) σ1) ρ σ
  | .Assign [.Subscript o i _] e _, Q, ρ, σ => wE C Φ e (fun v σ1 => wE C Φ o (fun a σ2 => wE C Φ i (fun b σ3 => ∃ σ4, setItemV a b v σ3 σ4 ∧ Q .next ρ σ4) ρ σ2) ρ σ1) ρ σ
  | .Assign [.Attribute o x _] e _, Q, ρ, σ => wE C Φ e (fun v σ1 => wE C Φ o (fun a σ2 => ∃ n m kvs, a = .loc n ∧ σ2[n]? = some (.inst m) ∧ σ2[m]? = some (.attrs kvs) ∧ kvs.length < 1000000 ∧ Q .next ρ (σ2.set m (.attrs ((x, v) :: kvs)))) ρ σ1) ρ σ
  | .AugAssign (.Name x _) .Add e _, Q, ρ, σ => ∃ i, ρ x = some (I' i) ∧ wE C Φ e (fun v σ1 => ∃ j, v = I' j ∧ Q .next (upd ρ x (I' (i + j))) σ1) ρ σ
  | .Expr e _, Q, ρ, σ => wE C Φ e (fun v σ1 => v = N' ∧ Q .next ρ σ1) ρ σ
  | .If t b o _, Q, ρ, σ => wT C Φ t (wE C Φ t) (fun c σ1 => if c = true then wB C Φ b Q ρ σ1 else wB C Φ o Q ρ σ1) ρ σ
  | .While t b [] _, Q, ρ, σ => whileP (wT C Φ t (wE C Φ t)) (wB C Φ b) Q ρ σ
  | .For (.Name x _) iter b [] _, Q, ρ, σ => wE C Φ iter (fun v σ1 => forP x (wB C Φ b) Q ρ v σ1) ρ σ
  | .Return (some e) _, Q, ρ, σ => wE C Φ e (fun v σ1 => Q (.ret v) ρ σ1) ρ σ
  | .Return none _, Q, ρ, σ => Q (.ret N') ρ σ
  | .Continue _, Q, ρ, σ => Q .cont ρ σ
  | .Pass _, Q, ρ, σ => Q .next ρ σ
  | _, _, _, _ => False
noncomputable def wB (C : Cx) (Φ : CallT) : List Stmt → SP → Rho → Store → Prop
  | [], Q, ρ, σ => Q .next ρ σ
  | st :: r, Q, ρ, σ => wS C Φ st (seqK (wB C Φ r Q) Q) ρ σ
end
end Mine

/-! W15 -/
namespace Mine

noncomputable def Valid (prog : Program) (w : World) (C : Cx) (A : Around) (Φ : CallT) : Prop :=
  ∀ f, fnNames.contains f = true → ∃ v, GV C f v ∧ Callee C v ∧ ∀ as σ Q, Φ f as σ Q → CallV prog w C A v as σ Q

section
variable {prog : Program} {w : World} {C : Cx} {A : Around} {Φ : CallT}

theorem WEs.mono {M : Model} {env : Env} {es : List Expr} {ρ : Rho} {σ : Store} {Q Q' : List AV → Store → Prop} (h : WEs M C A env es ρ σ Q) (hq : ∀ v σ', Q v σ' → Q' v σ') : WEs M C A env es ρ σ Q' := fun pos F s I L =>
  wpAny_mono (h pos F s I L) (fun _ _ ⟨av, σ1, F1, q, r⟩ => ⟨av, σ1, F1, hq _ _ q, r⟩) fun _ _ x => x

theorem known_ok (hB : Base C) (hA : OkA 0 A) (hV : Valid prog w C A Φ) {f : Str} (h : known f = true) : ∃ v, GV C f v ∧ Callee C v ∧ ∀ as σ Q, callP Φ f as σ Q → CallV prog w C A v as σ Q := by
  unfold known at h
  unfold callP
  by_cases hs : (bi f).isSome = true
  · obtain ⟨v, hv⟩ := Option.isSome_iff_exists.mp hs
    exact ⟨v, .inr (hB.bi f v hv), bi_callee hv, fun as σ Q hq => bcall_ok hA.hh hv (by rw [if_pos hs] at hq; exact hq)⟩
  · rw [Bool.not_eq_true] at hs
    rw [hs, Bool.false_or] at h
    obtain ⟨v, h1, h2, h3⟩ := hV f h
    refine ⟨v, h1, h2, fun as σ Q hq => h3 as σ Q (by rw [if_neg (by rw [hs]; simp)] at hq; exact hq)⟩

theorem l1 {a n : Nat} (h : 1 + a < n + 1) : a < n := by omega
theorem l2a {a b n : Nat} (h : 1 + a + b < n + 1) : a < n := by omega
theorem l2b {a b n : Nat} (h : 1 + a + b < n + 1) : b < n := by omega
theorem l3a {a b c n : Nat} (h : 1 + a + b + c < n + 1) : a < n := by omega
theorem l3b {a b c n : Nat} (h : 1 + a + b + c < n + 1) : b < n := by omega
theorem l4a {a b c d n : Nat} (h : 1 + a + b + c + d < n + 1) : a < n := by omega
theorem l4b {a b c d n : Nat} (h : 1 + a + b + c + d < n + 1) : b < n := by omega
theorem l4c {a b c d n : Nat} (h : 1 + a + b + c + d < n + 1) : c < n := by omega
theorem l5b {a b c d e n : Nat} (h : 1 + a + b + c + d + e < n + 1) : b < n := by omega
theorem l5c {a b c d e n : Nat} (h : 1 + a + b + c + d + e < n + 1) : c < n := by omega
theorem lUp {a b c d f n : Nat} (h : 1 + a + (1 + b + (1 + c) + d + f) < n + 1) : a < n ∧ c < n := by omega
theorem sp {a b n : Nat} (e : a = b) (h : a < n) : b < n := e ▸ h
theorem no {P : Prop} (h : false = true) : P := absurd h Bool.false_ne_true
theorem a2 {x y : Bool} (h : (x && y) = true) : x = true ∧ y = true := by rwa [Bool.and_eq_true] at h
theorem a3 {x y z : Bool} (h : (x && y && z) = true) : x = true ∧ y = true ∧ z = true := ⟨(a2 (a2 h).1).1, (a2 (a2 h).1).2, (a2 h).2⟩
theorem a4 {x y z u : Bool} (h : (x && y && z && u) = true) : x = true ∧ y = true ∧ z = true ∧ u = true := ⟨(a2 (a2 (a2 h).1).1).1, (a2 (a2 (a2 h).1).1).2, (a2 (a2 h).1).2, (a2 h).2⟩

theorem okEs_noStar : ∀ {es : List Expr} {sc : Scope}, okEs es sc = true → es.all noStar = true
  | [], _, _ => rfl
  | e :: r, sc, h => by
    have h := a3 (show (noStar e && okE e sc && okEs r sc) = true from h)
    rw [List.all_cons, h.1, okEs_noStar h.2.2]; rfl

abbrev SE (prog : Program) (w : World) (C : Cx) (A : Around) (Φ : CallT) (n : Nat) : Prop := ∀ e, sizeOf e < n → ∀ sc env Q ρ σ, EnvOk sc env → okE e sc = true → wE C Φ e Q ρ σ → WE (model prog w) C A env e ρ σ Q
abbrev ST (prog : Program) (w : World) (C : Cx) (A : Around) (Φ : CallT) (n : Nat) : Prop := ∀ e, sizeOf e < n → ∀ whole sc env Q ρ σ, EnvOk sc env → okE e sc = true → (∀ Q, whole Q ρ σ → WE (model prog w) C A env e ρ σ Q) → wT C Φ e whole Q ρ σ → WT (model prog w) C A env e ρ σ Q
abbrev STs (prog : Program) (w : World) (C : Cx) (A : Around) (Φ : CallT) (n : Nat) : Prop := ∀ es : List Expr, sizeOf es < n → ∀ op sc env Q ρ σ, EnvOk sc env → okEs es sc = true → wTs C Φ op es Q ρ σ → WTs (model prog w) C A env op es ρ σ Q
abbrev SEs (prog : Program) (w : World) (C : Cx) (A : Around) (Φ : CallT) (n : Nat) : Prop := ∀ es : List Expr, sizeOf es < n → ∀ sc env Q ρ σ, EnvOk sc env → okEs es sc = true → wEs C Φ es Q ρ σ → WEs (model prog w) C A env es ρ σ Q

theorem sEs_step {n : Nat} (ihE : SE prog w C A Φ n) (ihEs : SEs prog w C A Φ n) : SEs prog w C A Φ (n + 1) := fun es hs sc env Q ρ σ O hok h => by
  cases es with
  | nil => exact wes_nil h
  | cons e r =>
    obtain ⟨h1, h2, h3⟩ := a3 (show (noStar e && okE e sc && okEs r sc) = true from hok)
    have hs := sp (List.cons.sizeOf_spec e r) hs
    exact wes_cons h1 ((ihE e (l2a hs) sc env _ ρ σ O h2 (show wE C Φ e (fun a σ1 => wEs C Φ r (fun as σ2 => Q (a :: as) σ2) ρ σ1) ρ σ from h)).mono fun a σ1 h1 => ihEs r (l2b hs) sc env _ ρ σ1 O h3 h1)

theorem sTs_step {n : Nat} (ihE : SE prog w C A Φ n) (ihT : ST prog w C A Φ n) (ihTs : STs prog w C A Φ n) : STs prog w C A Φ (n + 1) := fun es hs op sc env Q ρ σ O hok h => by
  cases es with
  | nil =>
    cases op with
    | And => exact wts_and_nil h
    | Or => exact wts_or_nil h
  | cons e r =>
    obtain ⟨-, h2, h3⟩ := a3 (show (noStar e && okE e sc && okEs r sc) = true from hok)
    have hs := sp (List.cons.sizeOf_spec e r) hs
    cases op with
    | And =>
      refine wts_and_cons ((ihT e (l2a hs) _ sc env _ ρ σ O h2 (fun Q hq => ihE e (l2a hs) sc env Q ρ σ O h2 hq) (show wT C Φ e (wE C Φ e) (fun b σ1 => if b = true then wTs C Φ .And r Q ρ σ1 else Q false σ1) ρ σ from h)).mono fun b σ1 h1 => ?_)
      cases b with
      | true => exact ihTs r (l2b hs) .And sc env Q ρ σ1 O h3 h1
      | false => exact h1
    | Or =>
      refine wts_or_cons ((ihT e (l2a hs) _ sc env _ ρ σ O h2 (fun Q hq => ihE e (l2a hs) sc env Q ρ σ O h2 hq) (show wT C Φ e (wE C Φ e) (fun b σ1 => if b = true then Q true σ1 else wTs C Φ .Or r Q ρ σ1) ρ σ from h)).mono fun b σ1 h1 => ?_)
      cases b with
      | true => exact h1
      | false => exact ihTs r (l2b hs) .Or sc env Q ρ σ1 O h3 h1

theorem sT_step {n : Nat} (hA : OkA 0 A) (ihE : SE prog w C A Φ n) (ihT : ST prog w C A Φ n) (ihTs : STs prog w C A Φ n) : ST prog w C A Φ (n + 1) := fun e hs whole sc env Q ρ σ O hok hw h => by
  have hu : A.units + 100 < cLine := by have := hA.units; omega
  have plain : (plainTest e = true ∧ whole (fun v σ1 => ∃ b, v = B' b ∧ Q b σ1) ρ σ) → WT (model prog w) C A env e ρ σ Q := fun h => wt_value h.1 (hw _ h.2)
  cases e with
  | UnaryOp op x pos =>
    have hok := a2 (show (unOk op && okE x sc) = true from hok)
    have hs := sp (Expr.UnaryOp.sizeOf_spec op x pos) hs
    cases op with
    | Not => exact wt_not (ihT x (l3b hs) _ sc env _ ρ σ O hok.2 (fun Q hq => ihE x (l3b hs) sc env Q ρ σ O hok.2 hq) (show wT C Φ x (wE C Φ x) (fun b σ1 => Q (!b) σ1) ρ σ from h))
    | _ => exact no (show plainTest (.UnaryOp _ x pos) = true ∧ _ from h).1
  | BoolOp op es pos =>
    have hs := sp (Expr.BoolOp.sizeOf_spec op es pos) hs
    exact wt_boolop (ihTs es (l3b hs) _ sc env _ ρ σ O hok h)
  | Compare l ops rs pos =>
    cases rs with
    | nil => exact no hok
    | cons r rs =>
      cases rs with
      | cons _ _ => exact no hok
      | nil =>
        cases ops with
        | nil => exact no (show plainTest (.Compare l [] [r] pos) = true ∧ _ from h).1
        | cons op ops =>
          cases ops with
          | cons _ _ => exact no (show plainTest (.Compare l _ [r] pos) = true ∧ _ from h).1
          | nil =>
            have hok := a3 (show (notSet r && okE l sc && okE r sc) = true from hok)
            have hs := sp (Expr.Compare.sizeOf_spec l [op] [r] pos) hs
            have hr : sizeOf r < n := by
              have := l4c hs
              rw [List.cons.sizeOf_spec] at this
              omega
            exact wt_cmp hu hok.1 ((ihE l (l4a hs) sc env _ ρ σ O hok.2.1 (show wE C Φ l (fun a σ1 => wE C Φ r (fun b σ2 => ∃ c, cmp op a b σ2 c ∧ Q c σ2) ρ σ1) ρ σ from h)).mono fun a σ1 h1 => ihE r hr sc env _ ρ σ1 O hok.2.2 h1)
  | _ => exact plain h

theorem sE_step {n : Nat} (hB : Base C) (hC : ClsOk C) (hA : OkA 0 A) (hV : Valid prog w C A Φ) (ihE : SE prog w C A Φ n) (ihT : ST prog w C A Φ n) (ihEs : SEs prog w C A Φ n) : SE prog w C A Φ (n + 1) := fun e hs sc env Q ρ σ O hok h => by
  have hu : A.units + 100 < cLine := by have := hA.units; omega
  cases e with
  | Constant c k pos =>
    cases c with
    | int i => exact we_int h
    | str x => exact we_str hok h
    | bool b => exact we_bool h
    | none => exact we_none h
    | _ => exact (show False from h).elim
  | Name x pos =>
    obtain ⟨av, h1, h2⟩ := (show nameP x Q ρ σ from h)
    exact we_name O hok h1 h2
  | Tuple es k pos =>
    have hs := sp (Expr.Tuple.sizeOf_spec es k pos) hs
    exact we_tuple (ihEs es (l3a hs) sc env _ ρ σ O hok h)
  | List es pos =>
    have hs := sp (Expr.List.sizeOf_spec es pos) hs
    exact we_list (ihEs es (l2a hs) sc env _ ρ σ O hok h)
  | Dict ks vs pos =>
    cases ks with
    | cons _ _ => exact (show False from h).elim
    | nil =>
      cases vs with
      | cons _ _ => exact (show False from h).elim
      | nil => exact we_dict h
  | BinOp l op r pos =>
    have hok := a2 (show (okE l sc && okE r sc) = true from hok)
    have hs := sp (Expr.BinOp.sizeOf_spec l op r pos) hs
    exact we_binop ((ihE l (l4a hs) sc env _ ρ σ O hok.1 (show wE C Φ l (fun a σ1 => wE C Φ r (fun b σ2 => binop op a b σ2 Q) ρ σ1) ρ σ from h)).mono fun a σ1 h1 => ihE r (l4c hs) sc env _ ρ σ1 O hok.2 h1)
  | UnaryOp op x pos =>
    have hok := a2 (show (unOk op && okE x sc) = true from hok)
    have hs := sp (Expr.UnaryOp.sizeOf_spec op x pos) hs
    cases op with
    | Not => exact we_not (ihE x (l3b hs) sc env _ ρ σ O hok.2 (show wE C Φ x (fun v σ1 => unP .Not v σ1 Q) ρ σ from h))
    | USub => exact we_neg (ihE x (l3b hs) sc env _ ρ σ O hok.2 (show wE C Φ x (fun v σ1 => unP .USub v σ1 Q) ρ σ from h))
    | Invert => exact no hok.1
    | UAdd => exact no hok.1
  | Compare l ops rs pos =>
    cases rs with
    | nil => exact no hok
    | cons r rs =>
      cases rs with
      | cons _ _ => exact no hok
      | nil =>
        cases ops with
        | nil => exact (show False from h).elim
        | cons op ops =>
          cases ops with
          | cons _ _ => exact (show False from h).elim
          | nil =>
            have hok := a3 (show (notSet r && okE l sc && okE r sc) = true from hok)
            have hs := sp (Expr.Compare.sizeOf_spec l [op] [r] pos) hs
            have hr : sizeOf r < n := by
              have := l4c hs
              rw [List.cons.sizeOf_spec] at this
              omega
            exact we_cmp hu hok.1 ((ihE l (l4a hs) sc env _ ρ σ O hok.2.1 (show wE C Φ l (fun a σ1 => wE C Φ r (fun b σ2 => ∃ c, cmp op a b σ2 c ∧ Q (B' c) σ2) ρ σ1) ρ σ from h)).mono fun a σ1 h1 => ihE r hr sc env _ ρ σ1 O hok.2.2 h1)
  | IfExp t b o pos =>
    have hok := a3 (show (okE t sc && okE b sc && okE o sc) = true from hok)
    have hs := sp (Expr.IfExp.sizeOf_spec t b o pos) hs
    refine we_ifexp ((ihT t (l4a hs) _ sc env _ ρ σ O hok.1 (fun Q hq => ihE t (l4a hs) sc env Q ρ σ O hok.1 hq) (show wT C Φ t (wE C Φ t) (fun c σ1 => if c = true then wE C Φ b Q ρ σ1 else wE C Φ o Q ρ σ1) ρ σ from h)).mono fun c σ1 h1 => ?_)
    cases c with
    | true => exact ihE b (l4b hs) sc env _ ρ σ1 O hok.2.1 h1
    | false => exact ihE o (l4c hs) sc env _ ρ σ1 O hok.2.2 h1
  | Call f args kws pos =>
    have hs := sp (Expr.Call.sizeOf_spec f args kws pos) hs
    cases kws with
    | cons k ks =>
      cases f with
      | Attribute o m ap => cases o <;> exact no hok
      | _ => exact no hok
    | nil =>
      cases f with
      | Name g gp =>
        have hok := a3 (show (isGlob sc g && known g && okEs args sc) = true from hok)
        obtain ⟨v, h1, h2, h3⟩ := known_ok hB hA hV hok.2.1
        exact we_call hB O hok.1 h1 h2 (okEs_noStar hok.2.2) ((ihEs args (l4b hs) sc env _ ρ σ O hok.2.2 (show wEs C Φ args (fun as σ1 => callP Φ g as σ1 Q) ρ σ from h)).mono fun as σ1 hq => h3 as σ1 Q hq)
      | Attribute o m apos =>
        cases o with
        | Name x xp =>
          have hok := a2 (show ((methId m).isSome && decide (args.length < 20) && (apos.endLine == pos.line) && isVar sc x && okEs args sc) = true from hok)
          have hok1 := a4 hok.1
          obtain ⟨id, hid⟩ := Option.isSome_iff_exists.mp hok1.1
          obtain ⟨av, h1, h2, h3⟩ := (show nameP x (fun a σ1 => (∃ n ds, a = .loc n ∧ σ1[n]? = some (.list ds)) ∧ wEs C Φ args (fun as σ2 => meth m a as σ2 Q) ρ σ1) ρ σ from h)
          exact we_method hid (okEs_noStar hok.2) (of_decide_eq_true hok1.2.1) hok1.2.2.1 (we_name O hok1.2.2.2 h1 ⟨h2, ihEs args (l4b hs) sc env _ ρ σ O hok.2 h3⟩)
        | _ => exact no hok
      | _ => exact no hok
  | Attribute o x pos =>
    have hok := a3 (show (baseOk o && codeAttrs.contains x && okE o sc) = true from hok)
    have hs := sp (Expr.Attribute.sizeOf_spec o x pos) hs
    exact we_attr hC hok.1 (by simpa using hok.2.1) (ihE o (l3a hs) sc env _ ρ σ O hok.2.2 (show wE C Φ o (fun v σ1 => attrP v x σ1 Q) ρ σ from h))
  | Subscript o i pos =>
    have hs := sp (Expr.Subscript.sizeOf_spec o i pos) hs
    have plain : notSlice i = true → okE o sc = true ∧ okE i sc = true → wE C Φ o (fun a σ1 => wE C Φ i (fun b σ2 => ∃ r, item a b σ2 r ∧ Q r σ2) ρ σ1) ρ σ → WE (model prog w) C A env (.Subscript o i pos) ρ σ Q := fun hn hok h =>
      we_item hn ((ihE o (l3a hs) sc env _ ρ σ O hok.1 h).mono fun a σ1 h1 => ihE i (l3b hs) sc env _ ρ σ1 O hok.2 h1)
    cases i with
    | Slice lo up st sp' =>
      cases st with
      | some _ => cases lo <;> cases up <;> exact no (show (false && _ && _) = true from hok)
      | none =>
        cases lo with
        | none =>
          cases up with
          | none => exact no (show (false && _ && _) = true from hok)
          | some u =>
            have hok := a2 (show (okE o sc && okE u sc) = true from hok)
            have hs2 : sizeOf u < n := by
              have := l3b hs
              rw [Expr.Slice.sizeOf_spec, Option.some.sizeOf_spec] at this
              omega
            exact we_slice_upto hB ((ihE o (l3a hs) sc env _ ρ σ O hok.1 (show wE C Φ o (fun a σ1 => wE C Φ u (fun b σ2 => ∃ k, b = I' k ∧ sliceUpto C a k σ2 Q) ρ σ1) ρ σ from h)).mono fun a σ1 h1 => ihE u hs2 sc env _ ρ σ1 O hok.2 h1)
        | some u =>
          cases up with
          | some _ => exact no (show (false && _ && _) = true from hok)
          | none =>
            have hok := a2 (show (okE o sc && okE u sc) = true from hok)
            have hs2 : sizeOf u < n := by
              have := l3b hs
              rw [Expr.Slice.sizeOf_spec, Option.some.sizeOf_spec] at this
              omega
            exact we_slice_from ((ihE o (l3a hs) sc env _ ρ σ O hok.1 (show wE C Φ o (fun a σ1 => wE C Φ u (fun b σ2 => ∃ xs k, a = .d (.t xs) ∧ b = I' k ∧ 1 ≤ k ∧ k ≤ xs.length ∧ xs.length ≤ 1000000 ∧ Q (.d (.t (xs.drop k.toNat))) σ2) ρ σ1) ρ σ from h)).mono fun a σ1 h1 => ihE u hs2 sc env _ ρ σ1 O hok.2 h1)
    | _ => exact plain rfl (a3 hok).2 h
  | ListComp elt gens sc' pos =>
    cases gens with
    | nil => exact no hok
    | cons g gs =>
      obtain ⟨tgt, iter, ifs, as_⟩ := g
      cases tgt with
      | Name x xp =>
        cases ifs with
        | cons _ _ => cases gs <;> exact no hok
        | nil =>
          cases as_ with
          | negSucc _ => exact no hok
          | ofNat as_ =>
            cases as_ with
            | succ _ => exact no hok
            | zero =>
              cases gs with
              | nil =>
                simp only [Expr.ListComp.sizeOf_spec, List.cons.sizeOf_spec, List.nil.sizeOf_spec, Comprehension.mk.sizeOf_spec] at hs
                have hok := a4 (show (compOk sc sc' x && notSet iter && okE iter sc && okE elt sc') = true from hok)
                refine we_comp O hA.hh hok.2.1 (compOk_of hok.1) ((ihE iter (by omega) sc env _ ρ σ O hok.2.2.1 (show wE C Φ iter (fun v σ1 => compP sc' x (wE C Φ elt) ρ v σ1 fun acc σ2 => Q (.loc σ2.length) (σ2 ++ [.list acc])) ρ σ from h)).mono fun v σ1 ⟨n, ds, e1, e2, e3, J, j0, j1, j2, j3⟩ => ?_)
                exact ⟨n, ds, e1, e2, e3, J, j0, j1, fun i d acc σ hd hJ env' O' ρ' hx hf => ihE elt (by omega) _ env' _ ρ' σ O' hok.2.2.2 (j2 i d acc σ hd hJ ρ' hx hf), j3⟩
              | cons g2 gs =>
                obtain ⟨tgt2, iter2, ifs2, as2⟩ := g2
                cases tgt2 with
                | Name x2 xp2 =>
                  cases ifs2 with
                  | cons _ _ => exact no hok
                  | nil =>
                    cases as2 with
                    | negSucc _ => exact no hok
                    | ofNat as2 =>
                      cases as2 with
                      | succ _ => exact no hok
                      | zero =>
                        cases gs with
                        | cons _ _ => exact no hok
                        | nil =>
                          simp only [Expr.ListComp.sizeOf_spec, List.cons.sizeOf_spec, List.nil.sizeOf_spec, Comprehension.mk.sizeOf_spec] at hs
                          have hok' := a4 (show ((compOk sc sc' x && decide (sc'.names.lookup x2 = some .local) && decide (x ≠ x2) && notSet iter && notSet iter2) && okE iter sc && okE iter2 sc' && okE elt sc') = true from hok)
                          obtain ⟨h1, h6, h7, h8⟩ := hok'
                          obtain ⟨h1, h3, h4, h5⟩ := a4 h1
                          obtain ⟨h1, h2⟩ := a2 h1
                          refine we_comp2 O hA.hh h4 h5 (compOk_of h1) (of_decide_eq_true h2) (of_decide_eq_true h3) ((ihE iter (by omega) sc env _ ρ σ O h6 (show wE C Φ iter (fun v σ1 => compP2 sc' x x2 (wE C Φ iter2) (wE C Φ elt) ρ v σ1 fun acc σ2 => Q (.loc σ2.length) (σ2 ++ [.list acc])) ρ σ from h)).mono fun v σ1 ⟨n, ds, e1, e2, e3, J, j0, j1, j2, j3⟩ => ?_)
                          exact ⟨n, ds, e1, e2, e3, J, j0, j1, fun i d acc σ hd hJ env' O' ρ' hx hf => (ihE iter2 (by omega) _ env' _ ρ' σ O' h7 (j2 i d acc σ hd hJ ρ' hx hf)).mono fun v2 σ2 ⟨n2, ds2, f1, f2, J2, k0, k1, k2, k3⟩ =>
                            ⟨n2, ds2, f1, f2, J2, k0, k1, fun j d2 acc σ hd2 hJ2 ρ'' hx1 hx2 hf' => ihE elt (by omega) _ env' _ ρ'' σ O' h8 (k2 j d2 acc σ hd2 hJ2 ρ'' hx1 hx2 hf'), k3⟩, j3⟩
                | _ => exact no hok
      | _ => exact no hok
  | BoolOp op es pos => exact (show False from h).elim
  | _ => exact no hok

theorem s_all (hB : Base C) (hC : ClsOk C) (hA : OkA 0 A) (hV : Valid prog w C A Φ) : ∀ n, SE prog w C A Φ n ∧ ST prog w C A Φ n ∧ STs prog w C A Φ n ∧ SEs prog w C A Φ n
  | 0 => ⟨fun _ h => absurd h (Nat.not_lt_zero _), fun _ h => absurd h (Nat.not_lt_zero _), fun _ h => absurd h (Nat.not_lt_zero _), fun _ h => absurd h (Nat.not_lt_zero _)⟩
  | n + 1 => by
    obtain ⟨h1, h2, h3, h4⟩ := s_all hB hC hA hV n
    exact ⟨sE_step hB hC hA hV h1 h2 h4, sT_step hA h1 h2 h3, sTs_step h1 h2 h3, sEs_step h1 h4⟩

theorem wE_ok (hB : Base C) (hC : ClsOk C) (hA : OkA 0 A) (hV : Valid prog w C A Φ) {e : Expr} {sc : Scope} {env : Env} {Q : EP} {ρ : Rho} {σ : Store} (O : EnvOk sc env) (hok : okE e sc = true) (h : wE C Φ e Q ρ σ) : WE (model prog w) C A env e ρ σ Q :=
  (s_all hB hC hA hV (sizeOf e + 1)).1 e (Nat.lt_succ_self _) sc env Q ρ σ O hok h
theorem wT_ok (hB : Base C) (hC : ClsOk C) (hA : OkA 0 A) (hV : Valid prog w C A Φ) {e : Expr} {sc : Scope} {env : Env} {Q : Bool → Store → Prop} {ρ : Rho} {σ : Store} (O : EnvOk sc env) (hok : okE e sc = true) (h : wT C Φ e (wE C Φ e) Q ρ σ) : WT (model prog w) C A env e ρ σ Q :=
  (s_all hB hC hA hV (sizeOf e + 1)).2.1 e (Nat.lt_succ_self _) _ sc env Q ρ σ O hok (fun _ hq => wE_ok hB hC hA hV O hok hq) h

/-! ### statements -/
theorem swb_all (hB : Base C) (hC : ClsOk C) (hA : OkA 0 A) (hV : Valid prog w C A Φ) : ∀ n, (∀ st : Stmt, sizeOf st < n → ∀ sc env Q ρ σ, EnvOk sc env → okS st sc = true → wS C Φ st Q ρ σ → WS (model prog w) C A env st ρ σ Q) ∧
    (∀ sts : List Stmt, sizeOf sts < n → ∀ sc env Q ρ σ, EnvOk sc env → okB sts sc = true → wB C Φ sts Q ρ σ → WB (model prog w) C A env sts ρ σ Q)
  | 0 => ⟨fun _ h => absurd h (Nat.not_lt_zero _), fun _ h => absurd h (Nat.not_lt_zero _)⟩
  | n + 1 => by
    obtain ⟨ihS, ihB⟩ := swb_all hB hC hA hV n
    refine ⟨fun st hs sc env Q ρ σ O hok h => ?_, fun sts hs sc env Q ρ σ O hok h => ?_⟩
    · cases st with
      | Assign ts e pos =>
        cases ts with
        | nil => exact no hok
        | cons t ts =>
          cases ts with
          | cons _ _ => cases t <;> exact no hok
          | nil =>
            cases t with
            | Name x xp =>
              have hok := a2 (show (isOwn sc x && okE e sc) = true from hok)
              have h : wE C Φ e (fun v σ1 => Q .next (upd ρ x v) σ1) ρ σ := h
              by_cases hc : notComp e = true
              · exact ws_assign O hok.1 hc (wE_ok hB hC hA hV O hok.2 h)
              · obtain ⟨hx, he⟩ := hok
                cases e with
                | ListComp elt gens sc' cpos =>
                  cases gens with
                  | nil => exact no he
                  | cons g gs =>
                    obtain ⟨tgt, iter, ifs, as_⟩ := g
                    cases tgt with
                    | Name x xp =>
                      cases ifs with
                      | cons _ _ => cases gs <;> exact no he
                      | nil =>
                        cases as_ with
                        | negSucc _ => exact no he
                        | ofNat as_ =>
                          cases as_ with
                          | succ _ => exact no he
                          | zero =>
                            cases gs with
                            | nil =>
                              have he := a4 (show (compOk sc sc' x && notSet iter && okE iter sc && okE elt sc') = true from he)
                              refine ws_assign_comp O hx hA.hh he.2.1 (compOk_of he.1) ((wE_ok hB hC hA hV O he.2.2.1 (show wE C Φ iter (fun v σ1 => compP sc' x (wE C Φ elt) ρ v σ1 fun acc σ2 => Q .next (upd ρ _ (.loc σ2.length)) (σ2 ++ [.list acc])) ρ σ from h)).mono fun v σ1 ⟨n, ds, e1, e2, e3, J, j0, j1, j2, j3⟩ => ?_)
                              exact ⟨n, ds, e1, e2, e3, J, j0, j1, fun i d acc σ hd hJ env' O' ρ' hx hf => wE_ok hB hC hA hV O' he.2.2.2 (j2 i d acc σ hd hJ ρ' hx hf), j3⟩
                            | cons g2 gs =>
                              obtain ⟨tgt2, iter2, ifs2, as2⟩ := g2
                              cases tgt2 with
                              | Name x2 xp2 =>
                                cases ifs2 with
                                | cons _ _ => exact no he
                                | nil =>
                                  cases as2 with
                                  | negSucc _ => exact no he
                                  | ofNat as2 =>
                                    cases as2 with
                                    | succ _ => exact no he
                                    | zero =>
                                      cases gs with
                                      | cons _ _ => exact no he
                                      | nil =>
                                        obtain ⟨h1, h6, h7, h8⟩ := a4 (show ((compOk sc sc' x && decide (sc'.names.lookup x2 = some .local) && decide (x ≠ x2) && notSet iter && notSet iter2) && okE iter sc && okE iter2 sc' && okE elt sc') = true from he)
                                        obtain ⟨h1, h3, h4, h5⟩ := a4 h1
                                        obtain ⟨h1, h2⟩ := a2 h1
                                        refine ws_assign_comp2 O hx hA.hh h4 h5 (compOk_of h1) (of_decide_eq_true h2) (of_decide_eq_true h3) ((wE_ok hB hC hA hV O h6 (show wE C Φ iter (fun v σ1 => compP2 sc' x x2 (wE C Φ iter2) (wE C Φ elt) ρ v σ1 fun acc σ2 => Q .next (upd ρ _ (.loc σ2.length)) (σ2 ++ [.list acc])) ρ σ from h)).mono fun v σ1 ⟨n, ds, e1, e2, e3, J, j0, j1, j2, j3⟩ => ?_)
                                        exact ⟨n, ds, e1, e2, e3, J, j0, j1, fun i d acc σ hd hJ env' O' ρ' hx hf => (wE_ok hB hC hA hV O' h7 (j2 i d acc σ hd hJ ρ' hx hf)).mono fun v2 σ2 ⟨n2, ds2, f1, f2, J2, k0, k1, k2, k3⟩ =>
                                          ⟨n2, ds2, f1, f2, J2, k0, k1, fun j d2 acc σ hd2 hJ2 ρ'' hx1 hx2 hf' => wE_ok hB hC hA hV O' h8 (k2 j d2 acc σ hd2 hJ2 ρ'' hx1 hx2 hf'), k3⟩, j3⟩
                              | _ => exact no he
                    | _ => exact no he
                | SetComp _ _ _ _ => exact no he
                | DictComp _ _ _ _ _ => exact no he
                | GeneratorExp _ _ _ _ => exact no he
                | _ => exact absurd rfl hc
            | Tuple elts k tp =>
              have hok := a4 (show ((match namesOf elts with | some xs => xs.all (isOwn sc) | none => false) && notComp e && notTuple e && okE e sc) = true from hok)
              obtain ⟨h1, h2, h3, h4⟩ := hok
              have h : wE C Φ e (fun v σ1 => ∃ vs, v = .d (.t vs) ∧ vs.length = ((namesOf elts).getD []).length ∧ Q .next (updS ρ ((namesOf elts).getD []) vs) σ1) ρ σ := h
              cases hxs : namesOf elts with
              | none => rw [hxs] at h1; exact no h1
              | some xs =>
                rw [hxs] at h h1
                exact ws_assign_tuple O hA.hh hxs h1 h2 h3 (wE_ok hB hC hA hV O h4 h)
            | Subscript o i sp' =>
              have hok := a4 (show (notComp e && okE o sc && okE i sc && okE e sc) = true from hok)
              have h : wE C Φ e (fun v σ1 => wE C Φ o (fun a σ2 => wE C Φ i (fun b σ3 => ∃ σ4, setItemV a b v σ3 σ4 ∧ Q .next ρ σ4) ρ σ2) ρ σ1) ρ σ := h
              exact ws_assign_sub hok.1 ((wE_ok hB hC hA hV O hok.2.2.2 h).mono fun v σ1 h => (wE_ok hB hC hA hV O hok.2.1 h).mono fun a σ2 h => wE_ok hB hC hA hV O hok.2.2.1 h)
            | Attribute o x ap =>
              have hok := a4 (show (codeAttrs.contains x && notComp e && okE o sc && okE e sc) = true from hok)
              have h : wE C Φ e (fun v σ1 => wE C Φ o (fun a σ2 => ∃ n m kvs, a = .loc n ∧ σ2[n]? = some (.inst m) ∧ σ2[m]? = some (.attrs kvs) ∧ kvs.length < 1000000 ∧ Q .next ρ (σ2.set m (.attrs ((x, v) :: kvs)))) ρ σ1) ρ σ := h
              exact ws_assign_attr hC (by simpa using hok.1) hok.2.1 ((wE_ok hB hC hA hV O hok.2.2.2 h).mono fun v σ1 h => wE_ok hB hC hA hV O hok.2.2.1 h)
            | _ => exact no hok
      | AugAssign t op e pos =>
        cases t with
        | Name x xp =>
          cases op with
          | Add =>
            have hok := a3 (show (isOwn sc x && isVar sc x && okE e sc) = true from hok)
            obtain ⟨i, hi, h⟩ := (show ∃ i, ρ x = some (I' i) ∧ wE C Φ e (fun v σ1 => ∃ j, v = I' j ∧ Q .next (upd ρ x (I' (i + j))) σ1) ρ σ from h)
            exact ws_aug O hok.1 hok.2.1 ⟨i, hi, wE_ok hB hC hA hV O hok.2.2 h⟩
          | _ => exact (show False from h).elim
        | _ => exact no hok
      | Expr e pos =>
        have hok := a2 (show (notComp e && okE e sc) = true from hok)
        exact ws_expr O hok.1 (wE_ok hB hC hA hV O hok.2 h)
      | If t b o pos =>
        have hok := a3 (show (okE t sc && okB b sc && okB o sc) = true from hok)
        have hs := sp (Stmt.If.sizeOf_spec t b o pos) hs
        refine ws_if ((wT_ok hB hC hA hV O hok.1 (show wT C Φ t (wE C Φ t) (fun c σ1 => if c = true then wB C Φ b Q ρ σ1 else wB C Φ o Q ρ σ1) ρ σ from h)).mono fun c σ1 h1 => ?_)
        cases c with
        | true => exact ihB b (l4b hs) sc env _ ρ σ1 O hok.2.1 h1
        | false => exact ihB o (l4c hs) sc env _ ρ σ1 O hok.2.2 h1
      | While t b o pos =>
        have hs := sp (Stmt.While.sizeOf_spec t b o pos) hs
        cases o with
        | cons _ _ => exact (show False from h).elim
        | nil =>
          have hok := a2 (show (okE t sc && okB b sc) = true from hok)
          obtain ⟨J, n0, hJ, step⟩ := (show whileP (wT C Φ t (wE C Φ t)) (wB C Φ b) Q ρ σ from h)
          refine ws_while ⟨J, n0, hJ, fun n ρ σ hJ => (wT_ok hB hC hA hV O hok.1 (step n ρ σ hJ)).mono fun c σ1 h1 => ?_⟩
          cases c with
          | true => exact (ihB b (l4b hs) sc env _ ρ σ1 O hok.2 h1).mono fun f ρ' σ' h => by cases f <;> exact h
          | false => exact h1
      | For t iter b o pos =>
        have hs := sp (Stmt.For.sizeOf_spec t iter b o pos) hs
        cases t with
        | Name x xp =>
          cases o with
          | cons _ _ => exact (show False from h).elim
          | nil =>
            have hok := a4 (show (isOwn sc x && notSet iter && okE iter sc && okB b sc) = true from hok)
            refine ws_for O hok.1 hA.hh hok.2.1 ((wE_ok hB hC hA hV O hok.2.2.1 (show wE C Φ iter (fun v σ1 => forP x (wB C Φ b) Q ρ v σ1) ρ σ from h)).mono fun v σ1 ⟨ds, hi, J, j0, j1, j2, j3⟩ => ?_)
            exact ⟨ds, hi, J, j0, j1, fun i d ρ σ hd hJ => (ihB b (l5c hs) sc env _ _ σ O hok.2.2.2 (j2 i d ρ σ hd hJ)).mono fun f ρ' σ' h => by cases f <;> exact h, j3⟩
        | _ => exact no hok
      | Return v pos =>
        cases v with
        | none => exact ws_return_none h
        | some e => exact ws_return (wE_ok hB hC hA hV O hok h)
      | Continue pos => exact ws_continue h
      | Pass pos => exact ws_pass h
      | _ => exact no hok
    · cases sts with
      | nil => exact wb_nil h
      | cons st r =>
        have hok := a2 (show (okS st sc && okB r sc) = true from hok)
        have hs := sp (List.cons.sizeOf_spec st r) hs
        refine wb_cons ?_
        have := ihS st (l2a hs) sc env _ ρ σ O hok.1 (show wS C Φ st (seqK (wB C Φ r Q) Q) ρ σ from h)
        exact fun F s I L => wpAny_mono (this F s I L) (fun f s' ⟨af, ρ', σ', F', q, rest⟩ => ⟨af, ρ', σ', F', by cases af <;> first | exact ihB r (l2b hs) sc env Q _ _ O hok.2 q | exact q, rest⟩) fun _ _ x => x

theorem wB_ok (hB : Base C) (hC : ClsOk C) (hA : OkA 0 A) (hV : Valid prog w C A Φ) {sts : List Stmt} {sc : Scope} {env : Env} {Q : SP} {ρ : Rho} {σ : Store} (O : EnvOk sc env) (hok : okB sts sc = true) (h : wB C Φ sts Q ρ σ) : WB (model prog w) C A env sts ρ σ Q :=
  (swb_all hB hC hA hV (sizeOf sts + 1)).2 sts (Nat.lt_succ_self _) sc env Q ρ σ O hok h
end
end Mine

/-! W16 -/
namespace Mine

/-! ### the functions of the text -/
noncomputable def fnS (n : Nat) : Stmt := (PySem.Challenge.pw_nz0472_01.main.body[n]?).getD (.Pass ⟨0, 0, 0, 0⟩)
noncomputable def bodyOf : Stmt → List Stmt
  | .FunctionDef _ _ b _ _ _ _ _ _ _ => b
  | _ => []
noncomputable def scopeOf : Stmt → Scope
  | .FunctionDef _ _ _ _ _ _ s _ _ _ => s
  | _ => { kind := .function, names := [], isGenerator := false, isCoroutine := false }
noncomputable def argsOf : Stmt → List Str
  | .FunctionDef _ a _ _ _ _ _ _ _ _ => a.args.map (·.arg)
  | _ => []
noncomputable def nameOf : Stmt → Str
  | .FunctionDef n _ _ _ _ _ _ _ _ _ => n
  | _ => ""
/-- the one method of the one class -/
noncomputable def initS : Stmt := match fnS 1 with
  | .ClassDef _ _ _ b _ _ _ _ _ _ _ => (b[0]?).getD (.Pass ⟨0, 0, 0, 0⟩)
  | _ => .Pass ⟨0, 0, 0, 0⟩

noncomputable def fnIxs : List (Str × Nat) := [("row_targets", 2), ("with_targets", 3), ("goes_on", 4), ("height_change", 5), ("loop_change", 6), ("target_states", 7), ("greatest_height", 8),
  ("last_target", 10), ("thread_jumps", 11), ("reached_rows", 12), ("target_flags", 13), ("idle_rows", 14), ("sets_visible", 15), ("keep_rows", 16), ("improved", 17), ("optimise", 18),
  ("_law_digits", 20), ("_law_draw", 21), ("_law_rows", 22), ("_law_aims", 23), ("_law_reached", 24), ("_law_kept", 25), ("_law_in_ring", 26), ("_law_idle", 27)]
theorem okB_all : ∀ p ∈ fnIxs, okB (bodyOf (fnS p.2)) (scopeOf (fnS p.2)) = true ∧ scOk (scopeOf (fnS p.2)) (argsOf (fnS p.2)) = true := by decide +kernel
theorem okB_init : okB (bodyOf initS) (scopeOf initS) = true ∧ scOk (scopeOf initS) (argsOf initS) = true := by decide +kernel
theorem okB_law : okB (bodyOf (fnS 28)) (scopeOf (fnS 28)) = true ∧ scOk (scopeOf (fnS 28)) (argsOf (fnS 28)) = true := by decide +kernel
theorem fnNames_ix : fnNames = ("Code" : Str) :: fnIxs.map (fun p => p.1) := by decide +kernel

noncomputable def retQ (Q : EP) : SP
  | .ret v, _, σ => Q v σ
  | .next, _, σ => Q N' σ
  | _, _, _ => False
noncomputable def newQ (n : Nat) (Q : EP) : SP
  | .ret v, _, σ => v = N' ∧ Q (.loc n) σ
  | .next, _, σ => Q (.loc n) σ
  | _, _, _ => False
/-- what a call of a function of the text does, to a depth -/
noncomputable def ΦN (C : Cx) : Nat → CallT
  | 0, _, _, _, _ => False
  | k + 1, f, as, σ, Q => match fnIxs.lookup f with
    | some i => (argsOf (fnS i)).length = as.length ∧ wB C (ΦN C k) (bodyOf (fnS i)) (retQ Q) (bindRho (argsOf (fnS i)) as rho0) σ
    | none => f = "Code" ∧ (argsOf initS).length = as.length + 1 ∧ wB C (ΦN C k) (bodyOf initS) (newQ σ.length Q) (bindRho (argsOf initS) (.loc σ.length :: as) rho0) (σ ++ [.inst (σ.length + 1), .attrs []])

structure Ok (C : Cx) : Prop where
  base : Base C
  cls : ClsOk C
  fns : ∀ p ∈ fnIxs, ∃ a, GV C p.1 (.ref a) ∧ FnAt C a (argsOf (fnS p.2)) (scopeOf (fnS p.2)) (bodyOf (fnS p.2))
  code : GV C "Code" (.ref C.cls)
  init : ∃ a N mN, ClsAt C.h0 C.cls N mN ∧ mN "__init__" = some (.ref a) ∧ (∀ o, C.h0.get? a = some o → o.cls = .type "function") ∧ FnAt C a (argsOf initS) (scopeOf initS) (bodyOf initS)

theorem mem_of_lookup {f : Str} {i : Nat} : ∀ {l : List (Str × Nat)}, l.lookup f = some i → (f, i) ∈ l
  | [], h => by cases h
  | (g, j) :: r, h => by
    rw [List.lookup_cons] at h
    split at h
    · rename_i e
      cases h
      rw [show f = g by simpa using e]
      exact List.mem_cons_self
    · exact List.mem_cons_of_mem _ (mem_of_lookup h)
theorem lookup_of_in {f : Str} : ∀ {l : List (Str × Nat)}, f ∈ l.map (·.1) → ∃ i, l.lookup f = some i
  | [], h => by simp at h
  | (g, j) :: r, h => by
    rw [List.lookup_cons]
    split
    · exact ⟨_, rfl⟩
    · rename_i e
      simp only [List.map_cons, List.mem_cons] at h
      rcases h with h | h
      · rw [h] at e; simp at e
      · exact lookup_of_in h

theorem code_none : fnIxs.lookup ("Code" : Str) = none := by decide +kernel

theorem valid {prog : Program} {w : World} {C : Cx} (H : Ok C) : ∀ (k : Nat) {A : Around}, OkA (2 * k) A → Valid prog w C A (ΦN C k)
  | 0, A, _ => fun f hf => by
    rw [fnNames_ix] at hf
    simp only [List.contains_eq_mem, decide_eq_true_eq, List.mem_cons] at hf
    rcases hf with rfl | hf
    · obtain ⟨a, N, mN, h1, h2, hco, h3⟩ := H.init
      exact ⟨_, H.code, .inr (.inr (.inr ⟨_, N, mN, rfl, h1⟩)), fun as σ Q h => h.elim⟩
    · obtain ⟨i, hi⟩ := lookup_of_in hf
      obtain ⟨a, h1, h2⟩ := H.fns _ (mem_of_lookup hi)
      obtain ⟨o, fd, ho, hd, _⟩ := h2.at_
      exact ⟨_, h1, .inr (.inr (.inl ⟨a, o, fd, rfl, ho, hd⟩)), fun as σ Q h => h.elim⟩
  | k + 1, A, hA => fun f hf => by
    rw [fnNames_ix] at hf
    simp only [List.contains_eq_mem, decide_eq_true_eq, List.mem_cons] at hf
    rcases hf with rfl | hf
    · obtain ⟨a, N, mN, h1, h2, hco, h3⟩ := H.init
      refine ⟨_, H.code, .inr (.inr (.inr ⟨_, N, mN, rfl, h1⟩)), fun as σ Q h => ?_⟩
      unfold ΦN at h
      rw [code_none] at h
      obtain ⟨_, hl, h⟩ := h
      refine call_cls (k := 2 * k) H.base ⟨N, mN, h1, h2⟩ h3 hco (scOk_of okB_init.2) (hA.lt (by omega)) hl fun A' env' hA' O' => ?_
      have := wB_ok (w := w) (prog := prog) H.base H.cls (hA'.lt (Nat.zero_le _)) (valid H k hA') O' okB_init.1 h
      exact this.mono fun f ρ σ q => by cases f <;> exact q
    · obtain ⟨i, hi⟩ := lookup_of_in hf
      obtain ⟨a, h1, h2⟩ := H.fns _ (mem_of_lookup hi)
      have h2' := h2
      obtain ⟨o, fd, ho, hd, _⟩ := h2'.at_
      refine ⟨_, h1, .inr (.inr (.inl ⟨a, o, fd, rfl, ho, hd⟩)), fun as σ Q h => ?_⟩
      unfold ΦN at h
      rw [hi] at h
      obtain ⟨hl, h⟩ := h
      have hok := okB_all _ (mem_of_lookup hi)
      refine call_fn (k := 2 * k + 1) H.base h2 (scOk_of hok.2) (hA.lt (by omega)) hl fun A' env' hA' O' => ?_
      have := wB_ok (w := w) (prog := prog) H.base H.cls (hA'.lt (Nat.zero_le _)) (valid H k (hA'.lt (by omega))) O' hok.1 h
      exact this.mono fun f ρ σ q => by cases f <;> exact q
end Mine

/-! W17 -/
namespace Mine
/-- what of the text the head keeps -/
noncomputable def view : Program := { PySem.Challenge.pw_nz0472_01 with main := { PySem.Challenge.pw_nz0472_01.main with body := [1, 2, 3, 4, 5, 6, 7, 8, 10, 11, 12, 13, 14, 15, 16, 17, 18, 20, 21, 22, 23, 24, 25, 26, 27, 28].map fnS } }
noncomputable def parsOf : Stmt → Arguments
  | .FunctionDef _ a _ _ _ _ _ _ _ _ => a
  | _ => ⟨[], [], none, [], [], none, []⟩
noncomputable def BindOk (st : Stmt) : Prop := ∀ fd : FuncData, fd.defaults = .none → fd.kwdefaults = .none → fd.params = parsOf st → ∀ vals : List Value, vals.length = (argsOf st).length → bindArgs fd ⟨vals, []⟩ = pure ((argsOf st).zip vals)
theorem bind1 {st : Stmt} (h1 : (argsOf st).length = 1) (h : ∀ (n q : Str) (b : FuncBody) (sc : Scope) (g : Addr) (cl : List (Str × Addr)) (doc pm : Value) (an : Option Addr) (cd ct : Value) (bl : Addr) (x : Value),
    bindArgs ⟨n, q, parsOf st, b, sc, g, cl, .none, .none, doc, pm, an, cd, ct, bl⟩ ⟨[x], []⟩ = pure ((argsOf st).zip [x])) : BindOk st := by
  rintro ⟨n, q, ps, b, sc, g, cl, df, kw, doc, pm, an, cd, ct, bl⟩ hd hk hp vals hl
  simp only at hd hk hp
  subst hd hk hp
  rw [h1] at hl
  obtain ⟨x, rfl⟩ := List.length_eq_one_iff.mp hl
  exact h _ _ _ _ _ _ _ _ _ _ _ _ _
theorem bind2 {st : Stmt} (h1 : (argsOf st).length = 2) (h : ∀ (n q : Str) (b : FuncBody) (sc : Scope) (g : Addr) (cl : List (Str × Addr)) (doc pm : Value) (an : Option Addr) (cd ct : Value) (bl : Addr) (x y : Value),
    bindArgs ⟨n, q, parsOf st, b, sc, g, cl, .none, .none, doc, pm, an, cd, ct, bl⟩ ⟨[x, y], []⟩ = pure ((argsOf st).zip [x, y])) : BindOk st := by
  rintro ⟨n, q, ps, b, sc, g, cl, df, kw, doc, pm, an, cd, ct, bl⟩ hd hk hp vals hl
  simp only at hd hk hp
  subst hd hk hp
  rw [h1] at hl
  match vals, hl with
  | [x, y], _ => exact h _ _ _ _ _ _ _ _ _ _ _ _ _ _
theorem bind3 {st : Stmt} (h1 : (argsOf st).length = 3) (h : ∀ (n q : Str) (b : FuncBody) (sc : Scope) (g : Addr) (cl : List (Str × Addr)) (doc pm : Value) (an : Option Addr) (cd ct : Value) (bl : Addr) (x y z : Value),
    bindArgs ⟨n, q, parsOf st, b, sc, g, cl, .none, .none, doc, pm, an, cd, ct, bl⟩ ⟨[x, y, z], []⟩ = pure ((argsOf st).zip [x, y, z])) : BindOk st := by
  rintro ⟨n, q, ps, b, sc, g, cl, df, kw, doc, pm, an, cd, ct, bl⟩ hd hk hp vals hl
  simp only at hd hk hp
  subst hd hk hp
  rw [h1] at hl
  match vals, hl with
  | [x, y, z], _ => exact h _ _ _ _ _ _ _ _ _ _ _ _ _ _ _
theorem bind_init : BindOk initS := bind2 rfl fun _ _ _ _ _ _ _ _ _ _ _ _ _ _ => rfl
theorem bind_law : BindOk (fnS 28) := bind1 rfl fun _ _ _ _ _ _ _ _ _ _ _ _ _ => rfl
theorem bind_ix : ∀ p ∈ fnIxs, BindOk (fnS p.2) := by
  simp only [fnIxs, List.forall_mem_cons, List.not_mem_nil, false_implies, implies_true, and_true]
  refine ⟨?_, ?_, ?_, ?_, ?_, ?_, ?_, ?_, ?_, ?_, ?_, ?_, ?_, ?_, ?_, ?_, ?_, ?_, ?_, ?_, ?_, ?_, ?_, ?_⟩
  all_goals first
    | exact bind1 rfl fun _ _ _ _ _ _ _ _ _ _ _ _ _ => rfl
    | exact bind2 rfl fun _ _ _ _ _ _ _ _ _ _ _ _ _ _ => rfl
    | exact bind3 rfl fun _ _ _ _ _ _ _ _ _ _ _ _ _ _ _ => rfl

noncomputable def toDef (st : Stmt) : DefRec := ⟨nameOf st, parsOf st, bodyOf st, scopeOf st, match st with | .FunctionDef _ _ _ _ _ _ _ _ _ p => p | _ => ⟨0, 0, 0, 0⟩⟩
theorem recs_is : recsOf view = (fnIxs.map fun p => toDef (fnS p.2)) ++ [toDef (fnS 28)] := by rfl
theorem names_is : ∀ p ∈ fnIxs, nameOf (fnS p.2) = p.1 := by decide +kernel
theorem argsOf_pars (st : Stmt) : argsOf st = (parsOf st).args.map (·.arg) := by cases st <;> rfl

theorem fnAt_of {C : Cx} {p : Program} {loose : List Str} {mean : ExcName → Option Value} (T : Top p loose mean C.mg C.mb C.h0) {st : Stmt} (hm : toDef st ∈ recsOf p) (hb : BindOk st) :
    ∃ a, C.mg (nameOf st) = some (.ref a) ∧ FnAt C a (argsOf st) (scopeOf st) (bodyOf st) := by
  obtain ⟨a, o, pm, code, doc, h1, h2, h3, h4⟩ := T.fn _ hm
  exact ⟨a, h1, ⟨o, _, h2, h3, h4, rfl, rfl, rfl, rfl, rfl, fun vals hl => hb _ rfl rfl rfl vals hl⟩⟩

theorem plains_is : (plainsOf view (looseW view []))[0]?.map (fun d => (d.name, d.meths)) = some (("Code" : Str), [⟨nameOf initS, parsOf initS, bodyOf initS, scopeOf initS⟩]) := by rfl
theorem plains_quiet : ((plainsOf view (looseW view [])).all (fun d => (("__setattr__" : Str) :: ("__getattribute__" : Str) :: codeAttrs).all fun x => d.withCmp.quiet.contains x)) = true := by decide +kernel
theorem init_name : nameOf initS = ("__init__" : Str) := by decide +kernel
theorem free_bi : (["len", "abs", "max", "sorted", "list", "range"] : List Str).all (fun x => !startupNames.contains x && !(looseW view []).contains x && !((recsOf view).map (fun d => d.name)).contains x && !((litsOf view).map (fun d => d.1)).contains x && !((clssOf view (looseW view [])).map (fun d => d.name)).contains x) = true := by decide +kernel
theorem bi_len : bootBuiltins "len" = some (.builtin "len") := by rfl
theorem bi_abs : bootBuiltins "abs" = some (.builtin "abs") := by rfl
theorem bi_max : bootBuiltins "max" = some (.builtin "max") := by rfl
theorem bi_sorted : bootBuiltins "sorted" = some (.builtin "sorted") := by rfl
theorem bi_list : bootBuiltins "list" = some (.type "list") := by rfl
theorem bi_range : bootBuiltins "range" = some (.type "range") := by rfl
theorem bi_mem {x : Str} {v : Value} (h : bi x = some v) : x ∈ (["len", "abs", "max", "sorted", "list", "range"] : List Str) ∧ bootBuiltins x = some v ∧ x ≠ "__name__" := by
  unfold bi at h
  split at h
  · rename_i e; cases h; subst e; exact ⟨by decide, bi_len, by decide⟩
  split at h
  · rename_i e; cases h; subst e; exact ⟨by decide, bi_abs, by decide⟩
  split at h
  · rename_i e; cases h; subst e; exact ⟨by decide, bi_max, by decide⟩
  split at h
  · rename_i e; cases h; subst e; exact ⟨by decide, bi_sorted, by decide⟩
  split at h
  · rename_i e; cases h; subst e; exact ⟨by decide, bi_list, by decide⟩
  split at h
  · rename_i e; cases h; subst e; exact ⟨by decide, bi_range, by decide⟩
  cases h

theorem law_post (args : List WData) : PySem.Challenge.rw_nz0472_01.row.claim.post args (.bool true) args = true := by
  refine postW_of (r := PySem.Challenge.rw_nz0472_01.row.toRowW) (X := true) rfl ?_ rfl
  wtm_val
theorem okA_caller : OkA 15 callerA := ⟨rfl, by decide, by decide⟩

set_option maxRecDepth 100000 in
set_option maxHeartbeats 8000000 in
theorem link (hlaw : ∀ C : Cx, C.ns.length ≤ 63 → wB C (ΦN C 7) (bodyOf (fnS 28)) (retQ fun v _ => v = B' true) (bindRho (argsOf (fnS 28)) [.scr] rho0) []) :
    WalkO view [] (XL view []) Hook.none.says PySem.Challenge.rw_nz0472_01.row.toRowW (toDef (fnS 28)) [] (fun f vs => PySem.call f vs) := by
  intro w s₀ s₁ mg mb G Y fa o pm cd doc dV kV ho hd hcd hD hmg hg args vals as hpre hlay hrd hwl hlo
  refine Ground.open G ?_
  intro T B D TE TW
  clear B D TW Y ho hd hcd hD
  wrow_args hpre hlay hrd hwl hlo
  rename_i ns _ _ _ _ _ _ _ la vs _ hL _ _ _ hI _ hlen _
  have hns : ns.length ≤ 63 := by omega
  have hpl := plains_is
  obtain ⟨c0, hc0, hce⟩ := Option.map_eq_some_iff.mp hpl
  have hcm := List.mem_of_getElem? hc0
  obtain ⟨Ca, N, mN, hcn, P⟩ := TE c0 hcm
  obtain ⟨hn0, hme⟩ := Prod.mk.inj hce
  let C : Cx := ⟨s₁.heap, s₁.os, la, ns, Ca, mg, mb⟩
  have hq := List.all_eq_true.mp (List.all_eq_true.mp plains_quiet c0 hcm)
  have qn : ∀ x ∈ (("__setattr__" : Str) :: ("__getattribute__" : Str) :: codeAttrs), mN x = none := fun x hx => P.quiet x (by simpa using hq x hx)
  have hB : Base C := ⟨T.g, T.b, T.nolimit, ⟨vs, hL, hI, hns⟩, fun x v hv => by
    obtain ⟨h1, h2, h3⟩ := bi_mem hv
    have hf := List.all_eq_true.mp free_bi x h1
    simp only [Bool.and_eq_true, Bool.not_eq_true', List.contains_eq_mem, decide_eq_false_iff_not] at hf
    obtain ⟨⟨⟨⟨f1, f2⟩, f3⟩, f4⟩, f5⟩ := hf
    exact ⟨T.free x f1 f2 f3 f4 f5, (T.builtins x h3).trans h2⟩⟩
  have hC : ClsOk C := ⟨N, mN, P.cls, qn _ (by simp), qn _ (by simp), fun x hx => qn x (by simp [hx])⟩
  have hin : ∀ p ∈ fnIxs, toDef (fnS p.2) ∈ recsOf view := fun p hp => by
    rw [recs_is]
    exact List.mem_append_left _ (List.mem_map.mpr ⟨p, hp, rfl⟩)
  have H : Ok C := by
    refine ⟨hB, hC, fun p hp => ?_, .inl (by rw [← hn0]; exact hcn), ?_⟩
    · obtain ⟨a, h1, h2⟩ := fnAt_of (C := C) T (hin p hp) (bind_ix p hp)
      exact ⟨a, .inl (by rw [← names_is p hp]; exact h1), h2⟩
    · have hmm : (⟨nameOf initS, parsOf initS, bodyOf initS, scopeOf initS⟩ : MethRec) ∈ c0.withCmp.meths := by
        show _ ∈ c0.meths
        rw [hme]; exact List.mem_cons_self
      obtain ⟨f, of, pm', cd', doc', h1, h2, h3, h4, h5⟩ := P.meths _ hmm
      refine ⟨f, N, mN, P.cls, by rw [← init_name]; exact h1, fun o ho => ?_, ⟨of, _, h2, h4, h5, rfl, rfl, rfl, rfl, rfl, fun vals hl => bind_init _ rfl rfl rfl vals hl⟩⟩
      rw [h2] at ho; cases ho; exact h3
  obtain ⟨a, h1, h2⟩ := fnAt_of (C := C) T (st := fnS 28) (by rw [recs_is]; simp) bind_law
  obtain rfl : a = fa := by
    have := h1.symm.trans hmg
    injection this with q; injection q
  have I0 : Inv C [] [] s₁ := ⟨fun _ _ e => e, fun _ m => (nomatch m), List.nodup_nil, rfl, fun n ao a e => by simp at e, hg, rfl⟩
  have hcall := call_fn (prog := PySem.Challenge.rw_nz0472_01.row.prog) (w := w) (k := 14) (A := callerA) (σ := []) (as := [.scr]) (Q := fun v _ => v = B' true) H.base h2 (scOk_of okB_law.2) okA_caller rfl (fun A' env' hA' O' =>
    (wB_ok (w := w) (prog := PySem.Challenge.rw_nz0472_01.row.prog) H.base H.cls (hA'.lt (Nat.zero_le _)) (valid H 7 hA') O' okB_law.1 (hlaw C hns)).mono fun f ρ σ q => by cases f <;> exact q)
  refine wpAny_mono (hcall [] s₁ [.ref la] I0 ⟨_, _, rfl, rfl, rfl⟩) (fun v s' hv => ?_) fun _ _ x => x.elim
  obtain ⟨av, σ', F', rfl, r, I', m'⟩ := hv
  obtain rfl := rep_bool_inv r
  refine GoodW.toG ⟨.inl ⟨_, .bool true, [], rfl, ?_, ?_, ?_, ?_⟩, fun b o e => I'.base b o e, I'.os, I'.gens⟩
  · exact raisesW_false allW_false_nil
  · exact .bool true
  · exact law_post _
  · exact fun _ => ⟨.nil, fun _ h => nomatch h⟩
end Mine

/-! W32 -/
namespace Mine

/-! ### the head: the opening as the library has it laid, the top's run from there by the kernel, over the library's quick twins -/
abbrev pw := PySem.Challenge.pw_nz0472_01
set_option maxRecDepth 100000 in
theorem opens : ∀ w : World, (fencedOpening treeTable pw w 2164).map (fun s => (s.heap, s.gens, s.drawn, s.toks)) = some (boot_heap w.params, Array.mk [], boot_drawn, boot_toks) :=
  boot_open (by kernel_rfl) (by rfl) (fun s => by kernel_rfl)
noncomputable abbrev rowN : OpenRow := PySem.Challenge.rw_nz0472_01.row
noncomputable abbrev Xt0 : Shared → Bool := fun s => xlAt view [] s && recOk (RowW.records rowN.toRowW) s
set_option maxRecDepth 100000 in
theorem top_end (w : World) (os : OsState) : (topFrom treeTable pw w 2164 ⟨boot_heap w.params, Array.mk [], boot_drawn, boot_toks, os⟩).map
    (fun s => (openSeen view [] (importedModules pw.main.body) Xt0 true s, Hook.obs Hook.none s)) = some (openGood view [], Hook.val Hook.none w) := by
  unfold topFrom
  first
    | (rw [PySem.W.Fast.te14082659384304107361, PySem.W.Fast.te14364793385576792824, PySem.W.Fast.te8920871248978507458, PySem.W.Fast.te4187177175401517315]; kernel_rfl)
    | kernel_rfl
set_option maxRecDepth 100000 in
theorem left : LeftO pw view [] Xt0 (Hook.obs Hook.none) (Hook.val Hook.none) 2164 := fun w => by
  obtain ⟨⟨h, g, d, t, os⟩, hs, hv⟩ := Option.map_eq_some_iff.mp (opens w)
  obtain ⟨rfl, hv⟩ := Prod.mk.inj hv
  obtain ⟨rfl, hv⟩ := Prod.mk.inj hv
  obtain ⟨rfl, rfl⟩ := Prod.mk.inj hv
  unfold openEnds
  rw [hs, Option.bind_some]
  exact top_end w os
set_option maxRecDepth 100000 in
set_option maxHeartbeats 8000000 in
theorem head (call : WalkO view [] (XL view []) Hook.none.says PySem.Challenge.rw_nz0472_01.row.toRowW (toDef (fnS 28)) [] (fun f vs => PySem.call f vs)) : PySem.Challenge.rw_nz0472_01.Holds := by
  w_on
  o_law
  refine holds_open (q := view) (loose := []) (Xt := Xt0) (XP := XL view []) (Yf := Hook.obs Hook.none) (Ya := Hook.val Hook.none) (YP := Hook.says Hook.none) (N := 2164) (d := toDef (fnS 28)) (kwd := []) left (Hook.of Hook.none) (Hook.keeps Hook.none) (fun s e => xl_of s (Bool.and_eq_true_iff.mp e).1) XL.keeps (by rfl) (by rfl) (by rfl) (fun s e => recFacts_of (Bool.and_eq_true_iff.mp e).2) (by rfl) (by first | assumption | decide +kernel) (by decide +kernel) ⟨rfl, rfl, rfl, rfl, rfl, by decide +kernel⟩ ?hw ?hc
  case hw => w_witness2
  case hc => exact call
end Mine

/-! W18 -/
namespace Mine

theorem ofString_inj {a b : String} : (Str.ofString a = Str.ofString b) ↔ a = b := by
  constructor
  · intro h
    rw [Str.ofString_eq_toList, Str.ofString_eq_toList] at h
    injection h with h
    have h2 := Array.toList_inj.mpr h
    simp at h2
    have h3 : a.toList = b.toList := by
      have : Function.Injective Char.toNat := fun x y e => Char.ext (UInt32.toNat_inj.mp e)
      exact List.map_inj_right (fun x y e => this e) |>.mp h2
    exact String.toList_inj.mp h3
  · rintro rfl; rfl

/-! ### stores that grow -/
noncomputable def Ext (σ σ' : Store) : Prop := ∀ (n : Nat) (o : AO), σ[n]? = some o → σ'[n]? = some o
theorem Ext.refl (σ : Store) : Ext σ σ := fun _ _ e => e
theorem Ext.trans {σ σ' σ'' : Store} (x : Ext σ σ') (y : Ext σ' σ'') : Ext σ σ'' := fun n o e => y n o (x n o e)
theorem lt_of_get {α : Type} {l : List α} {n : Nat} {o : α} (e : l[n]? = some o) : n < l.length := by
  rcases Nat.lt_or_ge n l.length with q | q
  · exact q
  · rw [List.getElem?_eq_none q] at e; cases e
theorem get_app {σ τ : Store} {n : Nat} {o : AO} (e : σ[n]? = some o) : (σ ++ τ)[n]? = some o := by
  rw [List.getElem?_append_left (lt_of_get e)]; exact e
theorem get_new (σ : Store) (o : AO) : (σ ++ [o])[σ.length]? = some o := by simp
theorem get_set {σ : Store} {n : Nat} {o o' : AO} (e : σ[n]? = some o) : (σ.set n o')[n]? = some o' := by
  rw [List.getElem?_set_self (lt_of_get e)]
theorem get_set_ne {σ : Store} {n m : Nat} {o o' : AO} (e : σ[n]? = some o) (h : m ≠ n) : (σ.set m o')[n]? = some o := by
  rw [List.getElem?_set_ne h]; exact e
theorem Ext.app {σ σ' : Store} (x : Ext σ σ') (τ : Store) : Ext σ (σ' ++ τ) := fun n o e => get_app (x n o e)
theorem Ext.set {σ σ' : Store} {n : Nat} {o : AO} (x : Ext σ σ') (h : σ.length ≤ n) : Ext σ (σ'.set n o) := fun m o' e => get_set_ne (x m o' e) (by have := lt_of_get e; omega)
theorem Ext.len {σ σ' : Store} (x : Ext σ σ') : σ.length ≤ σ'.length := by
  rcases Nat.eq_zero_or_pos σ.length with q | q
  · omega
  · have e : σ[σ.length - 1]? = some (σ[σ.length - 1]'(by omega)) := List.getElem?_eq_getElem _
    have := lt_of_get (x _ _ e)
    omega

/-! ### rows -/
inductive Ins where
  | const (k : Int)
  | drop
  | jump (t : Nat)
  | unless (t : Nat)
  | guard (t : Nat)
  | vis
  | invis
  | set (i : Int)
  | ret
  | fin
  deriving DecidableEq

noncomputable def Ins.d : Ins → D
  | .const k => .t [.str "const", .int k]
  | .drop => .t [.str "drop", .int 1]
  | .jump t => .t [.str "jump", .int t]
  | .unless t => .t [.str "unless", .int t, .int 0]
  | .guard t => .t [.str "guard", .str "f", .int t]
  | .vis => .t [.str "visible"]
  | .invis => .t [.str "invisible"]
  | .set i => .t [.str "set", .str "x", .int i]
  | .ret => .t [.str "return"]
  | .fin => .t [.str "end"]
noncomputable def Ins.tg : Ins → Option Nat
  | .jump t | .unless t | .guard t => some t
  | _ => none
noncomputable def Ins.tgs (i : Ins) : List Nat := i.tg.toList
noncomputable def Ins.setT : Ins → Nat → Ins
  | .jump _, t => .jump t
  | .unless _, t => .unless t
  | .guard _, t => .guard t
  | i, _ => i
noncomputable def Ins.on : Ins → Bool
  | .jump _ | .ret | .fin => false
  | _ => true

theorem phi_call {C : Cx} {k : Nat} {f : Str} {i : Nat} {as : List AV} {σ : Store} {Q : EP} (h : fnIxs.lookup f = some i) (hl : (argsOf (fnS i)).length = as.length)
    (hw : wB C (ΦN C k) (bodyOf (fnS i)) (retQ Q) (bindRho (argsOf (fnS i)) as rho0) σ) : ΦN C (k + 1) f as σ Q := by
  unfold ΦN
  rw [h]
  exact ⟨hl, hw⟩
theorem callP_fn {Φ : CallT} {f : Str} {as : List AV} {σ : Store} {Q : EP} (h : (bi f).isSome = false) (hw : Φ f as σ Q) : callP Φ f as σ Q := by
  unfold callP
  rw [if_neg (by rw [h]; simp)]
  exact hw
theorem callP_bi {Φ : CallT} {f : Str} {as : List AV} {σ : Store} {Q : EP} (h : (bi f).isSome = true) (hw : bcall f as σ Q) : callP Φ f as σ Q := by
  unfold callP
  rw [if_pos h]
  exact hw

noncomputable def iDs (l : List Nat) : List D := l.map fun (n : Nat) => iD (n : Int)


/-! ### what the functions compute, in plain words -/
abbrev Rows := List Ins
noncomputable def chase (rows : Rows) : Nat → List Nat → Nat → Nat
  | 0, _, t => t
  | n + 1, seen, t => match rows[t]? with
    | some (.jump u) => if t ∈ seen then t else chase rows n (t :: seen) u
    | _ => t
noncomputable def lastT (rows : Rows) (t : Nat) : Nat := chase rows (rows.length + 1) [] t
noncomputable def Ins.thr (rows : Rows) (i : Ins) : Ins := match i.tg with
  | some t => i.setT (lastT rows t)
  | none => i
noncomputable def threadR (rows : Rows) : Rows := rows.map (Ins.thr rows)
noncomputable def succs (i : Ins) (n : Nat) : List Nat := i.tgs ++ if i.on = true then [n + 1] else []
inductive Reach (rows : Rows) : Nat → Prop where
  | zero : Reach rows 0
  | step {n m : Nat} {i : Ins} : Reach rows n → rows[n]? = some i → m ∈ succs i n → Reach rows m
open Classical in
noncomputable def reachB (rows : Rows) : List Bool := (List.range rows.length).map fun n => decide (Reach rows n)
noncomputable def place (kept : List Bool) (n : Nat) : Nat := (kept.take n).count true
noncomputable def Ins.mv (kept : List Bool) (i : Ins) : Ins := match i.tg with
  | some t => i.setT (place kept t)
  | none => i
noncomputable def keepR (rows : Rows) (kept : List Bool) : Rows := (rows.zip kept).filterMap fun p => if p.2 = true then some (p.1.mv kept) else none
noncomputable def aims (rows : Rows) : List Nat := rows.flatMap Ins.tgs
noncomputable def sv : Ins → Bool
  | .vis | .invis | .const _ => true
  | _ => false
noncomputable def vi : Ins → Bool
  | .vis | .invis => true
  | _ => false
noncomputable def isC : Ins → Bool
  | .const _ => true
  | _ => false
noncomputable def idleL (am : List Nat) : Nat → Rows → List Bool
  | n, a :: b :: r => if (isC a && decide (b = .drop) && !decide (n + 1 ∈ am)) = true then true :: true :: idleL am (n + 2) r
      else (decide (a = .jump (n + 1)) || (vi a && sv b && !decide (n + 1 ∈ am))) :: idleL am (n + 1) (b :: r)
  | _, [_] => [false]
  | _, [] => []
noncomputable def idleR (rows : Rows) : List Bool := idleL (aims rows) 0 rows
noncomputable def improvedR (rows : Rows) : Rows :=
  keepR (keepR (threadR rows) (reachB (threadR rows))) ((idleR (keepR (threadR rows) (reachB (threadR rows)))).map not)
/-- rows whose ways stay in the rows -/
structure Vd (rows : Rows) : Prop where
  ne : rows ≠ []
  tg : ∀ (n : Nat) (i : Ins), rows[n]? = some i → ∀ t ∈ i.tgs, t < rows.length
  on : ∀ (n : Nat) (i : Ins), rows[n]? = some i → i.on = true → n + 1 < rows.length
noncomputable def RL (σ : Store) (n : Nat) (rows : Rows) : Prop := σ[n]? = some (.list (rows.map Ins.d))
theorem RL.ext {σ σ' : Store} {n : Nat} {rows : Rows} (h : RL σ n rows) (x : Ext σ σ') : RL σ' n rows := x _ _ h
theorem RL.get {rows : Rows} {i : Nat} {d : D} (h : (rows.map Ins.d)[i]? = some d) : ∃ r, rows[i]? = some r ∧ d = r.d := by
  rw [List.getElem?_map] at h
  obtain ⟨r, hr, e⟩ := Option.map_eq_some_iff.mp h
  exact ⟨r, hr, e.symm⟩
theorem RL.at {rows : Rows} {i : Nat} {r : Ins} (h : rows[i]? = some r) : (rows.map Ins.d)[i]? = some r.d := by rw [List.getElem?_map, h]; rfl
theorem d_nb (i : Ins) : i.d.nb = true := by cases i <;> rfl
theorem ds_nb (rows : Rows) : (rows.map Ins.d).all D.nb = true := by simp [d_nb]
theorem d_inj {a b : Ins} : a.d = b.d ↔ a = b := by
  constructor
  · intro h
    cases a <;> cases b <;> simp [Ins.d, ofString_inj] at h <;> first | rfl | (simp [h]; done) | (simp; omega)
  · rintro rfl; rfl
end Mine

/-! W18b -/
namespace Mine
section
variable {C : Cx} {Φ : CallT} {Q : EP} {ρ : Rho} {σ : Store} {K : SP} {QB : Bool → Store → Prop} {QL : List AV → Store → Prop}
theorem wE_int {i k p} : wE C Φ (.Constant (.int i) k p) Q ρ σ = Q (I' i) σ := rfl
theorem wE_str {x k p} : wE C Φ (.Constant (.str x) k p) Q ρ σ = Q (S' x) σ := rfl
theorem wE_bool {b k p} : wE C Φ (.Constant (.bool b) k p) Q ρ σ = Q (B' b) σ := rfl
theorem wE_none {k p} : wE C Φ (.Constant .none k p) Q ρ σ = Q N' σ := rfl
theorem wE_name {x p} : wE C Φ (.Name x p) Q ρ σ = ∃ av, ρ x = some av ∧ Q av σ := rfl
theorem wE_tuple {es k p} : wE C Φ (.Tuple es k p) Q ρ σ = wEs C Φ es (fun as σ1 => as.length ≤ 1000000 ∧ ∃ xs, scalars as = some xs ∧ Q (.d (.t xs)) σ1) ρ σ := rfl
theorem wE_list {es p} : wE C Φ (.List es p) Q ρ σ = wEs C Φ es (fun as σ1 => as.length ≤ 1000000 ∧ ∃ xs, datas as = some xs ∧ Q (.loc σ1.length) (σ1 ++ [.list xs])) ρ σ := rfl
theorem wE_dict {p} : wE C Φ (.Dict [] [] p) Q ρ σ = Q (.loc σ.length) (σ ++ [.dict []]) := rfl
theorem wE_bin {l op r p} : wE C Φ (.BinOp l op r p) Q ρ σ = wE C Φ l (fun a σ1 => wE C Φ r (fun b σ2 => binop op a b σ2 Q) ρ σ1) ρ σ := rfl
theorem wE_not {x p} : wE C Φ (.UnaryOp .Not x p) Q ρ σ = wE C Φ x (fun v σ1 => ∃ b, v = B' b ∧ Q (B' (!b)) σ1) ρ σ := rfl
theorem wE_neg {x p} : wE C Φ (.UnaryOp .USub x p) Q ρ σ = wE C Φ x (fun v σ1 => ∃ i, v = I' i ∧ Q (I' (-i)) σ1) ρ σ := rfl
theorem wE_cmp {l op r p} : wE C Φ (.Compare l [op] [r] p) Q ρ σ = wE C Φ l (fun a σ1 => wE C Φ r (fun b σ2 => ∃ c, cmp op a b σ2 c ∧ Q (B' c) σ2) ρ σ1) ρ σ := rfl
theorem wE_if {t b o p} : wE C Φ (.IfExp t b o p) Q ρ σ = wT C Φ t (wE C Φ t) (fun c σ1 => if c = true then wE C Φ b Q ρ σ1 else wE C Φ o Q ρ σ1) ρ σ := rfl
theorem wE_call {g gp args p} : wE C Φ (.Call (.Name g gp) args [] p) Q ρ σ = wEs C Φ args (fun as σ1 => callP Φ g as σ1 Q) ρ σ := rfl
theorem wE_meth {x xp m mp args p} : wE C Φ (.Call (.Attribute (.Name x xp) m mp) args [] p) Q ρ σ = ∃ av, ρ x = some av ∧ (∃ n ds, av = .loc n ∧ σ[n]? = some (.list ds)) ∧ wEs C Φ args (fun as σ2 => meth m av as σ2 Q) ρ σ := rfl
theorem wE_attr {e x p} : wE C Φ (.Attribute e x p) Q ρ σ = wE C Φ e (fun v σ1 => attrP v x σ1 Q) ρ σ := rfl
theorem wE_to {e u p q} : wE C Φ (.Subscript e (.Slice none (some u) none p) q) Q ρ σ = wE C Φ e (fun a σ1 => wE C Φ u (fun b σ2 => ∃ k, b = I' k ∧ sliceUpto C a k σ2 Q) ρ σ1) ρ σ := rfl
theorem wE_from {e u p q} : wE C Φ (.Subscript e (.Slice (some u) none none p) q) Q ρ σ = wE C Φ e (fun a σ1 => wE C Φ u (fun b σ2 => ∃ xs k, a = .d (.t xs) ∧ b = I' k ∧ 1 ≤ k ∧ k ≤ xs.length ∧ xs.length ≤ 1000000 ∧ Q (.d (.t (xs.drop k.toNat))) σ2) ρ σ1) ρ σ := rfl
theorem wE_subC {e c k p q} : wE C Φ (.Subscript e (.Constant c k p) q) Q ρ σ = wE C Φ e (fun a σ1 => wE C Φ (.Constant c k p) (fun b σ2 => ∃ r, item a b σ2 r ∧ Q r σ2) ρ σ1) ρ σ := rfl
theorem wE_subN {e x p q} : wE C Φ (.Subscript e (.Name x p) q) Q ρ σ = wE C Φ e (fun a σ1 => wE C Φ (.Name x p) (fun b σ2 => ∃ r, item a b σ2 r ∧ Q r σ2) ρ σ1) ρ σ := rfl
theorem wE_subB {e l op r p q} : wE C Φ (.Subscript e (.BinOp l op r p) q) Q ρ σ = wE C Φ e (fun a σ1 => wE C Φ (.BinOp l op r p) (fun b σ2 => ∃ r, item a b σ2 r ∧ Q r σ2) ρ σ1) ρ σ := rfl
theorem wE_subU {e op x p q} : wE C Φ (.Subscript e (.UnaryOp op x p) q) Q ρ σ = wE C Φ e (fun a σ1 => wE C Φ (.UnaryOp op x p) (fun b σ2 => ∃ r, item a b σ2 r ∧ Q r σ2) ρ σ1) ρ σ := rfl
theorem wE_comp {elt x xp iter sc p} : wE C Φ (.ListComp elt [⟨.Name x xp, iter, [], 0⟩] sc p) Q ρ σ = wE C Φ iter (fun v σ1 => compP sc x (wE C Φ elt) ρ v σ1 fun acc σ2 => Q (.loc σ2.length) (σ2 ++ [.list acc])) ρ σ := rfl
theorem wE_comp2 {elt x1 xp1 iter1 x2 xp2 iter2 sc p} : wE C Φ (.ListComp elt [⟨.Name x1 xp1, iter1, [], 0⟩, ⟨.Name x2 xp2, iter2, [], 0⟩] sc p) Q ρ σ = wE C Φ iter1 (fun v σ1 => compP2 sc x1 x2 (wE C Φ iter2) (wE C Φ elt) ρ v σ1 fun acc σ2 => Q (.loc σ2.length) (σ2 ++ [.list acc])) ρ σ := rfl
theorem wT_not {x p W} : wT C Φ (.UnaryOp .Not x p) W QB ρ σ = wT C Φ x (wE C Φ x) (fun b σ1 => QB (!b) σ1) ρ σ := rfl
theorem wT_bool {op es p W} : wT C Φ (.BoolOp op es p) W QB ρ σ = wTs C Φ op es QB ρ σ := rfl
theorem wT_cmp {l op r p W} : wT C Φ (.Compare l [op] [r] p) W QB ρ σ = wE C Φ l (fun a σ1 => wE C Φ r (fun b σ2 => ∃ c, cmp op a b σ2 c ∧ QB c σ2) ρ σ1) ρ σ := rfl
theorem wT_name {x p W} : wT C Φ (.Name x p) W QB ρ σ = (true = true ∧ W (fun v σ1 => ∃ b, v = B' b ∧ QB b σ1) ρ σ) := rfl
theorem wT_call {f as ks p W} : wT C Φ (.Call f as ks p) W QB ρ σ = (true = true ∧ W (fun v σ1 => ∃ b, v = B' b ∧ QB b σ1) ρ σ) := rfl
theorem wT_sub {e i p W} : wT C Φ (.Subscript e i p) W QB ρ σ = (true = true ∧ W (fun v σ1 => ∃ b, v = B' b ∧ QB b σ1) ρ σ) := rfl
theorem wTs_and0 : wTs C Φ .And [] QB ρ σ = QB true σ := rfl
theorem wTs_or0 : wTs C Φ .Or [] QB ρ σ = QB false σ := rfl
theorem wTs_and {x r} : wTs C Φ .And (x :: r) QB ρ σ = wT C Φ x (wE C Φ x) (fun b σ1 => if b = true then wTs C Φ .And r QB ρ σ1 else QB false σ1) ρ σ := rfl
theorem wTs_or {x r} : wTs C Φ .Or (x :: r) QB ρ σ = wT C Φ x (wE C Φ x) (fun b σ1 => if b = true then QB true σ1 else wTs C Φ .Or r QB ρ σ1) ρ σ := rfl
theorem wEs_nil : wEs C Φ [] QL ρ σ = QL [] σ := rfl
theorem wEs_cons {e r} : wEs C Φ (e :: r) QL ρ σ = wE C Φ e (fun a σ1 => wEs C Φ r (fun as σ2 => QL (a :: as) σ2) ρ σ1) ρ σ := rfl
theorem wS_asg {x xp e p} : wS C Φ (.Assign [.Name x xp] e p) K ρ σ = wE C Φ e (fun v σ1 => K .next (upd ρ x v) σ1) ρ σ := rfl
theorem wS_asgT {es k tp e p} : wS C Φ (.Assign [.Tuple es k tp] e p) K ρ σ = wE C Φ e (fun v σ1 => ∃ vs, v = .d (.t vs) ∧ vs.length = ((namesOf es).getD []).length ∧ K .next (updS ρ ((namesOf es).getD []) vs) σ1) ρ σ := rfl
theorem wS_asgS {o i sp e p} : wS C Φ (.Assign [.Subscript o i sp] e p) K ρ σ = wE C Φ e (fun v σ1 => wE C Φ o (fun a σ2 => wE C Φ i (fun b σ3 => ∃ σ4, setItemV a b v σ3 σ4 ∧ K .next ρ σ4) ρ σ2) ρ σ1) ρ σ := rfl
theorem wS_asgA {o x ap e p} : wS C Φ (.Assign [.Attribute o x ap] e p) K ρ σ = wE C Φ e (fun v σ1 => wE C Φ o (fun a σ2 => ∃ n m kvs, a = .loc n ∧ σ2[n]? = some (.inst m) ∧ σ2[m]? = some (.attrs kvs) ∧ kvs.length < 1000000 ∧ K .next ρ (σ2.set m (.attrs ((x, v) :: kvs)))) ρ σ1) ρ σ := rfl
theorem wS_aug {x xp e p} : wS C Φ (.AugAssign (.Name x xp) .Add e p) K ρ σ = ∃ i, ρ x = some (I' i) ∧ wE C Φ e (fun v σ1 => ∃ j, v = I' j ∧ K .next (upd ρ x (I' (i + j))) σ1) ρ σ := rfl
theorem wS_expr {e p} : wS C Φ (.Expr e p) K ρ σ = wE C Φ e (fun v σ1 => v = N' ∧ K .next ρ σ1) ρ σ := rfl
theorem wS_if {t b o p} : wS C Φ (.If t b o p) K ρ σ = wT C Φ t (wE C Φ t) (fun c σ1 => if c = true then wB C Φ b K ρ σ1 else wB C Φ o K ρ σ1) ρ σ := rfl
theorem wS_while {t b p} : wS C Φ (.While t b [] p) K ρ σ = whileP (wT C Φ t (wE C Φ t)) (wB C Φ b) K ρ σ := rfl
theorem wS_for {x xp iter b p} : wS C Φ (.For (.Name x xp) iter b [] p) K ρ σ = wE C Φ iter (fun v σ1 => forP x (wB C Φ b) K ρ v σ1) ρ σ := rfl
theorem wS_ret {e p} : wS C Φ (.Return (some e) p) K ρ σ = wE C Φ e (fun v σ1 => K (.ret v) ρ σ1) ρ σ := rfl
theorem wS_cont {p} : wS C Φ (.Continue p) K ρ σ = K .cont ρ σ := rfl
theorem wB_nil : wB C Φ [] K ρ σ = K .next ρ σ := rfl
theorem wB_cons {st r} (h : wS C Φ st (seqK (wB C Φ r K) K) ρ σ) : wB C Φ (st :: r) K ρ σ := h
theorem seq_next {k : Rho → Store → Prop} : seqK k K .next ρ σ = k ρ σ := rfl
theorem seq_ret {k : Rho → Store → Prop} {v} : seqK k K (.ret v) ρ σ = K (.ret v) ρ σ := rfl
theorem seq_cont {k : Rho → Store → Prop} : seqK k K .cont ρ σ = K .cont ρ σ := rfl
theorem ret_ret {v} : retQ Q (.ret v) ρ σ = Q v σ := rfl
theorem ret_next : retQ Q .next ρ σ = Q N' σ := rfl
theorem loop_next {k : Rho → Store → Prop} : loopK k K .next ρ σ = k ρ σ := rfl
theorem loop_cont {k : Rho → Store → Prop} : loopK k K .cont ρ σ = k ρ σ := rfl
theorem loop_ret {k : Rho → Store → Prop} {v} : loopK k K (.ret v) ρ σ = K (.ret v) ρ σ := rfl
end
end Mine

/-! W19 -/
namespace Mine

section
variable {C : Cx} {Φ : CallT} {k : Nat} {σ : Store} {Q : EP} {ρ : Rho} {K : SP}
theorem wB_skip {r : List Stmt} (h : wB C Φ r K ρ σ) : wB C Φ [] (seqK (wB C Φ r K) K) ρ σ := h
theorem small {n : Nat} (h : Nat.ble n 1000000 = true) : n ≤ 1000000 := Nat.le_of_ble_eq_true h
theorem ite_both {c : Prop} [Decidable c] {A B : Prop} (ha : c → A) (hb : ¬ c → B) : (if c then A else B) := by
  by_cases h : c
  · rw [if_pos h]; exact ha h
  · rw [if_neg h]; exact hb h
theorem ite_t {c : Bool} {A B : Prop} (h : c = true) (a : A) : (if c = true then A else B) := by rw [if_pos h]; exact a
theorem ite_f {c : Bool} {A B : Prop} (h : c = false) (b : B) : (if c = true then A else B) := by rw [if_neg (by rw [h]; exact Bool.false_ne_true)]; exact b
noncomputable def Ins.nm (i : Ins) : Str := match i with
  | .const _ => "const"
  | .drop => "drop"
  | .jump _ => "jump"
  | .unless _ => "unless"
  | .guard _ => "guard"
  | .vis => "visible"
  | .invis => "invisible"
  | .set _ => "set"
  | .ret => "return"
  | .fin => "end"
theorem item0 (i : Ins) (σ : Store) : item (.d i.d) (I' 0) σ (S' i.nm) := by cases i <;> exact .tup (by decide) (by decide) rfl
theorem item1 {a b : S} {r : List S} : item (.d (.t (a :: b :: r))) (I' 1) σ (.d (.s b)) := .tup (by decide) (by decide) rfl
theorem item2 {a b c : S} {r : List S} : item (.d (.t (a :: b :: c :: r))) (I' 2) σ (.d (.s c)) := .tup (by decide) (by decide) rfl
theorem cmpE (x y : Str) : cmp .Eq (S' x) (S' y) σ (decide (D.s (.str x) = D.s (.str y))) := .eqD rfl rfl

theorem c_row_targets (i : Ins) (h : Q (.loc σ.length) (σ ++ [.list (iDs i.tgs)])) : callP (ΦN C (k + 1)) "row_targets" [.d i.d] σ Q := by
  refine callP_fn rfl (phi_call (i := 2) rfl rfl ?_)
  change wB C _ (bodyOf (fnS 2)) (retQ Q) (upd rho0 "row" (.d i.d)) σ
  (refine wB_cons ?_; dsimp only [wE_int, wE_str, wE_bool, wE_none, wE_name, wE_tuple, wE_list, wE_dict, wE_bin, wE_not, wE_neg, wE_cmp, wE_if, wE_call, wE_meth, wE_attr, wE_to, wE_from, wE_subC, wE_subN, wE_subB, wE_subU, wE_comp, wE_comp2, wT_not, wT_bool, wT_cmp, wT_name, wT_call, wT_sub, wTs_and0, wTs_or0, wTs_and, wTs_or, wEs_nil, wEs_cons, wS_asg, wS_asgT, wS_asgS, wS_asgA, wS_aug, wS_expr, wS_if, wS_while, wS_for, wS_ret, wS_cont, seq_next, seq_ret, seq_cont, ret_ret, ret_next, loop_next, loop_cont, loop_ret])
  refine ⟨_, rfl, _, item0 i _, ?_⟩
  (refine wB_cons ?_; dsimp only [wE_int, wE_str, wE_bool, wE_none, wE_name, wE_tuple, wE_list, wE_dict, wE_bin, wE_not, wE_neg, wE_cmp, wE_if, wE_call, wE_meth, wE_attr, wE_to, wE_from, wE_subC, wE_subN, wE_subB, wE_subU, wE_comp, wE_comp2, wT_not, wT_bool, wT_cmp, wT_name, wT_call, wT_sub, wTs_and0, wTs_or0, wTs_and, wTs_or, wEs_nil, wEs_cons, wS_asg, wS_asgT, wS_asgS, wS_asgA, wS_aug, wS_expr, wS_if, wS_while, wS_for, wS_ret, wS_cont, seq_next, seq_ret, seq_cont, ret_ret, ret_next, loop_next, loop_cont, loop_ret])
  refine ⟨_, rfl, small rfl, _, rfl, _, .inT rfl rfl, ite_both (fun h1 => ?_) fun h1 => wB_skip ?_⟩
  · (refine wB_cons ?_; dsimp only [wE_int, wE_str, wE_bool, wE_none, wE_name, wE_tuple, wE_list, wE_dict, wE_bin, wE_not, wE_neg, wE_cmp, wE_if, wE_call, wE_meth, wE_attr, wE_to, wE_from, wE_subC, wE_subN, wE_subB, wE_subU, wE_comp, wE_comp2, wT_not, wT_bool, wT_cmp, wT_name, wT_call, wT_sub, wTs_and0, wTs_or0, wTs_and, wTs_or, wEs_nil, wEs_cons, wS_asg, wS_asgT, wS_asgS, wS_asgA, wS_aug, wS_expr, wS_if, wS_while, wS_for, wS_ret, wS_cont, seq_next, seq_ret, seq_cont, ret_ret, ret_next, loop_next, loop_cont, loop_ret])
    cases i <;> first | exact no h1 | exact ⟨_, rfl, _, item1, small rfl, _, rfl, h⟩
  (refine wB_cons ?_; dsimp only [wE_int, wE_str, wE_bool, wE_none, wE_name, wE_tuple, wE_list, wE_dict, wE_bin, wE_not, wE_neg, wE_cmp, wE_if, wE_call, wE_meth, wE_attr, wE_to, wE_from, wE_subC, wE_subN, wE_subB, wE_subU, wE_comp, wE_comp2, wT_not, wT_bool, wT_cmp, wT_name, wT_call, wT_sub, wTs_and0, wTs_or0, wTs_and, wTs_or, wEs_nil, wEs_cons, wS_asg, wS_asgT, wS_asgS, wS_asgA, wS_aug, wS_expr, wS_if, wS_while, wS_for, wS_ret, wS_cont, seq_next, seq_ret, seq_cont, ret_ret, ret_next, loop_next, loop_cont, loop_ret])
  refine ⟨_, rfl, _, cmpE _ _, ite_both (fun h2 => ?_) fun h2 => wB_skip ?_⟩
  · (refine wB_cons ?_; dsimp only [wE_int, wE_str, wE_bool, wE_none, wE_name, wE_tuple, wE_list, wE_dict, wE_bin, wE_not, wE_neg, wE_cmp, wE_if, wE_call, wE_meth, wE_attr, wE_to, wE_from, wE_subC, wE_subN, wE_subB, wE_subU, wE_comp, wE_comp2, wT_not, wT_bool, wT_cmp, wT_name, wT_call, wT_sub, wTs_and0, wTs_or0, wTs_and, wTs_or, wEs_nil, wEs_cons, wS_asg, wS_asgT, wS_asgS, wS_asgA, wS_aug, wS_expr, wS_if, wS_while, wS_for, wS_ret, wS_cont, seq_next, seq_ret, seq_cont, ret_ret, ret_next, loop_next, loop_cont, loop_ret])
    cases i <;> first | exact no h2 | exact ⟨_, rfl, _, item2, small rfl, _, rfl, h⟩
  (refine wB_cons ?_; dsimp only [wE_int, wE_str, wE_bool, wE_none, wE_name, wE_tuple, wE_list, wE_dict, wE_bin, wE_not, wE_neg, wE_cmp, wE_if, wE_call, wE_meth, wE_attr, wE_to, wE_from, wE_subC, wE_subN, wE_subB, wE_subU, wE_comp, wE_comp2, wT_not, wT_bool, wT_cmp, wT_name, wT_call, wT_sub, wTs_and0, wTs_or0, wTs_and, wTs_or, wEs_nil, wEs_cons, wS_asg, wS_asgT, wS_asgS, wS_asgA, wS_aug, wS_expr, wS_if, wS_while, wS_for, wS_ret, wS_cont, seq_next, seq_ret, seq_cont, ret_ret, ret_next, loop_next, loop_cont, loop_ret])
  refine ⟨_, rfl, _, cmpE _ _, ite_both (fun h3 => ?_) fun h3 => wB_skip ?_⟩
  · cases i <;> exact no h3
  (refine wB_cons ?_; dsimp only [wE_int, wE_str, wE_bool, wE_none, wE_name, wE_tuple, wE_list, wE_dict, wE_bin, wE_not, wE_neg, wE_cmp, wE_if, wE_call, wE_meth, wE_attr, wE_to, wE_from, wE_subC, wE_subN, wE_subB, wE_subU, wE_comp, wE_comp2, wT_not, wT_bool, wT_cmp, wT_name, wT_call, wT_sub, wTs_and0, wTs_or0, wTs_and, wTs_or, wEs_nil, wEs_cons, wS_asg, wS_asgT, wS_asgS, wS_asgA, wS_aug, wS_expr, wS_if, wS_while, wS_for, wS_ret, wS_cont, seq_next, seq_ret, seq_cont, ret_ret, ret_next, loop_next, loop_cont, loop_ret])
  refine ⟨small rfl, _, rfl, ?_⟩
  cases i <;> first | exact h | exact absurd rfl h1 | exact absurd rfl h2
theorem c_with_targets (i : Ins) (n t : Nat) (l : List D) (hn : σ[n]? = some (.list l)) (hl : i.tg.isSome = true → l = [iD t]) (h : Q (.d (i.setT t).d) σ) : callP (ΦN C (k + 1)) "with_targets" [.d i.d, .loc n] σ Q := by
  refine callP_fn rfl (phi_call (i := 3) rfl rfl ?_)
  change wB C _ (bodyOf (fnS 3)) (retQ Q) (upd (upd rho0 "row" (.d i.d)) "targets" (.loc n)) σ
  have it0 : i.tg.isSome = true → item (.loc n) (I' 0) σ (I' t) := fun hi => by
    rw [hl hi] at hn
    exact .list hn (by decide) (by decide) rfl
  (refine wB_cons ?_; dsimp only [wE_int, wE_str, wE_bool, wE_none, wE_name, wE_tuple, wE_list, wE_dict, wE_bin, wE_not, wE_neg, wE_cmp, wE_if, wE_call, wE_meth, wE_attr, wE_to, wE_from, wE_subC, wE_subN, wE_subB, wE_subU, wE_comp, wE_comp2, wT_not, wT_bool, wT_cmp, wT_name, wT_call, wT_sub, wTs_and0, wTs_or0, wTs_and, wTs_or, wEs_nil, wEs_cons, wS_asg, wS_asgT, wS_asgS, wS_asgA, wS_aug, wS_expr, wS_if, wS_while, wS_for, wS_ret, wS_cont, seq_next, seq_ret, seq_cont, ret_ret, ret_next, loop_next, loop_cont, loop_ret])
  refine ⟨_, rfl, _, item0 i _, ?_⟩
  (refine wB_cons ?_; dsimp only [wE_int, wE_str, wE_bool, wE_none, wE_name, wE_tuple, wE_list, wE_dict, wE_bin, wE_not, wE_neg, wE_cmp, wE_if, wE_call, wE_meth, wE_attr, wE_to, wE_from, wE_subC, wE_subN, wE_subB, wE_subU, wE_comp, wE_comp2, wT_not, wT_bool, wT_cmp, wT_name, wT_call, wT_sub, wTs_and0, wTs_or0, wTs_and, wTs_or, wEs_nil, wEs_cons, wS_asg, wS_asgT, wS_asgS, wS_asgA, wS_aug, wS_expr, wS_if, wS_while, wS_for, wS_ret, wS_cont, seq_next, seq_ret, seq_cont, ret_ret, ret_next, loop_next, loop_cont, loop_ret])
  refine ⟨_, rfl, small rfl, _, rfl, _, .inT rfl rfl, ite_both (fun h1 => ?_) fun h1 => wB_skip ?_⟩
  · (refine wB_cons ?_; dsimp only [wE_int, wE_str, wE_bool, wE_none, wE_name, wE_tuple, wE_list, wE_dict, wE_bin, wE_not, wE_neg, wE_cmp, wE_if, wE_call, wE_meth, wE_attr, wE_to, wE_from, wE_subC, wE_subN, wE_subB, wE_subU, wE_comp, wE_comp2, wT_not, wT_bool, wT_cmp, wT_name, wT_call, wT_sub, wTs_and0, wTs_or0, wTs_and, wTs_or, wEs_nil, wEs_cons, wS_asg, wS_asgT, wS_asgS, wS_asgA, wS_aug, wS_expr, wS_if, wS_while, wS_for, wS_ret, wS_cont, seq_next, seq_ret, seq_cont, ret_ret, ret_next, loop_next, loop_cont, loop_ret])
    cases i <;> first | exact no h1 | exact ⟨_, rfl, _, rfl, _, it0 rfl, small rfl, _, rfl, _, rfl, _, _, rfl, rfl, by decide, by first | exact (show (2 : Int) ≤ 2 by decide) | exact (show (2 : Int) ≤ 3 by decide), small rfl, .addT (fun q => by cases q) (Nat.le_of_ble_eq_true rfl) h⟩
  (refine wB_cons ?_; dsimp only [wE_int, wE_str, wE_bool, wE_none, wE_name, wE_tuple, wE_list, wE_dict, wE_bin, wE_not, wE_neg, wE_cmp, wE_if, wE_call, wE_meth, wE_attr, wE_to, wE_from, wE_subC, wE_subN, wE_subB, wE_subU, wE_comp, wE_comp2, wT_not, wT_bool, wT_cmp, wT_name, wT_call, wT_sub, wTs_and0, wTs_or0, wTs_and, wTs_or, wEs_nil, wEs_cons, wS_asg, wS_asgT, wS_asgS, wS_asgA, wS_aug, wS_expr, wS_if, wS_while, wS_for, wS_ret, wS_cont, seq_next, seq_ret, seq_cont, ret_ret, ret_next, loop_next, loop_cont, loop_ret])
  refine ⟨_, rfl, _, cmpE _ _, ite_both (fun h2 => ?_) fun h2 => wB_skip ?_⟩
  · (refine wB_cons ?_; dsimp only [wE_int, wE_str, wE_bool, wE_none, wE_name, wE_tuple, wE_list, wE_dict, wE_bin, wE_not, wE_neg, wE_cmp, wE_if, wE_call, wE_meth, wE_attr, wE_to, wE_from, wE_subC, wE_subN, wE_subB, wE_subU, wE_comp, wE_comp2, wT_not, wT_bool, wT_cmp, wT_name, wT_call, wT_sub, wTs_and0, wTs_or0, wTs_and, wTs_or, wEs_nil, wEs_cons, wS_asg, wS_asgT, wS_asgS, wS_asgA, wS_aug, wS_expr, wS_if, wS_while, wS_for, wS_ret, wS_cont, seq_next, seq_ret, seq_cont, ret_ret, ret_next, loop_next, loop_cont, loop_ret])
    cases i <;> first | exact no h2 | exact ⟨_, rfl, _, rfl, _, item1, _, rfl, _, it0 rfl, small rfl, _, rfl, h⟩
  (refine wB_cons ?_; dsimp only [wE_int, wE_str, wE_bool, wE_none, wE_name, wE_tuple, wE_list, wE_dict, wE_bin, wE_not, wE_neg, wE_cmp, wE_if, wE_call, wE_meth, wE_attr, wE_to, wE_from, wE_subC, wE_subN, wE_subB, wE_subU, wE_comp, wE_comp2, wT_not, wT_bool, wT_cmp, wT_name, wT_call, wT_sub, wTs_and0, wTs_or0, wTs_and, wTs_or, wEs_nil, wEs_cons, wS_asg, wS_asgT, wS_asgS, wS_asgA, wS_aug, wS_expr, wS_if, wS_while, wS_for, wS_ret, wS_cont, seq_next, seq_ret, seq_cont, ret_ret, ret_next, loop_next, loop_cont, loop_ret])
  refine ⟨_, rfl, _, cmpE _ _, ite_both (fun h3 => ?_) fun h3 => wB_skip ?_⟩
  · cases i <;> exact no h3
  (refine wB_cons ?_; dsimp only [wE_int, wE_str, wE_bool, wE_none, wE_name, wE_tuple, wE_list, wE_dict, wE_bin, wE_not, wE_neg, wE_cmp, wE_if, wE_call, wE_meth, wE_attr, wE_to, wE_from, wE_subC, wE_subN, wE_subB, wE_subU, wE_comp, wE_comp2, wT_not, wT_bool, wT_cmp, wT_name, wT_call, wT_sub, wTs_and0, wTs_or0, wTs_and, wTs_or, wEs_nil, wEs_cons, wS_asg, wS_asgT, wS_asgS, wS_asgA, wS_aug, wS_expr, wS_if, wS_while, wS_for, wS_ret, wS_cont, seq_next, seq_ret, seq_cont, ret_ret, ret_next, loop_next, loop_cont, loop_ret])
  refine ⟨_, rfl, ?_⟩
  cases i <;> first | exact h | exact absurd rfl h1 | exact absurd rfl h2
theorem c_goes_on (i : Ins) (h : Q (B' i.on) σ) : callP (ΦN C (k + 1)) "goes_on" [.d i.d] σ Q := by
  refine callP_fn rfl (phi_call (i := 4) rfl rfl ?_)
  change wB C _ (bodyOf (fnS 4)) (retQ Q) (upd rho0 "row" (.d i.d)) σ
  (refine wB_cons ?_; dsimp only [wE_int, wE_str, wE_bool, wE_none, wE_name, wE_tuple, wE_list, wE_dict, wE_bin, wE_not, wE_neg, wE_cmp, wE_if, wE_call, wE_meth, wE_attr, wE_to, wE_from, wE_subC, wE_subN, wE_subB, wE_subU, wE_comp, wE_comp2, wT_not, wT_bool, wT_cmp, wT_name, wT_call, wT_sub, wTs_and0, wTs_or0, wTs_and, wTs_or, wEs_nil, wEs_cons, wS_asg, wS_asgT, wS_asgS, wS_asgA, wS_aug, wS_expr, wS_if, wS_while, wS_for, wS_ret, wS_cont, seq_next, seq_ret, seq_cont, ret_ret, ret_next, loop_next, loop_cont, loop_ret])
  refine ⟨_, rfl, _, item0 i _, small rfl, _, rfl, _, .niT rfl rfl, ?_⟩
  cases i <;> exact h
theorem c_height_change (i : Ins) (h : ∀ c, Q (I' c) σ) : callP (ΦN C (k + 1)) "height_change" [.d i.d] σ Q := by
  refine callP_fn rfl (phi_call (i := 5) rfl rfl ?_)
  change wB C _ (bodyOf (fnS 5)) (retQ Q) (upd rho0 "row" (.d i.d)) σ
  (refine wB_cons ?_; dsimp only [wE_int, wE_str, wE_bool, wE_none, wE_name, wE_tuple, wE_list, wE_dict, wE_bin, wE_not, wE_neg, wE_cmp, wE_if, wE_call, wE_meth, wE_attr, wE_to, wE_from, wE_subC, wE_subN, wE_subB, wE_subU, wE_comp, wE_comp2, wT_not, wT_bool, wT_cmp, wT_name, wT_call, wT_sub, wTs_and0, wTs_or0, wTs_and, wTs_or, wEs_nil, wEs_cons, wS_asg, wS_asgT, wS_asgS, wS_asgA, wS_aug, wS_expr, wS_if, wS_while, wS_for, wS_ret, wS_cont, seq_next, seq_ret, seq_cont, ret_ret, ret_next, loop_next, loop_cont, loop_ret])
  refine ⟨_, rfl, _, item0 i _, ?_⟩
  (refine wB_cons ?_; dsimp only [wE_int, wE_str, wE_bool, wE_none, wE_name, wE_tuple, wE_list, wE_dict, wE_bin, wE_not, wE_neg, wE_cmp, wE_if, wE_call, wE_meth, wE_attr, wE_to, wE_from, wE_subC, wE_subN, wE_subB, wE_subU, wE_comp, wE_comp2, wT_not, wT_bool, wT_cmp, wT_name, wT_call, wT_sub, wTs_and0, wTs_or0, wTs_and, wTs_or, wEs_nil, wEs_cons, wS_asg, wS_asgT, wS_asgS, wS_asgA, wS_aug, wS_expr, wS_if, wS_while, wS_for, wS_ret, wS_cont, seq_next, seq_ret, seq_cont, ret_ret, ret_next, loop_next, loop_cont, loop_ret])
  refine ⟨_, rfl, small rfl, _, rfl, _, .inT rfl rfl, ite_both (fun h1 => ?_) fun h1 => wB_skip ?_⟩
  · (refine wB_cons ?_; dsimp only [wE_int, wE_str, wE_bool, wE_none, wE_name, wE_tuple, wE_list, wE_dict, wE_bin, wE_not, wE_neg, wE_cmp, wE_if, wE_call, wE_meth, wE_attr, wE_to, wE_from, wE_subC, wE_subN, wE_subB, wE_subU, wE_comp, wE_comp2, wT_not, wT_bool, wT_cmp, wT_name, wT_call, wT_sub, wTs_and0, wTs_or0, wTs_and, wTs_or, wEs_nil, wEs_cons, wS_asg, wS_asgT, wS_asgS, wS_asgA, wS_aug, wS_expr, wS_if, wS_while, wS_for, wS_ret, wS_cont, seq_next, seq_ret, seq_cont, ret_ret, ret_next, loop_next, loop_cont, loop_ret])
    exact h _
  (refine wB_cons ?_; dsimp only [wE_int, wE_str, wE_bool, wE_none, wE_name, wE_tuple, wE_list, wE_dict, wE_bin, wE_not, wE_neg, wE_cmp, wE_if, wE_call, wE_meth, wE_attr, wE_to, wE_from, wE_subC, wE_subN, wE_subB, wE_subU, wE_comp, wE_comp2, wT_not, wT_bool, wT_cmp, wT_name, wT_call, wT_sub, wTs_and0, wTs_or0, wTs_and, wTs_or, wEs_nil, wEs_cons, wS_asg, wS_asgT, wS_asgS, wS_asgA, wS_aug, wS_expr, wS_if, wS_while, wS_for, wS_ret, wS_cont, seq_next, seq_ret, seq_cont, ret_ret, ret_next, loop_next, loop_cont, loop_ret])
  refine ⟨_, rfl, _, cmpE _ _, ite_both (fun h2 => ?_) fun h2 => wB_skip ?_⟩
  · cases i <;> exact no h2
  (refine wB_cons ?_; dsimp only [wE_int, wE_str, wE_bool, wE_none, wE_name, wE_tuple, wE_list, wE_dict, wE_bin, wE_not, wE_neg, wE_cmp, wE_if, wE_call, wE_meth, wE_attr, wE_to, wE_from, wE_subC, wE_subN, wE_subB, wE_subU, wE_comp, wE_comp2, wT_not, wT_bool, wT_cmp, wT_name, wT_call, wT_sub, wTs_and0, wTs_or0, wTs_and, wTs_or, wEs_nil, wEs_cons, wS_asg, wS_asgT, wS_asgS, wS_asgA, wS_aug, wS_expr, wS_if, wS_while, wS_for, wS_ret, wS_cont, seq_next, seq_ret, seq_cont, ret_ret, ret_next, loop_next, loop_cont, loop_ret])
  refine ⟨_, rfl, _, cmpE _ _, ite_both (fun h3 => ?_) fun h3 => wB_skip ?_⟩
  · (refine wB_cons ?_; dsimp only [wE_int, wE_str, wE_bool, wE_none, wE_name, wE_tuple, wE_list, wE_dict, wE_bin, wE_not, wE_neg, wE_cmp, wE_if, wE_call, wE_meth, wE_attr, wE_to, wE_from, wE_subC, wE_subN, wE_subB, wE_subU, wE_comp, wE_comp2, wT_not, wT_bool, wT_cmp, wT_name, wT_call, wT_sub, wTs_and0, wTs_or0, wTs_and, wTs_or, wEs_nil, wEs_cons, wS_asg, wS_asgT, wS_asgS, wS_asgA, wS_aug, wS_expr, wS_if, wS_while, wS_for, wS_ret, wS_cont, seq_next, seq_ret, seq_cont, ret_ret, ret_next, loop_next, loop_cont, loop_ret])
    cases i <;> first | exact no h3 | exact ⟨_, rfl, _, item1, _, rfl, h _⟩
  (refine wB_cons ?_; dsimp only [wE_int, wE_str, wE_bool, wE_none, wE_name, wE_tuple, wE_list, wE_dict, wE_bin, wE_not, wE_neg, wE_cmp, wE_if, wE_call, wE_meth, wE_attr, wE_to, wE_from, wE_subC, wE_subN, wE_subB, wE_subU, wE_comp, wE_comp2, wT_not, wT_bool, wT_cmp, wT_name, wT_call, wT_sub, wTs_and0, wTs_or0, wTs_and, wTs_or, wEs_nil, wEs_cons, wS_asg, wS_asgT, wS_asgS, wS_asgA, wS_aug, wS_expr, wS_if, wS_while, wS_for, wS_ret, wS_cont, seq_next, seq_ret, seq_cont, ret_ret, ret_next, loop_next, loop_cont, loop_ret])
  refine ⟨_, rfl, small rfl, _, rfl, _, .inT rfl rfl, ite_both (fun h4 => ?_) fun h4 => wB_skip ?_⟩
  · (refine wB_cons ?_; dsimp only [wE_int, wE_str, wE_bool, wE_none, wE_name, wE_tuple, wE_list, wE_dict, wE_bin, wE_not, wE_neg, wE_cmp, wE_if, wE_call, wE_meth, wE_attr, wE_to, wE_from, wE_subC, wE_subN, wE_subB, wE_subU, wE_comp, wE_comp2, wT_not, wT_bool, wT_cmp, wT_name, wT_call, wT_sub, wTs_and0, wTs_or0, wTs_and, wTs_or, wEs_nil, wEs_cons, wS_asg, wS_asgT, wS_asgS, wS_asgA, wS_aug, wS_expr, wS_if, wS_while, wS_for, wS_ret, wS_cont, seq_next, seq_ret, seq_cont, ret_ret, ret_next, loop_next, loop_cont, loop_ret])
    exact ⟨_, rfl, h _⟩
  (refine wB_cons ?_; dsimp only [wE_int, wE_str, wE_bool, wE_none, wE_name, wE_tuple, wE_list, wE_dict, wE_bin, wE_not, wE_neg, wE_cmp, wE_if, wE_call, wE_meth, wE_attr, wE_to, wE_from, wE_subC, wE_subN, wE_subB, wE_subU, wE_comp, wE_comp2, wT_not, wT_bool, wT_cmp, wT_name, wT_call, wT_sub, wTs_and0, wTs_or0, wTs_and, wTs_or, wEs_nil, wEs_cons, wS_asg, wS_asgT, wS_asgS, wS_asgA, wS_aug, wS_expr, wS_if, wS_while, wS_for, wS_ret, wS_cont, seq_next, seq_ret, seq_cont, ret_ret, ret_next, loop_next, loop_cont, loop_ret])
  exact h _
theorem c_loop_change (i : Ins) (h : Q (I' 0) σ) : callP (ΦN C (k + 1)) "loop_change" [.d i.d] σ Q := by
  refine callP_fn rfl (phi_call (i := 6) rfl rfl ?_)
  change wB C _ (bodyOf (fnS 6)) (retQ Q) (upd rho0 "row" (.d i.d)) σ
  (refine wB_cons ?_; dsimp only [wE_int, wE_str, wE_bool, wE_none, wE_name, wE_tuple, wE_list, wE_dict, wE_bin, wE_not, wE_neg, wE_cmp, wE_if, wE_call, wE_meth, wE_attr, wE_to, wE_from, wE_subC, wE_subN, wE_subB, wE_subU, wE_comp, wE_comp2, wT_not, wT_bool, wT_cmp, wT_name, wT_call, wT_sub, wTs_and0, wTs_or0, wTs_and, wTs_or, wEs_nil, wEs_cons, wS_asg, wS_asgT, wS_asgS, wS_asgA, wS_aug, wS_expr, wS_if, wS_while, wS_for, wS_ret, wS_cont, seq_next, seq_ret, seq_cont, ret_ret, ret_next, loop_next, loop_cont, loop_ret])
  refine ⟨_, rfl, _, item0 i _, _, cmpE _ _, ite_f (by cases i <;> rfl) ⟨_, rfl, _, item0 i _, _, cmpE _ _, ite_f (by cases i <;> rfl) (ite_f rfl (wB_skip ?_))⟩⟩
  (refine wB_cons ?_; dsimp only [wE_int, wE_str, wE_bool, wE_none, wE_name, wE_tuple, wE_list, wE_dict, wE_bin, wE_not, wE_neg, wE_cmp, wE_if, wE_call, wE_meth, wE_attr, wE_to, wE_from, wE_subC, wE_subN, wE_subB, wE_subU, wE_comp, wE_comp2, wT_not, wT_bool, wT_cmp, wT_name, wT_call, wT_sub, wTs_and0, wTs_or0, wTs_and, wTs_or, wEs_nil, wEs_cons, wS_asg, wS_asgT, wS_asgS, wS_asgA, wS_aug, wS_expr, wS_if, wS_while, wS_for, wS_ret, wS_cont, seq_next, seq_ret, seq_cont, ret_ret, ret_next, loop_next, loop_cont, loop_ret])
  refine ⟨_, rfl, _, item0 i _, _, cmpE _ _, ite_f (by cases i <;> rfl) ⟨_, rfl, _, item0 i _, _, cmpE _ _, ite_f (by cases i <;> rfl) (ite_f rfl (wB_skip ?_))⟩⟩
  (refine wB_cons ?_; dsimp only [wE_int, wE_str, wE_bool, wE_none, wE_name, wE_tuple, wE_list, wE_dict, wE_bin, wE_not, wE_neg, wE_cmp, wE_if, wE_call, wE_meth, wE_attr, wE_to, wE_from, wE_subC, wE_subN, wE_subB, wE_subU, wE_comp, wE_comp2, wT_not, wT_bool, wT_cmp, wT_name, wT_call, wT_sub, wTs_and0, wTs_or0, wTs_and, wTs_or, wEs_nil, wEs_cons, wS_asg, wS_asgT, wS_asgS, wS_asgA, wS_aug, wS_expr, wS_if, wS_while, wS_for, wS_ret, wS_cont, seq_next, seq_ret, seq_cont, ret_ret, ret_next, loop_next, loop_cont, loop_ret])
  exact h
theorem c_sets_visible (i : Ins) (h : Q (B' (sv i)) σ) : callP (ΦN C (k + 1)) "sets_visible" [.d i.d] σ Q := by
  refine callP_fn rfl (phi_call (i := 15) rfl rfl ?_)
  change wB C _ (bodyOf (fnS 15)) (retQ Q) (upd rho0 "row" (.d i.d)) σ
  (refine wB_cons ?_; dsimp only [wE_int, wE_str, wE_bool, wE_none, wE_name, wE_tuple, wE_list, wE_dict, wE_bin, wE_not, wE_neg, wE_cmp, wE_if, wE_call, wE_meth, wE_attr, wE_to, wE_from, wE_subC, wE_subN, wE_subB, wE_subU, wE_comp, wE_comp2, wT_not, wT_bool, wT_cmp, wT_name, wT_call, wT_sub, wTs_and0, wTs_or0, wTs_and, wTs_or, wEs_nil, wEs_cons, wS_asg, wS_asgT, wS_asgS, wS_asgA, wS_aug, wS_expr, wS_if, wS_while, wS_for, wS_ret, wS_cont, seq_next, seq_ret, seq_cont, ret_ret, ret_next, loop_next, loop_cont, loop_ret])
  refine ⟨_, rfl, _, item0 i _, small rfl, _, rfl, _, .inT rfl rfl, ?_⟩
  cases i <;> exact h
theorem c_law_aims (i : Ins) (h : Q (.loc σ.length) (σ ++ [.list (iDs i.tgs)])) : callP (ΦN C (k + 1)) "_law_aims" [.d i.d] σ Q := by
  refine callP_fn rfl (phi_call (i := 23) rfl rfl ?_)
  change wB C _ (bodyOf (fnS 23)) (retQ Q) (upd rho0 "piece" (.d i.d)) σ
  have last : ¬ decide (D.s (.str i.nm) = D.s (.str "jump")) = true → ¬ decide (D.s (.str i.nm) = D.s (.str "unless")) = true → wB C (ΦN C k) ((bodyOf (fnS 23)).drop 1) (retQ Q) (upd rho0 "piece" (.d i.d)) σ := fun h1 h2 => by
    (refine wB_cons ?_; dsimp only [wE_int, wE_str, wE_bool, wE_none, wE_name, wE_tuple, wE_list, wE_dict, wE_bin, wE_not, wE_neg, wE_cmp, wE_if, wE_call, wE_meth, wE_attr, wE_to, wE_from, wE_subC, wE_subN, wE_subB, wE_subU, wE_comp, wE_comp2, wT_not, wT_bool, wT_cmp, wT_name, wT_call, wT_sub, wTs_and0, wTs_or0, wTs_and, wTs_or, wEs_nil, wEs_cons, wS_asg, wS_asgT, wS_asgS, wS_asgA, wS_aug, wS_expr, wS_if, wS_while, wS_for, wS_ret, wS_cont, seq_next, seq_ret, seq_cont, ret_ret, ret_next, loop_next, loop_cont, loop_ret])
    refine ⟨_, rfl, _, item0 i _, _, cmpE _ _, ite_both (fun h3 => ?_) fun h3 => ?_⟩
    · cases i <;> first | exact no h3 | exact ⟨_, rfl, _, item2, small rfl, _, rfl, h⟩
    · refine ⟨small rfl, _, rfl, ?_⟩
      cases i <;> first | exact h | exact absurd rfl h1 | exact absurd rfl h2 | exact absurd rfl h3
  (refine wB_cons ?_; dsimp only [wE_int, wE_str, wE_bool, wE_none, wE_name, wE_tuple, wE_list, wE_dict, wE_bin, wE_not, wE_neg, wE_cmp, wE_if, wE_call, wE_meth, wE_attr, wE_to, wE_from, wE_subC, wE_subN, wE_subB, wE_subU, wE_comp, wE_comp2, wT_not, wT_bool, wT_cmp, wT_name, wT_call, wT_sub, wTs_and0, wTs_or0, wTs_and, wTs_or, wEs_nil, wEs_cons, wS_asg, wS_asgT, wS_asgS, wS_asgA, wS_aug, wS_expr, wS_if, wS_while, wS_for, wS_ret, wS_cont, seq_next, seq_ret, seq_cont, ret_ret, ret_next, loop_next, loop_cont, loop_ret])
  refine ⟨_, rfl, _, item0 i _, _, cmpE _ _, ite_both (fun h1 => ?_) fun h1 => ⟨_, rfl, _, item0 i _, _, cmpE _ _, ite_both (fun h2 => ?_) fun h2 => ite_f rfl (wB_skip (last h1 h2))⟩⟩
  · (refine wB_cons ?_; dsimp only [wE_int, wE_str, wE_bool, wE_none, wE_name, wE_tuple, wE_list, wE_dict, wE_bin, wE_not, wE_neg, wE_cmp, wE_if, wE_call, wE_meth, wE_attr, wE_to, wE_from, wE_subC, wE_subN, wE_subB, wE_subU, wE_comp, wE_comp2, wT_not, wT_bool, wT_cmp, wT_name, wT_call, wT_sub, wTs_and0, wTs_or0, wTs_and, wTs_or, wEs_nil, wEs_cons, wS_asg, wS_asgT, wS_asgS, wS_asgA, wS_aug, wS_expr, wS_if, wS_while, wS_for, wS_ret, wS_cont, seq_next, seq_ret, seq_cont, ret_ret, ret_next, loop_next, loop_cont, loop_ret])
    cases i <;> first | exact no h1 | exact ⟨_, rfl, _, item1, small rfl, _, rfl, h⟩
  · (refine wB_cons ?_; dsimp only [wE_int, wE_str, wE_bool, wE_none, wE_name, wE_tuple, wE_list, wE_dict, wE_bin, wE_not, wE_neg, wE_cmp, wE_if, wE_call, wE_meth, wE_attr, wE_to, wE_from, wE_subC, wE_subN, wE_subB, wE_subU, wE_comp, wE_comp2, wT_not, wT_bool, wT_cmp, wT_name, wT_call, wT_sub, wTs_and0, wTs_or0, wTs_and, wTs_or, wEs_nil, wEs_cons, wS_asg, wS_asgT, wS_asgS, wS_asgA, wS_aug, wS_expr, wS_if, wS_while, wS_for, wS_ret, wS_cont, seq_next, seq_ret, seq_cont, ret_ret, ret_next, loop_next, loop_cont, loop_ret])
    cases i <;> first | exact no h2 | exact ⟨_, rfl, _, item1, small rfl, _, rfl, h⟩
end
end Mine

/-! W20 -/
namespace Mine

section
variable {C : Cx} {k : Nat} {σ : Store} {Q : EP} {ρ : Rho} {K : SP}

/-! ### loops, the way on kept closed -/
theorem while_of {test : (Bool → Store → Prop) → Rho → Store → Prop} {body : SP → Rho → Store → Prop} (J : Nat → Rho → Store → Prop) (n : Nat) (h0 : J n ρ σ)
    (step : ∀ (n : Nat) (ρ : Rho) (σ : Store) (L : SP), J n ρ σ → (∀ m ρ' σ', m < n → J m ρ' σ' → L .next ρ' σ') → (∀ m ρ' σ', m < n → J m ρ' σ' → L .cont ρ' σ') → (∀ v ρ' σ', K (.ret v) ρ' σ' → L (.ret v) ρ' σ') →
      test (fun c σ1 => if c = true then body L ρ σ1 else K .next ρ σ1) ρ σ) : whileP test body K ρ σ :=
  ⟨J, n, h0, fun n ρ σ h => step n ρ σ _ h (fun m _ _ hm hj => ⟨m, hm, hj⟩) (fun m _ _ hm hj => ⟨m, hm, hj⟩) fun _ _ _ h => h⟩
theorem for_of {x : Str} {body : SP → Rho → Store → Prop} {v : AV} {ds : List D} (hi : iterOf v σ ds) (J : Nat → Rho → Store → Prop) (h0 : J 0 ρ σ) (hit : ∀ i ρ σ, J i ρ σ → iterOf v σ ds)
    (step : ∀ (i : Nat) (d : D) (ρ : Rho) (σ : Store) (L : SP), ds[i]? = some d → J i ρ σ → (∀ ρ' σ', J (i + 1) ρ' σ' → L .next ρ' σ') → (∀ ρ' σ', J (i + 1) ρ' σ' → L .cont ρ' σ') → (∀ v ρ' σ', K (.ret v) ρ' σ' → L (.ret v) ρ' σ') →
      body L (upd ρ x (.d d)) σ) (fin : ∀ ρ σ, J ds.length ρ σ → K .next ρ σ) : forP x body K ρ v σ :=
  ⟨ds, hi, J, h0, hit, fun i d ρ σ hd h => step i d ρ σ _ hd h (fun _ _ h => h) (fun _ _ h => h) fun _ _ _ h => h, fin⟩

theorem cmp_ne_list {n m : Nat} {xs ys : List D} (h1 : σ[n]? = some (.list xs)) (h2 : σ[m]? = some (.list ys)) (n1 : xs.all D.nb = true) (n2 : ys.all D.nb = true) : cmp .NotEq (.loc n) (.loc m) σ (!decide (xs = ys)) := .neL h1 h2 n1 n2
noncomputable def ExtBut (n : Nat) (σ σ' : Store) : Prop := ∀ (m : Nat) (o : AO), m ≠ n → σ[m]? = some o → σ'[m]? = some o
theorem iD_nb (ns : List Int) : (ns.map iD).all D.nb = true := by simp [iD, D.nb, S.nb]
theorem meth_append {n : Nat} {ds : List D} {d : D} (hn : σ[n]? = some (.list ds)) (hl : ds.length ≤ 1000000) (h : Q N' (σ.set n (.list (ds ++ [d])))) : meth "append" (.loc n) [.d d] σ Q :=
  show ∃ ds', σ[n]? = some (.list ds') ∧ ds'.length ≤ 1000000 ∧ Q N' (σ.set n (.list (ds' ++ [d]))) from ⟨ds, hn, hl, h⟩
theorem meth_pop {n : Nat} {ds : List D} {d : D} (hn : σ[n]? = some (.list (ds ++ [d]))) (hl : ds.length < 1000000) (h : Q (.d d) (σ.set n (.list ds))) : meth "pop" (.loc n) [] σ Q :=
  show ∃ ds' d', σ[n]? = some (.list (ds' ++ [d'])) ∧ ds'.length < 1000000 ∧ Q (.d d') (σ.set n (.list ds')) from ⟨ds, d, hn, hl, h⟩
theorem isList {n : Nat} {ds : List D} (hn : σ[n]? = some (.list ds)) : ∃ (m : Nat) (es : List D), AV.loc n = .loc m ∧ σ[m]? = some (.list es) := ⟨_, _, rfl, hn⟩

theorem c_law_draw (n : Nat) (ns : List Int) (most : Int) (hm : 0 < most) (hn : σ[n]? = some (.list (ns.map iD))) (hl : ns.length ≤ 1000000) (h : ∀ (v : Int) (ns' : List Int) (σ' : Store), 0 ≤ v → v < most → ns'.length ≤ ns.length → σ'[n]? = some (.list (ns'.map iD)) → ExtBut n σ σ' → σ.length ≤ σ'.length → Q (I' v) σ') :
    callP (ΦN C (k + 1)) "_law_draw" [.loc n, I' most] σ Q := by
  refine callP_fn rfl (phi_call (i := 21) rfl rfl ?_)
  change wB C _ (bodyOf (fnS 21)) (retQ Q) (upd (upd rho0 "row" (.loc n)) "most" (I' most)) σ
  (refine wB_cons ?_; dsimp only [wE_int, wE_str, wE_bool, wE_none, wE_name, wE_tuple, wE_list, wE_dict, wE_bin, wE_not, wE_neg, wE_cmp, wE_if, wE_call, wE_meth, wE_attr, wE_to, wE_from, wE_subC, wE_subN, wE_subB, wE_subU, wE_comp, wE_comp2, wT_not, wT_bool, wT_cmp, wT_name, wT_call, wT_sub, wTs_and0, wTs_or0, wTs_and, wTs_or, wEs_nil, wEs_cons, wS_asg, wS_asgT, wS_asgS, wS_asgA, wS_aug, wS_expr, wS_if, wS_while, wS_for, wS_ret, wS_cont, seq_next, seq_ret, seq_cont, ret_ret, ret_next, loop_next, loop_cont, loop_ret])
  refine ⟨_, rfl, small rfl, _, rfl, _, cmp_ne_list (get_app hn) (get_new _ _) (iD_nb ns) rfl, ite_both (fun hns => ?_) fun hns => ?_⟩
  · rcases List.eq_nil_or_concat ns with rfl | ⟨ns', v, rfl⟩
    · exact no hns
    rw [List.concat_eq_append] at *
    have hl' : ns'.length < 1000000 := by rw [List.length_append] at hl; exact hl
    refine ⟨_, rfl, isList (get_app hn), meth_pop (ds := ns'.map iD) (d := iD v) (by rw [get_app hn, List.map_append]; rfl) (by rw [List.length_map]; exact hl') ⟨_, rfl, .modI (Int.ne_of_gt hm) ?_⟩⟩
    exact h _ ns' _ (Int.fmod_nonneg_of_pos _ hm) (Int.fmod_lt_of_pos _ hm) (by rw [List.length_append]; exact Nat.le_add_right _ _) (get_set (get_app hn)) (fun m o hne e => get_set_ne (get_app e) (Ne.symm hne)) (by rw [List.length_set, List.length_append]; exact Nat.le_add_right _ _)
  · have : ns = [] := by
      cases ns with
      | nil => rfl
      | cons a r => exact absurd rfl hns
    subst this
    exact h 0 [] _ (Int.le_refl _) hm (Nat.le_refl _) (get_app hn) (fun m o _ e => get_app e) (by rw [List.length_append]; exact Nat.le_add_right _ _)

/-! ### small steps -/
theorem nodup_bound : ∀ (L : Nat) {l : List Nat}, l.Nodup → (∀ x ∈ l, x < L) → l.length ≤ L
  | 0, [], _, _ => Nat.le_refl _
  | 0, x :: _, _, h => absurd (h x List.mem_cons_self) (Nat.not_lt_zero _)
  | L + 1, l, hn, h => by
    have h1 := nodup_bound L (hn.erase L) (fun x hx => by
      have := (List.Nodup.mem_erase_iff hn).mp hx
      have := h x this.2
      omega)
    rw [List.length_erase] at h1
    split at h1 <;> omega
theorem item_list {r t : Nat} {ds : List D} {d : D} (hr : σ[r]? = some (.list ds)) (ht : ds[t]? = some d) (hl : t < 1000000) : item (.loc r) (I' (t : Int)) σ (.d d) := .list hr (Int.natCast_nonneg t) (by omega) (by rw [Int.toNat_natCast]; exact ht)
theorem item_row {r t : Nat} {rows : Rows} {i : Ins} (hr : RL σ r rows) (ht : rows[t]? = some i) (hL : rows.length ≤ 1000) : item (.loc r) (I' (t : Int)) σ (.d i.d) := item_list hr (RL.at ht) (Nat.lt_of_lt_of_le (lt_of_get ht) (Nat.le_trans hL (by decide)))
theorem cmp_eq_str (x y : Str) (σ : Store) : cmp .Eq (S' x) (S' y) σ (decide (D.s (.str x) = D.s (.str y))) := .eqD rfl rfl
theorem cmp_notin_dict {s : Nat} {ks : List Int} (i : Int) (h : σ[s]? = some (.dict ks)) : cmp .NotIn (I' i) (.loc s) σ (!decide (i ∈ ks)) := .niK h
theorem cmp_in_dict {s : Nat} {ks : List Int} (i : Int) (h : σ[s]? = some (.dict ks)) : cmp .In (I' i) (.loc s) σ (decide (i ∈ ks)) := .inK h
theorem mem_cast {t : Nat} {l : List Nat} : (t : Int) ∈ l.map (fun (x : Nat) => (x : Int)) ↔ t ∈ l := by
  simp only [List.mem_map]
  constructor
  · rintro ⟨a, h, e⟩
    obtain rfl : a = t := by omega
    exact h
  · exact fun h => ⟨t, h, rfl⟩
theorem lt_cons {t L : Nat} {l : List Nat} (h : t < L) (hb : ∀ x ∈ l, x < L) : ∀ x ∈ t :: l, x < L := fun y hy => by
  rcases List.mem_cons.mp hy with rfl | hy
  · exact h
  · exact hb y hy
theorem setItem_dict {s : Nat} {ks : List Int} (i : Int) (b : Bool) (h : σ[s]? = some (.dict ks)) (hl : ks.length < 1000000) : setItemV (.loc s) (I' i) (B' b) σ (σ.set s (.dict (i :: ks))) := .dict h hl
theorem nm_inj {x y : Str} : D.s (.str x) = D.s (.str y) ↔ x = y := by
  constructor
  · intro h; injection h with h; injection h
  · rintro rfl; rfl
theorem nm_jump {i : Ins} : D.s (.str i.nm) = D.s (.str "jump") ↔ ∃ u, i = .jump u := by
  cases i <;> first | exact ⟨fun _ => ⟨_, rfl⟩, fun _ => rfl⟩ | exact ⟨fun h => no (show decide _ = true from decide_eq_true h), fun ⟨_, h⟩ => by cases h⟩
theorem item1_jump (u : Nat) (σ : Store) : item (.d (Ins.jump u).d) (I' 1) σ (I' (u : Int)) := item1
theorem upd_self (ρ : Rho) (x : Str) (v : AV) : upd ρ x v x = some v := by simp [upd]
theorem upd_ne {ρ : Rho} {x y : String} {v : AV} (h : y ≠ x) : upd ρ (Str.ofString x) v (Str.ofString y) = ρ (Str.ofString y) := by
  unfold upd
  rw [if_neg (by rw [ofString_inj]; exact h)]
theorem getE {rows : Rows} {t : Nat} (h : t < rows.length) : ∃ i, rows[t]? = some i := ⟨_, List.getElem?_eq_getElem h⟩
theorem not_t {b : Prop} [Decidable b] (h : (!decide b) = true) : ¬ b := by simpa using h
theorem not_f {b : Prop} [Decidable b] (h : ¬ (!decide b) = true) : b := by simpa using h
theorem dec_t {b : Prop} [Decidable b] (h : decide b = true) : b := of_decide_eq_true h
theorem dec_f {b : Prop} [Decidable b] (h : ¬ decide b = true) : ¬ b := fun hb => h (decide_eq_true hb)

theorem c_last_target (r : Nat) (rows : Rows) (t : Nat) (hr : RL σ r rows) (hv : Vd rows) (ht : t < rows.length) (hL : rows.length ≤ 1000) (h : ∀ σ', Ext σ σ' → Q (I' (lastT rows t)) σ') :
    callP (ΦN C (k + 1)) "last_target" [.loc r, I' t] σ Q := by
  refine callP_fn rfl (phi_call (i := 10) rfl rfl ?_)
  change wB C _ (bodyOf (fnS 10)) (retQ Q) (upd (upd rho0 "rows" (.loc r)) "target" (I' t)) σ
  (refine wB_cons ?_; dsimp only [wE_int, wE_str, wE_bool, wE_none, wE_name, wE_tuple, wE_list, wE_dict, wE_bin, wE_not, wE_neg, wE_cmp, wE_if, wE_call, wE_meth, wE_attr, wE_to, wE_from, wE_subC, wE_subN, wE_subB, wE_subU, wE_comp, wE_comp2, wT_not, wT_bool, wT_cmp, wT_name, wT_call, wT_sub, wTs_and0, wTs_or0, wTs_and, wTs_or, wEs_nil, wEs_cons, wS_asg, wS_asgT, wS_asgS, wS_asgA, wS_aug, wS_expr, wS_if, wS_while, wS_for, wS_ret, wS_cont, seq_next, seq_ret, seq_cont, ret_ret, ret_next, loop_next, loop_cont, loop_ret])
  (refine wB_cons ?_; dsimp only [wE_int, wE_str, wE_bool, wE_none, wE_name, wE_tuple, wE_list, wE_dict, wE_bin, wE_not, wE_neg, wE_cmp, wE_if, wE_call, wE_meth, wE_attr, wE_to, wE_from, wE_subC, wE_subN, wE_subB, wE_subU, wE_comp, wE_comp2, wT_not, wT_bool, wT_cmp, wT_name, wT_call, wT_sub, wTs_and0, wTs_or0, wTs_and, wTs_or, wEs_nil, wEs_cons, wS_asg, wS_asgT, wS_asgS, wS_asgA, wS_aug, wS_expr, wS_if, wS_while, wS_for, wS_ret, wS_cont, seq_next, seq_ret, seq_cont, ret_ret, ret_next, loop_next, loop_cont, loop_ret])
  have hrl := lt_of_get hr
  refine while_of (fun m ρ σ' => ∃ (seen : List Nat) (t' : Nat), m + seen.length = rows.length ∧ ρ "rows" = some (.loc r) ∧ ρ "target" = some (I' t') ∧ ρ "seen" = some (.loc σ.length) ∧ σ'[σ.length]? = some (.dict (seen.map fun (x : Nat) => (x : Int))) ∧ Ext σ σ' ∧
      t' < rows.length ∧ seen.Nodup ∧ (∀ x ∈ seen, x < rows.length) ∧ chase rows (m + 1) seen t' = lastT rows t) rows.length
    ⟨[], t, rfl, rfl, rfl, rfl, get_new _ _, (Ext.refl σ).app _, ht, List.nodup_nil, fun _ h => (nomatch h), rfl⟩ ?_
  rintro m ρ σ' L ⟨seen, t', hm, e1, e2, e3, e4, x, ht', hnd, hb, hc⟩ hn _ _
  obtain ⟨i, hi⟩ := getE ht'
  rw [chase, hi] at hc
  have fin : lastT rows t = t' → wB C (ΦN C k) ((bodyOf (fnS 10)).drop 2) (retQ Q) ρ σ' := fun e => by
    (refine wB_cons ?_; dsimp only [wE_int, wE_str, wE_bool, wE_none, wE_name, wE_tuple, wE_list, wE_dict, wE_bin, wE_not, wE_neg, wE_cmp, wE_if, wE_call, wE_meth, wE_attr, wE_to, wE_from, wE_subC, wE_subN, wE_subB, wE_subU, wE_comp, wE_comp2, wT_not, wT_bool, wT_cmp, wT_name, wT_call, wT_sub, wTs_and0, wTs_or0, wTs_and, wTs_or, wEs_nil, wEs_cons, wS_asg, wS_asgT, wS_asgS, wS_asgA, wS_aug, wS_expr, wS_if, wS_while, wS_for, wS_ret, wS_cont, seq_next, seq_ret, seq_cont, ret_ret, ret_next, loop_next, loop_cont, loop_ret])
    exact ⟨_, e2, e ▸ h σ' x⟩
  dsimp only [wE_int, wE_str, wE_bool, wE_none, wE_name, wE_tuple, wE_list, wE_dict, wE_bin, wE_not, wE_neg, wE_cmp, wE_if, wE_call, wE_meth, wE_attr, wE_to, wE_from, wE_subC, wE_subN, wE_subB, wE_subU, wE_comp, wE_comp2, wT_not, wT_bool, wT_cmp, wT_name, wT_call, wT_sub, wTs_and0, wTs_or0, wTs_and, wTs_or, wEs_nil, wEs_cons, wS_asg, wS_asgT, wS_asgS, wS_asgA, wS_aug, wS_expr, wS_if, wS_while, wS_for, wS_ret, wS_cont, seq_next, seq_ret, seq_cont, ret_ret, ret_next, loop_next, loop_cont, loop_ret]
  refine ⟨_, e1, _, e2, _, item_row (hr.ext x) hi hL, _, item0 i σ', _, cmp_eq_str _ _ _, ite_both (fun hj => ?_) fun hj => ite_f rfl (fin ?_)⟩
  · obtain ⟨u, rfl⟩ := nm_jump.mp (dec_t hj)
    refine ⟨_, e2, _, e3, _, cmp_notin_dict _ e4, ite_both (fun hs => ite_t rfl ?_) fun hs => ite_f rfl (fin ?_)⟩
    · have hs : t' ∉ seen := fun h => not_t hs (mem_cast.mpr h)
      have hc : (if t' ∈ seen then t' else chase rows m (t' :: seen) u) = lastT rows t := hc
      rw [if_neg hs] at hc
      have hlt : seen.length + 1 ≤ rows.length := nodup_bound _ (List.nodup_cons.mpr ⟨hs, hnd⟩) (lt_cons ht' hb)
      have x2 := x.set (o := .dict ((t' : Int) :: seen.map fun (x : Nat) => (x : Int))) (Nat.le_refl _)
      cases m with
      | zero => omega
      | succ m =>
        (refine wB_cons ?_; dsimp only [wE_int, wE_str, wE_bool, wE_none, wE_name, wE_tuple, wE_list, wE_dict, wE_bin, wE_not, wE_neg, wE_cmp, wE_if, wE_call, wE_meth, wE_attr, wE_to, wE_from, wE_subC, wE_subN, wE_subB, wE_subU, wE_comp, wE_comp2, wT_not, wT_bool, wT_cmp, wT_name, wT_call, wT_sub, wTs_and0, wTs_or0, wTs_and, wTs_or, wEs_nil, wEs_cons, wS_asg, wS_asgT, wS_asgS, wS_asgA, wS_aug, wS_expr, wS_if, wS_while, wS_for, wS_ret, wS_cont, seq_next, seq_ret, seq_cont, ret_ret, ret_next, loop_next, loop_cont, loop_ret])
        refine ⟨_, e3, _, e2, _, setItem_dict _ _ e4 (by rw [List.length_map]; omega), ?_⟩
        (refine wB_cons ?_; dsimp only [wE_int, wE_str, wE_bool, wE_none, wE_name, wE_tuple, wE_list, wE_dict, wE_bin, wE_not, wE_neg, wE_cmp, wE_if, wE_call, wE_meth, wE_attr, wE_to, wE_from, wE_subC, wE_subN, wE_subB, wE_subU, wE_comp, wE_comp2, wT_not, wT_bool, wT_cmp, wT_name, wT_call, wT_sub, wTs_and0, wTs_or0, wTs_and, wTs_or, wEs_nil, wEs_cons, wS_asg, wS_asgT, wS_asgS, wS_asgA, wS_aug, wS_expr, wS_if, wS_while, wS_for, wS_ret, wS_cont, seq_next, seq_ret, seq_cont, ret_ret, ret_next, loop_next, loop_cont, loop_ret])
        exact ⟨_, e1, _, e2, _, item_row (hr.ext x2) hi hL, _, item1_jump u _, hn m _ _ (Nat.lt_succ_self m) ⟨t' :: seen, u, by rw [← hm, List.length_cons]; omega, e1, rfl, e3, get_set e4, x2, hv.tg _ _ hi u List.mem_cons_self, List.nodup_cons.mpr ⟨hs, hnd⟩, lt_cons ht' hb, hc⟩⟩
    · have hs := mem_cast.mp (not_f hs)
      have hc : (if t' ∈ seen then t' else chase rows m (t' :: seen) u) = lastT rows t := hc
      rw [if_pos hs] at hc
      exact hc.symm
  · rw [← hc]
    cases i <;> first | rfl | exact absurd rfl hj
end
end Mine

/-! W21 -/
namespace Mine

section
variable {C : Cx} {k : Nat} {σ : Store} {Q : EP}
theorem tgs_len (i : Ins) : i.tgs.length ≤ 1 := by unfold Ins.tgs; cases i.tg <;> simp
theorem take_next {α : Type} {l : List α} {i : Nat} {x : α} (h : l[i]? = some x) : l.take (i + 1) = l.take i ++ [x] := by
  rw [List.take_add_one, h]; rfl
theorem iDs_get {l : List Nat} {j : Nat} {d : D} (h : (iDs l)[j]? = some d) : ∃ t, l[j]? = some t ∧ d = iD t := by
  unfold iDs at h
  rw [List.getElem?_map] at h
  obtain ⟨t, ht, e⟩ := Option.map_eq_some_iff.mp h
  exact ⟨t, ht, e.symm⟩
theorem iDs_snoc (l : List Nat) (t : Nat) : iDs l ++ [iD t] = iDs (l ++ [t]) := by simp [iDs]
theorem iDs_len (l : List Nat) : (iDs l).length = l.length := by rw [iDs, List.length_map]
theorem mem_of_get {α : Type} {l : List α} {i : Nat} {x : α} (h : l[i]? = some x) : x ∈ l := List.mem_of_getElem? h
theorem iDs_small (i : Ins) : (iDs i.tgs).length ≤ 1000000 := by rw [iDs_len]; exact Nat.le_trans (tgs_len i) (by decide)
theorem take_small {α : Type} {l : List α} {j n : Nat} (h : l.length ≤ n) : (l.take j).length ≤ n := Nat.le_trans (by rw [List.length_take]; exact Nat.min_le_right _ _) h
theorem map_small {α β : Type} {l : List α} {f : α → β} {n m : Nat} (h : l.length ≤ n) (hn : n ≤ m) : (l.map f).length ≤ m := by rw [List.length_map]; exact Nat.le_trans h hn
theorem map_snoc {α β : Type} (f : α → β) (l : List α) (x : α) : l.map f ++ [f x] = (l ++ [x]).map f := by rw [List.map_append]; rfl

theorem thr_eq (rows : Rows) (i : Ins) : i.setT (lastT rows (i.tg.getD 0)) = i.thr rows := by cases i <;> rfl
theorem thread_at {rows : Rows} {n : Nat} {i : Ins} (h : rows[n]? = some i) : (threadR rows)[n]? = some (i.thr rows) := by rw [threadR, List.getElem?_map, h]; rfl
theorem c_thread_jumps (r : Nat) (rows : Rows) (hr : RL σ r rows) (hv : Vd rows) (hL : rows.length ≤ 1000) (h : ∀ n σ', Ext σ σ' → RL σ' n (threadR rows) → Q (.loc n) σ') :
    callP (ΦN C (k + 2)) "thread_jumps" [.loc r] σ Q := by
  refine callP_fn rfl (phi_call (i := 11) rfl rfl ?_)
  change wB C _ (bodyOf (fnS 11)) (retQ Q) (upd rho0 "rows" (.loc r)) σ
  (refine wB_cons ?_; dsimp only [wE_int, wE_str, wE_bool, wE_none, wE_name, wE_tuple, wE_list, wE_dict, wE_bin, wE_not, wE_neg, wE_cmp, wE_if, wE_call, wE_meth, wE_attr, wE_to, wE_from, wE_subC, wE_subN, wE_subB, wE_subU, wE_comp, wE_comp2, wT_not, wT_bool, wT_cmp, wT_name, wT_call, wT_sub, wTs_and0, wTs_or0, wTs_and, wTs_or, wEs_nil, wEs_cons, wS_asg, wS_asgT, wS_asgS, wS_asgA, wS_aug, wS_expr, wS_if, wS_while, wS_for, wS_ret, wS_cont, seq_next, seq_ret, seq_cont, ret_ret, ret_next, loop_next, loop_cont, loop_ret])
  refine ⟨small rfl, [], rfl, ?_⟩
  (refine wB_cons ?_; dsimp only [wE_int, wE_str, wE_bool, wE_none, wE_name, wE_tuple, wE_list, wE_dict, wE_bin, wE_not, wE_neg, wE_cmp, wE_if, wE_call, wE_meth, wE_attr, wE_to, wE_from, wE_subC, wE_subN, wE_subB, wE_subU, wE_comp, wE_comp2, wT_not, wT_bool, wT_cmp, wT_name, wT_call, wT_sub, wTs_and0, wTs_or0, wTs_and, wTs_or, wEs_nil, wEs_cons, wS_asg, wS_asgT, wS_asgS, wS_asgA, wS_aug, wS_expr, wS_if, wS_while, wS_for, wS_ret, wS_cont, seq_next, seq_ret, seq_cont, ret_ret, ret_next, loop_next, loop_cont, loop_ret])
  have hTL : (threadR rows).length ≤ 1000 := by rw [threadR, List.length_map]; exact hL
  refine ⟨_, rfl, for_of (ds := rows.map Ins.d) (get_app hr) (fun i ρ σ' => ρ "rows" = some (.loc r) ∧ ρ "result" = some (.loc σ.length) ∧ σ'[σ.length]? = some (.list (((threadR rows).take i).map Ins.d)) ∧ Ext σ σ')
    ⟨rfl, rfl, get_new _ _, (Ext.refl σ).app _⟩ (fun i ρ σ' hJ => hr.ext hJ.2.2.2) ?_ ?_⟩
  · rintro i d ρ σ' L hd ⟨e1, e2, e3, x⟩ hn _ _
    obtain ⟨row, hi, rfl⟩ := RL.get hd
    (refine wB_cons ?_; dsimp only [wE_int, wE_str, wE_bool, wE_none, wE_name, wE_tuple, wE_list, wE_dict, wE_bin, wE_not, wE_neg, wE_cmp, wE_if, wE_call, wE_meth, wE_attr, wE_to, wE_from, wE_subC, wE_subN, wE_subB, wE_subU, wE_comp, wE_comp2, wT_not, wT_bool, wT_cmp, wT_name, wT_call, wT_sub, wTs_and0, wTs_or0, wTs_and, wTs_or, wEs_nil, wEs_cons, wS_asg, wS_asgT, wS_asgS, wS_asgA, wS_aug, wS_expr, wS_if, wS_while, wS_for, wS_ret, wS_cont, seq_next, seq_ret, seq_cont, ret_ret, ret_next, loop_next, loop_cont, loop_ret])
    refine ⟨_, rfl, _, item0 row σ', small rfl, _, rfl, _, .inT rfl rfl, ite_f (by cases row <;> rfl) (wB_skip ?_)⟩
    (refine wB_cons ?_; dsimp only [wE_int, wE_str, wE_bool, wE_none, wE_name, wE_tuple, wE_list, wE_dict, wE_bin, wE_not, wE_neg, wE_cmp, wE_if, wE_call, wE_meth, wE_attr, wE_to, wE_from, wE_subC, wE_subN, wE_subB, wE_subU, wE_comp, wE_comp2, wT_not, wT_bool, wT_cmp, wT_name, wT_call, wT_sub, wTs_and0, wTs_or0, wTs_and, wTs_or, wEs_nil, wEs_cons, wS_asg, wS_asgT, wS_asgS, wS_asgA, wS_aug, wS_expr, wS_if, wS_while, wS_for, wS_ret, wS_cont, seq_next, seq_ret, seq_cont, ret_ret, ret_next, loop_next, loop_cont, loop_ret])
    refine ⟨_, rfl, c_row_targets row ?_⟩
    refine ⟨σ'.length, iDs row.tgs, rfl, get_new _ _, iDs_small row, fun j acc σ'' => acc = iDs ((row.tgs.take j).map (lastT rows)) ∧ Ext (σ' ++ [.list (iDs row.tgs)]) σ'', ⟨rfl, Ext.refl _⟩, fun j acc σ'' hJ => hJ.2 _ _ (get_new _ _), ?_, ?_⟩
    · rintro j d acc σ'' hd ⟨rfl, y⟩ ρ' hx hf
      obtain ⟨t, ht, rfl⟩ := iDs_get hd
      dsimp only [wE_int, wE_str, wE_bool, wE_none, wE_name, wE_tuple, wE_list, wE_dict, wE_bin, wE_not, wE_neg, wE_cmp, wE_if, wE_call, wE_meth, wE_attr, wE_to, wE_from, wE_subC, wE_subN, wE_subB, wE_subU, wE_comp, wE_comp2, wT_not, wT_bool, wT_cmp, wT_name, wT_call, wT_sub, wTs_and0, wTs_or0, wTs_and, wTs_or, wEs_nil, wEs_cons, wS_asg, wS_asgT, wS_asgS, wS_asgA, wS_aug, wS_expr, wS_if, wS_while, wS_for, wS_ret, wS_cont, seq_next, seq_ret, seq_cont, ret_ret, ret_next, loop_next, loop_cont, loop_ret]
      exact ⟨_, (hf "rows" rfl).trans e1, _, hx, c_last_target r rows t (hr.ext (x.trans (((Ext.refl σ').app _).trans y))) hv (hv.tg _ _ hi t (mem_of_get ht)) hL fun σ3 z => ⟨_, rfl, by rw [take_next ht, List.map_append]; exact iDs_snoc _ _, y.trans z⟩⟩
    · rintro acc σ'' ⟨rfl, y⟩ _
      have y' : Ext σ' σ'' := ((Ext.refl σ').app _).trans y
      have e3' := get_app (τ := [.list (iDs ((row.tgs.take (iDs row.tgs).length).map (lastT rows)))]) (y' _ _ e3)
      (refine wB_cons ?_; dsimp only [wE_int, wE_str, wE_bool, wE_none, wE_name, wE_tuple, wE_list, wE_dict, wE_bin, wE_not, wE_neg, wE_cmp, wE_if, wE_call, wE_meth, wE_attr, wE_to, wE_from, wE_subC, wE_subN, wE_subB, wE_subU, wE_comp, wE_comp2, wT_not, wT_bool, wT_cmp, wT_name, wT_call, wT_sub, wTs_and0, wTs_or0, wTs_and, wTs_or, wEs_nil, wEs_cons, wS_asg, wS_asgT, wS_asgS, wS_asgA, wS_aug, wS_expr, wS_if, wS_while, wS_for, wS_ret, wS_cont, seq_next, seq_ret, seq_cont, ret_ret, ret_next, loop_next, loop_cont, loop_ret])
      refine ⟨_, e2, isList e3', _, rfl, _, rfl, c_with_targets row _ (lastT rows (row.tg.getD 0)) _ (get_new _ _) ?_ (meth_append e3' (map_small (take_small hTL) (by decide)) ⟨rfl, hn _ _ ⟨e1, e2, ?_, (x.trans y').app _ |>.set (Nat.le_refl _)⟩⟩)⟩
      · cases row <;> first | exact fun _ => rfl | exact fun hs => no hs
      · rw [get_set e3', thr_eq, map_snoc, take_next (thread_at hi)]
  · rintro ρ σ' ⟨e1, e2, e3, x⟩
    show wB _ _ ((bodyOf (fnS 11)).drop 2) _ _ _
    (refine wB_cons ?_; dsimp only [wE_int, wE_str, wE_bool, wE_none, wE_name, wE_tuple, wE_list, wE_dict, wE_bin, wE_not, wE_neg, wE_cmp, wE_if, wE_call, wE_meth, wE_attr, wE_to, wE_from, wE_subC, wE_subN, wE_subB, wE_subU, wE_comp, wE_comp2, wT_not, wT_bool, wT_cmp, wT_name, wT_call, wT_sub, wTs_and0, wTs_or0, wTs_and, wTs_or, wEs_nil, wEs_cons, wS_asg, wS_asgT, wS_asgS, wS_asgA, wS_aug, wS_expr, wS_if, wS_while, wS_for, wS_ret, wS_cont, seq_next, seq_ret, seq_cont, ret_ret, ret_next, loop_next, loop_cont, loop_ret])
    refine ⟨_, e2, h _ _ x ?_⟩
    rw [List.length_map, show rows.length = (threadR rows).length by rw [threadR, List.length_map], List.take_length] at e3
    exact e3
end
end Mine

/-! W22 -/
namespace Mine

noncomputable def bD (b : Bool) : D := .s (.bool b)
noncomputable def flg (L : Nat) (rs : List Nat) : List D := (List.range L).map fun m => bD (decide (m ∈ rs))
theorem flg_get {L n : Nat} {rs : List Nat} (h : n < L) : (flg L rs)[n]? = some (bD (decide (n ∈ rs))) := by simp [flg, h]
theorem flg_len (L : Nat) (rs : List Nat) : (flg L rs).length = L := by simp [flg]
theorem flg_set {L n : Nat} {rs : List Nat} : (flg L rs).set n (bD true) = flg L (n :: rs) := by
  apply List.ext_getElem?
  intro m
  by_cases hm : m < L
  · by_cases e : n = m
    · subst e
      rw [List.getElem?_set_self (by rw [flg_len]; exact hm), flg_get hm]; simp
    · rw [List.getElem?_set_ne e, flg_get hm, flg_get hm]
      congr 2
      simp [Ne.symm e]
  · rw [List.getElem?_eq_none (by rw [List.length_set, flg_len]; omega), List.getElem?_eq_none (by rw [flg_len]; omega)]
theorem flg_nil (L : Nat) : List.replicate L (bD false) = flg L [] := by
  apply List.ext_getElem?
  intro m
  by_cases hm : m < L
  · rw [flg_get hm, List.getElem?_replicate, if_pos hm]; rfl
  · rw [List.getElem?_eq_none (by simp; omega), List.getElem?_eq_none (by rw [flg_len]; omega)]
theorem flg_congr {L : Nat} {rs rs' : List Nat} (h : ∀ n, n < L → (n ∈ rs ↔ n ∈ rs')) : flg L rs = flg L rs' := by
  apply List.map_congr_left
  intro m hm
  rw [List.mem_range] at hm
  simp [h m hm]

/-- a search through rows -/
structure RJ (rows : Rows) (rs pend : List Nat) : Prop where
  nd : rs.Nodup
  rsok : ∀ x ∈ rs, x < rows.length ∧ Reach rows x
  peok : ∀ x ∈ pend, x < rows.length ∧ Reach rows x
  zero : 0 ∈ rs ∨ 0 ∈ pend
  closed : ∀ n ∈ rs, ∀ i, rows[n]? = some i → ∀ m ∈ succs i n, m ∈ rs ∨ m ∈ pend
  size : pend.length ≤ 2 * rs.length + 1
theorem RJ.len {rows : Rows} {rs pend : List Nat} (x : RJ rows rs pend) : rs.length ≤ rows.length := nodup_bound _ x.nd fun y hy => (x.rsok y hy).1
theorem succs_lt {rows : Rows} (hv : Vd rows) {n m : Nat} {i : Ins} (h : rows[n]? = some i) (hm : m ∈ succs i n) : m < rows.length := by
  unfold succs at hm
  rcases List.mem_append.mp hm with hm | hm
  · exact hv.tg n i h m hm
  · split at hm
    · rename_i ho
      rw [List.mem_singleton.mp hm]
      exact hv.on n i h ho
    · cases hm
theorem succs_len (i : Ins) (n : Nat) : (succs i n).length ≤ 2 := by
  have := tgs_len i
  unfold succs
  split <;> simp <;> omega
theorem RJ.init {rows : Rows} (hv : Vd rows) : RJ rows [] [0] :=
  ⟨List.nodup_nil, by simp, fun x hx => by rw [List.mem_singleton.mp hx]; exact ⟨List.length_pos_iff.mpr hv.ne, .zero⟩, by simp, by simp, by simp⟩
theorem RJ.skip {rows : Rows} {rs pend : List Nat} {n : Nat} (x : RJ rows rs (pend ++ [n])) (hn : n ∈ rs) : RJ rows rs pend := by
  refine ⟨x.nd, x.rsok, fun y hy => x.peok y (List.mem_append_left _ hy), ?_, fun a ha i hi m hm => ?_, by have := x.size; simp at this; omega⟩
  · rcases x.zero with h | h
    · exact .inl h
    · rcases List.mem_append.mp h with h | h
      · exact .inr h
      · rw [List.mem_singleton.mp h]; exact .inl hn
  · rcases x.closed a ha i hi m hm with h | h
    · exact .inl h
    · rcases List.mem_append.mp h with h | h
      · exact .inr h
      · rw [List.mem_singleton.mp h]; exact .inl hn
theorem RJ.visit {rows : Rows} (hv : Vd rows) {rs pend : List Nat} {n : Nat} {i : Ins} (x : RJ rows rs (pend ++ [n])) (hn : n ∉ rs) (hi : rows[n]? = some i) : RJ rows (n :: rs) (pend ++ succs i n) := by
  have hp := x.peok n (by simp)
  refine ⟨List.nodup_cons.mpr ⟨hn, x.nd⟩, fun y hy => ?_, fun y hy => ?_, ?_, fun a ha j hj m hm => ?_, ?_⟩
  · rcases List.mem_cons.mp hy with rfl | hy
    · exact hp
    · exact x.rsok y hy
  · rcases List.mem_append.mp hy with hy | hy
    · exact x.peok y (List.mem_append_left _ hy)
    · exact ⟨succs_lt hv hi hy, .step hp.2 hi hy⟩
  · rcases x.zero with h | h
    · exact .inl (List.mem_cons_of_mem _ h)
    · rcases List.mem_append.mp h with h | h
      · exact .inr (List.mem_append_left _ h)
      · rw [List.mem_singleton.mp h]; exact .inl List.mem_cons_self
  · rcases List.mem_cons.mp ha with rfl | ha
    · rw [hi] at hj; cases hj
      exact .inr (List.mem_append_right _ hm)
    · rcases x.closed a ha j hj m hm with h | h
      · exact .inl (List.mem_cons_of_mem _ h)
      · rcases List.mem_append.mp h with h | h
        · exact .inr (List.mem_append_left _ h)
        · rw [List.mem_singleton.mp h]; exact .inl List.mem_cons_self
  · have := x.size
    have := succs_len i n
    simp at *
    omega
theorem RJ.done {rows : Rows} {rs : List Nat} (x : RJ rows rs []) {n : Nat} (h : Reach rows n) : n ∈ rs := by
  induction h with
  | zero => exact x.zero.resolve_right (by simp)
  | step _ hi hm ih => exact (x.closed _ ih _ hi _ hm).resolve_right (by simp)

theorem RJ.small {rows : Rows} {rs pend : List Nat} (x : RJ rows rs pend) (hL : rows.length ≤ 1000) : pend.length ≤ 2001 := by
  have := x.size
  have := x.len
  omega
noncomputable def ms (rows : Rows) (a b : Nat) : Nat := 3 * (rows.length - a) + b
theorem ms_skip {rows : Rows} {rs pend : List Nat} {n : Nat} : ms rows rs.length pend.length < ms rows rs.length (pend ++ [n]).length := by
  unfold ms
  rw [List.length_append]
  exact Nat.add_lt_add_left (Nat.lt_succ_self _) _
theorem RJ.ms_visit {rows : Rows} {rs pend : List Nat} {n m : Nat} {i : Ins} (x : RJ rows (n :: rs) (pend ++ succs i n)) (hm : m ≤ (pend ++ succs i n).length) : ms rows (n :: rs).length m < ms rows rs.length (pend ++ [n]).length := by
  have h1 := x.len
  have h2 := succs_len i n
  unfold ms
  rw [List.length_append] at hm
  rw [List.length_append, List.length_cons] at *
  simp only [List.length_singleton] at *
  omega
theorem succs_on {i : Ins} {n : Nat} (h : i.on = true) : succs i n = i.tgs ++ [n + 1] := by rw [succs, if_pos h]
theorem succs_off {i : Ins} {n : Nat} (h : ¬ i.on = true) : succs i n = i.tgs := by rw [succs, if_neg h, List.append_nil]

section
variable {C : Cx} {k : Nat} {σ : Store} {Q : EP} {Φ : CallT}
theorem c_len {n : Nat} {ds : List D} (hn : σ[n]? = some (.list ds)) (hl : ds.length ≤ 1000000) (h : Q (I' ds.length) σ) : callP Φ "len" [.loc n] σ Q :=
  callP_bi rfl (show ∃ ds', σ[n]? = some (.list ds') ∧ ds'.length ≤ 1000000 ∧ Q (I' ds'.length) σ from ⟨ds, hn, hl, h⟩)
theorem c_lenR {n : Nat} {rows : Rows} (hn : RL σ n rows) (hl : rows.length ≤ 1000) (h : Q (I' rows.length) σ) : callP Φ "len" [.loc n] σ Q :=
  c_len hn (map_small hl (by decide)) (by rw [List.length_map]; exact h)
theorem c_lenN {n : Nat} {l : List Nat} (hn : σ[n]? = some (.list (iDs l))) (hl : l.length ≤ 1000000) (h : Q (I' l.length) σ) : callP Φ "len" [.loc n] σ Q :=
  c_len hn (by rw [iDs_len]; exact hl) (by rw [iDs_len]; exact h)
theorem binop_rep {n : Nat} {d : D} {L : Nat} (hn : σ[n]? = some (.list [d])) (hl : L ≤ 1000000) (h : Q (.loc σ.length) (σ ++ [.list (List.replicate L d)])) : binop .Mult (.loc n) (I' L) σ Q :=
  .rep hn (Int.natCast_nonneg L) (by omega) (by rw [Int.toNat_natCast]; exact h)
theorem binop_succ {n : Nat} (h : Q (I' ((n + 1 : Nat) : Int)) σ) : binop .Add (I' n) (I' 1) σ Q := .addI h
theorem setItem_list {n i : Nat} {ds : List D} {d : D} (hn : σ[n]? = some (.list ds)) (hi : i < ds.length) (hl : i < 1000000) : setItemV (.loc n) (I' i) (.d d) σ (σ.set n (.list (ds.set i d))) :=
  .list hn (Int.natCast_nonneg i) (by omega) (by omega)
theorem setItem_flg {n i L : Nat} {rs : List Nat} (hn : σ[n]? = some (.list (flg L rs))) (hi : i < L) (hl : L ≤ 1000) : setItemV (.loc n) (I' i) (B' true) σ (σ.set n (.list (flg L (i :: rs)))) := by
  have := setItem_list (d := bD true) hn (by rw [flg_len]; exact hi) (by omega)
  rwa [flg_set] at this
theorem item_flg {n i L : Nat} {rs : List Nat} (hn : σ[n]? = some (.list (flg L rs))) (hi : i < L) (hl : L ≤ 1000) : item (.loc n) (I' i) σ (B' (decide (i ∈ rs))) := item_list hn (flg_get hi) (by omega)
theorem app_iD {n t : Nat} {l : List Nat} (hn : σ[n]? = some (.list (iDs l))) (hl : l.length ≤ 1000000) (h : Q N' (σ.set n (.list (iDs (l ++ [t]))))) : meth "append" (.loc n) [I' t] σ Q :=
  meth_append hn (by rw [iDs_len]; exact hl) (by rw [show ([D.s (S.int (t : Int))] : List D) = [iD t] from rfl, iDs_snoc]; exact h)
theorem pop_iD {n t : Nat} {l : List Nat} (hn : σ[n]? = some (.list (iDs (l ++ [t])))) (hl : l.length < 1000000) (h : Q (I' t) (σ.set n (.list (iDs l)))) : meth "pop" (.loc n) [] σ Q :=
  meth_pop (d := iD t) (by rw [hn, ← iDs_snoc]) (by rw [iDs_len]; exact hl) h

theorem get_new' {σ : Store} {n : Nat} {o : AO} (h : n = σ.length) : (σ ++ [o])[n]? = some o := by rw [h]; exact get_new σ o
theorem reachB_flg {rows : Rows} {rs : List Nat} (h : ∀ n, n < rows.length → (n ∈ rs ↔ Reach rows n)) : flg rows.length rs = (reachB rows).map bD := by
  unfold flg reachB
  rw [List.map_map]
  apply List.map_congr_left
  intro n hn
  exact congrArg bD (decide_eq_decide.mpr (h n (List.mem_range.mp hn)))
theorem le_mill {n : Nat} (h : n ≤ 2001) : n ≤ 1000000 := Nat.le_trans h (by decide)
theorem pend_lt {n m : Nat} (h : n + m ≤ 2001) : n < 1000000 := by omega
theorem le_of_app {l r : List Nat} {n : Nat} (h : (l ++ r).length ≤ n) : l.length ≤ n := by
  rw [List.length_append] at h
  omega

theorem c_reached_rows (r : Nat) (rows : Rows) (hr : RL σ r rows) (hv : Vd rows) (hL : rows.length ≤ 1000) (h : ∀ n σ', Ext σ σ' → σ'[n]? = some (.list ((reachB rows).map bD)) → Q (.loc n) σ') :
    callP (ΦN C (k + 2)) "reached_rows" [.loc r] σ Q := by
  refine callP_fn rfl (phi_call (i := 12) rfl rfl ?_)
  change wB C _ (bodyOf (fnS 12)) (retQ Q) (upd rho0 "rows" (.loc r)) σ
  (refine wB_cons ?_; dsimp only [wE_int, wE_str, wE_bool, wE_none, wE_name, wE_tuple, wE_list, wE_dict, wE_bin, wE_not, wE_neg, wE_cmp, wE_if, wE_call, wE_meth, wE_attr, wE_to, wE_from, wE_subC, wE_subN, wE_subB, wE_subU, wE_comp, wE_comp2, wT_not, wT_bool, wT_cmp, wT_name, wT_call, wT_sub, wTs_and0, wTs_or0, wTs_and, wTs_or, wEs_nil, wEs_cons, wS_asg, wS_asgT, wS_asgS, wS_asgA, wS_aug, wS_expr, wS_if, wS_while, wS_for, wS_ret, wS_cont, seq_next, seq_ret, seq_cont, ret_ret, ret_next, loop_next, loop_cont, loop_ret])
  refine ⟨small rfl, [bD false], rfl, _, rfl, c_lenR (get_app hr) hL (binop_rep (get_new _ _) (Nat.le_trans hL (by decide)) ?_)⟩
  (refine wB_cons ?_; dsimp only [wE_int, wE_str, wE_bool, wE_none, wE_name, wE_tuple, wE_list, wE_dict, wE_bin, wE_not, wE_neg, wE_cmp, wE_if, wE_call, wE_meth, wE_attr, wE_to, wE_from, wE_subC, wE_subN, wE_subB, wE_subU, wE_comp, wE_comp2, wT_not, wT_bool, wT_cmp, wT_name, wT_call, wT_sub, wTs_and0, wTs_or0, wTs_and, wTs_or, wEs_nil, wEs_cons, wS_asg, wS_asgT, wS_asgS, wS_asgA, wS_aug, wS_expr, wS_if, wS_while, wS_for, wS_ret, wS_cont, seq_next, seq_ret, seq_cont, ret_ret, ret_next, loop_next, loop_cont, loop_ret])
  refine ⟨small rfl, [iD 0], rfl, ?_⟩
  rw [flg_nil]
  obtain ⟨f, hf⟩ : ∃ f, f = (σ ++ [AO.list [bD false]]).length := ⟨_, rfl⟩
  rw [← hf]
  obtain ⟨p, hp⟩ : ∃ p, p = (σ ++ [AO.list [bD false]] ++ [AO.list (flg rows.length [])]).length := ⟨_, rfl⟩
  rw [← hp]
  have i1 := get_app (τ := [AO.list [iD 0]]) (get_new' (o := AO.list (flg rows.length [])) hf)
  have i2 := get_new' (o := AO.list (iDs [0])) hp
  have hpf : p ≠ f := by rw [hp, hf]; simp
  have hfl : σ.length ≤ f := by rw [hf, List.length_append]; exact Nat.le_add_right _ _
  have hpl : σ.length ≤ p := by rw [hp, List.length_append, ← hf]; exact Nat.le_trans hfl (Nat.le_add_right _ _)
  have x0 : Ext σ (σ ++ [AO.list [bD false]] ++ [AO.list (flg rows.length [])] ++ [AO.list [iD 0]]) := (((Ext.refl σ).app _).app _).app _
  clear hf hp
  (refine wB_cons ?_; dsimp only [wE_int, wE_str, wE_bool, wE_none, wE_name, wE_tuple, wE_list, wE_dict, wE_bin, wE_not, wE_neg, wE_cmp, wE_if, wE_call, wE_meth, wE_attr, wE_to, wE_from, wE_subC, wE_subN, wE_subB, wE_subU, wE_comp, wE_comp2, wT_not, wT_bool, wT_cmp, wT_name, wT_call, wT_sub, wTs_and0, wTs_or0, wTs_and, wTs_or, wEs_nil, wEs_cons, wS_asg, wS_asgT, wS_asgS, wS_asgA, wS_aug, wS_expr, wS_if, wS_while, wS_for, wS_ret, wS_cont, seq_next, seq_ret, seq_cont, ret_ret, ret_next, loop_next, loop_cont, loop_ret])
  refine while_of (fun m ρ σ' => ∃ rs pend : List Nat, m = ms rows rs.length pend.length ∧ ρ "rows" = some (.loc r) ∧ ρ "reached" = some (.loc f) ∧ ρ "pending" = some (.loc p) ∧
    σ'[f]? = some (.list (flg rows.length rs)) ∧ σ'[p]? = some (.list (iDs pend)) ∧ Ext σ σ' ∧ RJ rows rs pend) _ ⟨[], [0], rfl, rfl, rfl, rfl, i1, i2, x0, RJ.init hv⟩ ?_
  clear i1 i2 x0
  rintro _ ρ σ' L ⟨rs, pend, rfl, e1, e2, e3, f1, f2, x, J⟩ hn hcont _
  dsimp only [wE_int, wE_str, wE_bool, wE_none, wE_name, wE_tuple, wE_list, wE_dict, wE_bin, wE_not, wE_neg, wE_cmp, wE_if, wE_call, wE_meth, wE_attr, wE_to, wE_from, wE_subC, wE_subN, wE_subB, wE_subU, wE_comp, wE_comp2, wT_not, wT_bool, wT_cmp, wT_name, wT_call, wT_sub, wTs_and0, wTs_or0, wTs_and, wTs_or, wEs_nil, wEs_cons, wS_asg, wS_asgT, wS_asgS, wS_asgA, wS_aug, wS_expr, wS_if, wS_while, wS_for, wS_ret, wS_cont, seq_next, seq_ret, seq_cont, ret_ret, ret_next, loop_next, loop_cont, loop_ret]
  refine ⟨_, e3, c_lenN f2 (le_mill (J.small hL)) ⟨_, .gt, ite_both (fun hc => ?_) fun hc => ?_⟩⟩
  · have hne : pend ≠ [] := by
      rintro rfl
      exact no hc
    obtain ⟨pend', n, rfl⟩ : ∃ l a, pend = l ++ [a] := ⟨_, _, (List.dropLast_concat_getLast hne).symm⟩
    have hn' := J.peok n (List.mem_append_right _ List.mem_cons_self)
    have hsm := J.small hL
    rw [List.length_append] at hsm
    have x1 := x.set (n := p) (o := .list (iDs pend')) hpl
    have f1' := get_set_ne (m := p) (o' := .list (iDs pend')) f1 hpf
    have f2' := get_set (o' := .list (iDs pend')) f2
    (refine wB_cons ?_; dsimp only [wE_int, wE_str, wE_bool, wE_none, wE_name, wE_tuple, wE_list, wE_dict, wE_bin, wE_not, wE_neg, wE_cmp, wE_if, wE_call, wE_meth, wE_attr, wE_to, wE_from, wE_subC, wE_subN, wE_subB, wE_subU, wE_comp, wE_comp2, wT_not, wT_bool, wT_cmp, wT_name, wT_call, wT_sub, wTs_and0, wTs_or0, wTs_and, wTs_or, wEs_nil, wEs_cons, wS_asg, wS_asgT, wS_asgS, wS_asgA, wS_aug, wS_expr, wS_if, wS_while, wS_for, wS_ret, wS_cont, seq_next, seq_ret, seq_cont, ret_ret, ret_next, loop_next, loop_cont, loop_ret])
    refine ⟨_, e3, isList f2, pop_iD f2 (pend_lt hsm) ?_⟩
    (refine wB_cons ?_; dsimp only [wE_int, wE_str, wE_bool, wE_none, wE_name, wE_tuple, wE_list, wE_dict, wE_bin, wE_not, wE_neg, wE_cmp, wE_if, wE_call, wE_meth, wE_attr, wE_to, wE_from, wE_subC, wE_subN, wE_subB, wE_subU, wE_comp, wE_comp2, wT_not, wT_bool, wT_cmp, wT_name, wT_call, wT_sub, wTs_and0, wTs_or0, wTs_and, wTs_or, wEs_nil, wEs_cons, wS_asg, wS_asgT, wS_asgS, wS_asgA, wS_aug, wS_expr, wS_if, wS_while, wS_for, wS_ret, wS_cont, seq_next, seq_ret, seq_cont, ret_ret, ret_next, loop_next, loop_cont, loop_ret])
    refine ⟨_, rfl, _, e1, c_lenR (hr.ext x1) hL ⟨_, .ge, ite_f (decide_eq_false (by omega)) ⟨rfl, _, e2, _, rfl, _, item_flg f1' hn'.1 hL, _, rfl, ite_both (fun hin => ?_) fun hin => ite_f rfl (wB_skip ?_)⟩⟩⟩
    · (refine wB_cons ?_; dsimp only [wE_int, wE_str, wE_bool, wE_none, wE_name, wE_tuple, wE_list, wE_dict, wE_bin, wE_not, wE_neg, wE_cmp, wE_if, wE_call, wE_meth, wE_attr, wE_to, wE_from, wE_subC, wE_subN, wE_subB, wE_subU, wE_comp, wE_comp2, wT_not, wT_bool, wT_cmp, wT_name, wT_call, wT_sub, wTs_and0, wTs_or0, wTs_and, wTs_or, wEs_nil, wEs_cons, wS_asg, wS_asgT, wS_asgS, wS_asgA, wS_aug, wS_expr, wS_if, wS_while, wS_for, wS_ret, wS_cont, seq_next, seq_ret, seq_cont, ret_ret, ret_next, loop_next, loop_cont, loop_ret])
      exact hcont _ _ _ ms_skip ⟨rs, pend', rfl, e1, e2, e3, f1', f2', x1, J.skip (dec_t hin)⟩
    · obtain ⟨i, hi⟩ := getE hn'.1
      have x2 := x1.set (n := f) (o := .list (flg rows.length (n :: rs))) hfl
      have f2'' := get_set_ne (m := f) (o' := .list (flg rows.length (n :: rs))) f2' (Ne.symm hpf)
      have f1'' := get_set (o' := .list (flg rows.length (n :: rs))) f1'
      have J' := J.visit hv (dec_f hin) hi
      have hsm' := J'.small hL
      (refine wB_cons ?_; dsimp only [wE_int, wE_str, wE_bool, wE_none, wE_name, wE_tuple, wE_list, wE_dict, wE_bin, wE_not, wE_neg, wE_cmp, wE_if, wE_call, wE_meth, wE_attr, wE_to, wE_from, wE_subC, wE_subN, wE_subB, wE_subU, wE_comp, wE_comp2, wT_not, wT_bool, wT_cmp, wT_name, wT_call, wT_sub, wTs_and0, wTs_or0, wTs_and, wTs_or, wEs_nil, wEs_cons, wS_asg, wS_asgT, wS_asgS, wS_asgA, wS_aug, wS_expr, wS_if, wS_while, wS_for, wS_ret, wS_cont, seq_next, seq_ret, seq_cont, ret_ret, ret_next, loop_next, loop_cont, loop_ret])
      refine ⟨_, e2, _, rfl, _, setItem_flg f1' hn'.1 hL, ?_⟩
      generalize (σ'.set p (AO.list (iDs pend'))).set f (AO.list (flg rows.length (n :: rs))) = σ2 at *
      clear f1' f2' x1 f1 f2 x
      have hpne : p ≠ σ2.length := by have := lt_of_get f2''; omega
      (refine wB_cons ?_; dsimp only [wE_int, wE_str, wE_bool, wE_none, wE_name, wE_tuple, wE_list, wE_dict, wE_bin, wE_not, wE_neg, wE_cmp, wE_if, wE_call, wE_meth, wE_attr, wE_to, wE_from, wE_subC, wE_subN, wE_subB, wE_subU, wE_comp, wE_comp2, wT_not, wT_bool, wT_cmp, wT_name, wT_call, wT_sub, wTs_and0, wTs_or0, wTs_and, wTs_or, wEs_nil, wEs_cons, wS_asg, wS_asgT, wS_asgS, wS_asgA, wS_aug, wS_expr, wS_if, wS_while, wS_for, wS_ret, wS_cont, seq_next, seq_ret, seq_cont, ret_ret, ret_next, loop_next, loop_cont, loop_ret])
      refine ⟨_, e1, _, rfl, _, item_row (hr.ext x2) hi hL, c_row_targets i ?_⟩
      refine for_of (ds := iDs i.tgs) (get_new _ _) (fun j ρ' σ'' => ρ' "rows" = some (.loc r) ∧ ρ' "reached" = some (.loc f) ∧ ρ' "pending" = some (.loc p) ∧ ρ' "place" = some (I' n) ∧ σ''[f]? = some (.list (flg rows.length (n :: rs))) ∧
        σ''[p]? = some (.list (iDs (pend' ++ i.tgs.take j))) ∧ Ext σ σ'' ∧ σ''[σ2.length]? = some (.list (iDs i.tgs))) ⟨e1, e2, e3, rfl, get_app f1'', ?_, x2.app _, get_new _ _⟩ (fun j ρ' σ'' hJ => hJ.2.2.2.2.2.2.2) ?_ ?_
      · rw [List.take_zero, List.append_nil]; exact get_app f2''
      · rintro j d ρ' σ'' L' hd ⟨g1, g2, g3, g4, g5, g6, y, g7⟩ hn2 _ _
        obtain ⟨t, ht, rfl⟩ := iDs_get hd
        have hap : (pend' ++ i.tgs.take j).length ≤ 1000000 := by
          have := tgs_len i
          rw [List.length_append, List.length_take]; omega
        (refine wB_cons ?_; dsimp only [wE_int, wE_str, wE_bool, wE_none, wE_name, wE_tuple, wE_list, wE_dict, wE_bin, wE_not, wE_neg, wE_cmp, wE_if, wE_call, wE_meth, wE_attr, wE_to, wE_from, wE_subC, wE_subN, wE_subB, wE_subU, wE_comp, wE_comp2, wT_not, wT_bool, wT_cmp, wT_name, wT_call, wT_sub, wTs_and0, wTs_or0, wTs_and, wTs_or, wEs_nil, wEs_cons, wS_asg, wS_asgT, wS_asgS, wS_asgA, wS_aug, wS_expr, wS_if, wS_while, wS_for, wS_ret, wS_cont, seq_next, seq_ret, seq_cont, ret_ret, ret_next, loop_next, loop_cont, loop_ret])
        refine ⟨_, g3, isList g6, _, rfl, app_iD g6 hap ⟨rfl, hn2 _ _ ⟨g1, g2, g3, g4, get_set_ne g5 hpf, ?_, y.set hpl, get_set_ne g7 hpne⟩⟩⟩
        rw [get_set g6, take_next ht, List.append_assoc]
      · rintro ρ' σ'' ⟨g1, g2, g3, g4, g5, g6, y, g7⟩
        rw [iDs_len, List.take_length] at g6
        refine wB_cons ?_
        dsimp only [wE_int, wE_str, wE_bool, wE_none, wE_name, wE_tuple, wE_list, wE_dict, wE_bin, wE_not, wE_neg, wE_cmp, wE_if, wE_call, wE_meth, wE_attr, wE_to, wE_from, wE_subC, wE_subN, wE_subB, wE_subU, wE_comp, wE_comp2, wT_not, wT_bool, wT_cmp, wT_name, wT_call, wT_sub, wTs_and0, wTs_or0, wTs_and, wTs_or, wEs_nil, wEs_cons, wS_asg, wS_asgT, wS_asgS, wS_asgA, wS_aug, wS_expr, wS_if, wS_while, wS_for, wS_ret, wS_cont, seq_next, seq_ret, seq_cont, ret_ret, ret_next, loop_next, loop_cont, loop_ret]
        refine ⟨rfl, _, g1, _, g4, _, item_row (hr.ext y) hi hL, c_goes_on i ⟨_, rfl, ite_both (fun ho => ?_) fun ho => ?_⟩⟩
        · rw [succs_on ho, ← List.append_assoc] at hsm'
          (refine wB_cons ?_; dsimp only [wE_int, wE_str, wE_bool, wE_none, wE_name, wE_tuple, wE_list, wE_dict, wE_bin, wE_not, wE_neg, wE_cmp, wE_if, wE_call, wE_meth, wE_attr, wE_to, wE_from, wE_subC, wE_subN, wE_subB, wE_subU, wE_comp, wE_comp2, wT_not, wT_bool, wT_cmp, wT_name, wT_call, wT_sub, wTs_and0, wTs_or0, wTs_and, wTs_or, wEs_nil, wEs_cons, wS_asg, wS_asgT, wS_asgS, wS_asgA, wS_aug, wS_expr, wS_if, wS_while, wS_for, wS_ret, wS_cont, seq_next, seq_ret, seq_cont, ret_ret, ret_next, loop_next, loop_cont, loop_ret])
          refine ⟨_, g3, isList g6, _, g4, binop_succ (app_iD g6 (le_mill (le_of_app hsm')) ⟨rfl, hn _ _ _ (J'.ms_visit (Nat.le_refl _)) ⟨n :: rs, pend' ++ succs i n, rfl, g1, g2, g3, get_set_ne g5 hpf, ?_, y.set hpl, J'⟩⟩)⟩
          rw [get_set g6, succs_on ho, List.append_assoc]
        · refine hn _ _ _ (J'.ms_visit (Nat.le_refl _)) ⟨n :: rs, pend' ++ succs i n, rfl, g1, g2, g3, g5, ?_, y, J'⟩
          rw [g6, succs_off ho]
  · have : pend = [] := by
      cases pend with
      | nil => rfl
      | cons a l => exact absurd (decide_eq_true (show ((0 : Nat) : Int) < ((a :: l).length : Nat) from Int.ofNat_lt.mpr (Nat.succ_pos _))) hc
    subst this
    refine wB_cons ?_
    dsimp only [wE_int, wE_str, wE_bool, wE_none, wE_name, wE_tuple, wE_list, wE_dict, wE_bin, wE_not, wE_neg, wE_cmp, wE_if, wE_call, wE_meth, wE_attr, wE_to, wE_from, wE_subC, wE_subN, wE_subB, wE_subU, wE_comp, wE_comp2, wT_not, wT_bool, wT_cmp, wT_name, wT_call, wT_sub, wTs_and0, wTs_or0, wTs_and, wTs_or, wEs_nil, wEs_cons, wS_asg, wS_asgT, wS_asgS, wS_asgA, wS_aug, wS_expr, wS_if, wS_while, wS_for, wS_ret, wS_cont, seq_next, seq_ret, seq_cont, ret_ret, ret_next, loop_next, loop_cont, loop_ret]
    refine ⟨_, e2, h _ _ x ?_⟩
    rw [f1, reachB_flg fun n hn => ⟨fun hm => (J.rsok n hm).2, fun hm => J.done hm⟩]
end
end Mine

/-! W23 -/
namespace Mine

section
variable {C : Cx} {k : Nat} {σ : Store} {Q : EP} {Φ : CallT}
theorem aims_snoc {rows : Rows} {i : Nat} {row : Ins} (h : rows[i]? = some row) (t : Nat) : t ∈ aims (rows.take (i + 1)) ↔ t ∈ aims (rows.take i) ∨ t ∈ row.tgs := by
  rw [take_next h]
  simp [aims]
theorem mem_snoc {P : Nat → Prop} {t u : Nat} {l r : List Nat} (h : ∀ v, v ∈ r ↔ P v ∨ v ∈ l) : u ∈ t :: r ↔ P u ∨ u ∈ l ++ [t] := by
  rw [List.mem_cons, List.mem_append, h, List.mem_singleton]
  constructor
  · rintro (h | h | h)
    · exact .inr (.inr h)
    · exact .inl h
    · exact .inr (.inl h)
  · rintro (h | h | h)
    · exact .inr (.inl h)
    · exact .inr (.inr h)
    · exact .inl h
theorem c_target_flags (r : Nat) (rows : Rows) (hr : RL σ r rows) (hv : Vd rows) (hL : rows.length ≤ 1000) (h : ∀ n σ', Ext σ σ' → σ'[n]? = some (.list (flg rows.length (aims rows))) → Q (.loc n) σ') :
    callP (ΦN C (k + 2)) "target_flags" [.loc r] σ Q := by
  refine callP_fn rfl (phi_call (i := 13) rfl rfl ?_)
  change wB C _ (bodyOf (fnS 13)) (retQ Q) (upd rho0 "rows" (.loc r)) σ
  (refine wB_cons ?_; dsimp only [wE_int, wE_str, wE_bool, wE_none, wE_name, wE_tuple, wE_list, wE_dict, wE_bin, wE_not, wE_neg, wE_cmp, wE_if, wE_call, wE_meth, wE_attr, wE_to, wE_from, wE_subC, wE_subN, wE_subB, wE_subU, wE_comp, wE_comp2, wT_not, wT_bool, wT_cmp, wT_name, wT_call, wT_sub, wTs_and0, wTs_or0, wTs_and, wTs_or, wEs_nil, wEs_cons, wS_asg, wS_asgT, wS_asgS, wS_asgA, wS_aug, wS_expr, wS_if, wS_while, wS_for, wS_ret, wS_cont, seq_next, seq_ret, seq_cont, ret_ret, ret_next, loop_next, loop_cont, loop_ret])
  refine ⟨small rfl, [bD false], rfl, _, rfl, c_lenR (get_app hr) hL (binop_rep (get_new _ _) (Nat.le_trans hL (by decide)) ?_)⟩
  rw [flg_nil]
  obtain ⟨f, hf⟩ : ∃ f, f = (σ ++ [AO.list [bD false]]).length := ⟨_, rfl⟩
  rw [← hf]
  have i1 := get_new' (o := AO.list (flg rows.length [])) hf
  have hfl : σ.length ≤ f := by rw [hf, List.length_append]; exact Nat.le_add_right _ _
  clear hf
  (refine wB_cons ?_; dsimp only [wE_int, wE_str, wE_bool, wE_none, wE_name, wE_tuple, wE_list, wE_dict, wE_bin, wE_not, wE_neg, wE_cmp, wE_if, wE_call, wE_meth, wE_attr, wE_to, wE_from, wE_subC, wE_subN, wE_subB, wE_subU, wE_comp, wE_comp2, wT_not, wT_bool, wT_cmp, wT_name, wT_call, wT_sub, wTs_and0, wTs_or0, wTs_and, wTs_or, wEs_nil, wEs_cons, wS_asg, wS_asgT, wS_asgS, wS_asgA, wS_aug, wS_expr, wS_if, wS_while, wS_for, wS_ret, wS_cont, seq_next, seq_ret, seq_cont, ret_ret, ret_next, loop_next, loop_cont, loop_ret])
  refine ⟨_, rfl, for_of (ds := rows.map Ins.d) (get_app (get_app hr)) (fun i ρ σ' => ρ "flags" = some (.loc f) ∧ Ext σ σ' ∧ ∃ rs, σ'[f]? = some (.list (flg rows.length rs)) ∧ ∀ t, t ∈ rs ↔ t ∈ aims (rows.take i))
    ⟨rfl, ((Ext.refl σ).app _).app _, [], i1, fun _ => Iff.rfl⟩ (fun i ρ σ' hJ => hr.ext hJ.2.1) ?_ ?_⟩
  · rintro i d ρ σ' L hd ⟨e1, x, rs, e2, e3⟩ hn _ _
    obtain ⟨row, hi, rfl⟩ := RL.get hd
    (refine wB_cons ?_; dsimp only [wE_int, wE_str, wE_bool, wE_none, wE_name, wE_tuple, wE_list, wE_dict, wE_bin, wE_not, wE_neg, wE_cmp, wE_if, wE_call, wE_meth, wE_attr, wE_to, wE_from, wE_subC, wE_subN, wE_subB, wE_subU, wE_comp, wE_comp2, wT_not, wT_bool, wT_cmp, wT_name, wT_call, wT_sub, wTs_and0, wTs_or0, wTs_and, wTs_or, wEs_nil, wEs_cons, wS_asg, wS_asgT, wS_asgS, wS_asgA, wS_aug, wS_expr, wS_if, wS_while, wS_for, wS_ret, wS_cont, seq_next, seq_ret, seq_cont, ret_ret, ret_next, loop_next, loop_cont, loop_ret])
    refine ⟨_, rfl, c_row_targets row ?_⟩
    refine for_of (ds := iDs row.tgs) (get_new _ _) (fun j ρ' σ'' => ρ' "flags" = some (.loc f) ∧ Ext σ σ'' ∧ σ''[σ'.length]? = some (.list (iDs row.tgs)) ∧ ∃ rs, σ''[f]? = some (.list (flg rows.length rs)) ∧ ∀ t, t ∈ rs ↔ t ∈ aims (rows.take i) ∨ t ∈ row.tgs.take j)
      ⟨e1, x.app _, get_new _ _, rs, get_app e2, fun t => (e3 t).trans ⟨.inl, fun h => h.resolve_right (fun h => nomatch h)⟩⟩ (fun j ρ' σ'' hJ => hJ.2.2.1) ?_ ?_
    · rintro j d ρ' σ'' L2 hd ⟨g1, y, g2, rs', g3, g4⟩ hn2 _ _
      obtain ⟨t, ht, rfl⟩ := iDs_get hd
      (refine wB_cons ?_; dsimp only [wE_int, wE_str, wE_bool, wE_none, wE_name, wE_tuple, wE_list, wE_dict, wE_bin, wE_not, wE_neg, wE_cmp, wE_if, wE_call, wE_meth, wE_attr, wE_to, wE_from, wE_subC, wE_subN, wE_subB, wE_subU, wE_comp, wE_comp2, wT_not, wT_bool, wT_cmp, wT_name, wT_call, wT_sub, wTs_and0, wTs_or0, wTs_and, wTs_or, wEs_nil, wEs_cons, wS_asg, wS_asgT, wS_asgS, wS_asgA, wS_aug, wS_expr, wS_if, wS_while, wS_for, wS_ret, wS_cont, seq_next, seq_ret, seq_cont, ret_ret, ret_next, loop_next, loop_cont, loop_ret])
      refine ⟨_, g1, _, rfl, _, setItem_flg g3 (hv.tg _ _ hi t (mem_of_get ht)) hL, hn2 _ _ ⟨g1, y.set hfl, get_set_ne g2 (Nat.ne_of_lt (lt_of_get e2)), t :: rs', get_set g3, fun u => ?_⟩⟩
      rw [take_next ht]
      exact mem_snoc g4
    · rintro ρ' σ'' ⟨g1, y, g2, rs', g3, g4⟩
      refine hn _ _ ⟨g1, y, rs', g3, fun u => ?_⟩
      rw [g4, aims_snoc hi, iDs_len, List.take_length]
  · rintro ρ σ' ⟨e1, x, rs, e2, e3⟩
    refine wB_cons ?_
    dsimp only [wE_int, wE_str, wE_bool, wE_none, wE_name, wE_tuple, wE_list, wE_dict, wE_bin, wE_not, wE_neg, wE_cmp, wE_if, wE_call, wE_meth, wE_attr, wE_to, wE_from, wE_subC, wE_subN, wE_subB, wE_subU, wE_comp, wE_comp2, wT_not, wT_bool, wT_cmp, wT_name, wT_call, wT_sub, wTs_and0, wTs_or0, wTs_and, wTs_or, wEs_nil, wEs_cons, wS_asg, wS_asgT, wS_asgS, wS_asgA, wS_aug, wS_expr, wS_if, wS_while, wS_for, wS_ret, wS_cont, seq_next, seq_ret, seq_cont, ret_ret, ret_next, loop_next, loop_cont, loop_ret]
    refine ⟨_, e1, h _ _ x ?_⟩
    rw [e2]
    congr 2
    refine flg_congr fun n _ => ?_
    rw [e3, List.length_map, List.take_length]

theorem c_range {L : Nat} (hl : L ≤ 1000000) (h : Q (.rng L) σ) : callP Φ "range" [I' (L : Int)] σ Q :=
  callP_bi rfl (show 0 ≤ (L : Int) ∧ (L : Int) ≤ 1000000 ∧ Q (.rng (L : Int).toNat) σ from ⟨Int.natCast_nonneg L, by omega, by rw [Int.toNat_natCast]; exact h⟩)
theorem rng_get {L i : Nat} {d : D} (h : ((List.range L).map fun (i : Nat) => iD (i : Int))[i]? = some d) : i < L ∧ d = iD (i : Int) := by
  rw [List.getElem?_map] at h
  obtain ⟨t, ht, e⟩ := Option.map_eq_some_iff.mp h
  have hl := lt_of_get ht
  rw [List.length_range] at hl
  rw [List.getElem?_range hl] at ht
  cases ht
  exact ⟨hl, e.symm⟩
noncomputable def rngD (L : Nat) : List D := (List.range L).map fun (i : Nat) => iD (i : Int)
theorem rngD_len (L : Nat) : (rngD L).length = L := by rw [rngD, List.length_map, List.length_range]
theorem iter_rng {L : Nat} (h : L ≤ 1000000) (σ : Store) : iterOf (.rng L) σ (rngD L) := ⟨h, rfl⟩
theorem place_succ (kl : List Bool) (i : Nat) (b : Bool) (h : kl[i]? = some b) : place kl (i + 1) = place kl i + if b = true then 1 else 0 := by
  unfold place
  rw [take_next h, List.count_append]
  cases b <;> simp
theorem place_t {kl : List Bool} {i : Nat} (h : kl[i]? = some true) : place kl (i + 1) = place kl i + 1 := place_succ kl i true h
theorem place_f {kl : List Bool} {i : Nat} (h : kl[i]? = some false) : place kl (i + 1) = place kl i := place_succ kl i false h
theorem bool_at {kl : List Bool} {i : Nat} (h : i < kl.length) : ∃ b, kl[i]? = some b := ⟨_, List.getElem?_eq_getElem h⟩
theorem item_bool {n i : Nat} {kl : List Bool} {b : Bool} (hk : σ[n]? = some (.list (kl.map bD))) (hb : kl[i]? = some b) (hl : i < 1000000) : item (.loc n) (I' i) σ (B' b) := item_list (d := bD b) hk (by rw [List.getElem?_map, hb]; rfl) hl
/-- the rows kept among the first ones -/
noncomputable def keepP (rows : Rows) (kl : List Bool) (i : Nat) : Rows := ((rows.zip kl).take i).filterMap fun p => if p.2 = true then some (p.1.mv kl) else none
theorem keepP_t {rows : Rows} {kl : List Bool} {i : Nat} {row : Ins} (h : rows[i]? = some row) (hb : kl[i]? = some true) : keepP rows kl (i + 1) = keepP rows kl i ++ [row.mv kl] := by
  have hz : (rows.zip kl)[i]? = some (row, true) := List.getElem?_zip_eq_some.mpr ⟨h, hb⟩
  rw [keepP, take_next hz, List.filterMap_append]; rfl
theorem keepP_f {rows : Rows} {kl : List Bool} {i : Nat} {row : Ins} (h : rows[i]? = some row) (hb : kl[i]? = some false) : keepP rows kl (i + 1) = keepP rows kl i := by
  have hz : (rows.zip kl)[i]? = some (row, false) := List.getElem?_zip_eq_some.mpr ⟨h, hb⟩
  rw [keepP, take_next hz, List.filterMap_append]
  exact List.append_nil _
theorem keepP_len (rows : Rows) (kl : List Bool) (i : Nat) : (keepP rows kl i).length ≤ rows.length := by
  unfold keepP
  refine Nat.le_trans (List.length_filterMap_le _ _) ?_
  rw [List.length_take, List.length_zip]
  omega
theorem mv_eq (kl : List Bool) (i : Ins) : i.setT (place kl (i.tg.getD 0)) = i.mv kl := by cases i <;> rfl

theorem c_keep_rows (r kp : Nat) (rows : Rows) (kl : List Bool) (hr : RL σ r rows) (hk : σ[kp]? = some (.list (kl.map bD))) (hkl : kl.length = rows.length) (hv : Vd rows) (hL : rows.length ≤ 1000) (h : ∀ n σ', Ext σ σ' → RL σ' n (keepR rows kl) → Q (.loc n) σ') :
    callP (ΦN C (k + 2)) "keep_rows" [.loc r, .loc kp] σ Q := by
  refine callP_fn rfl (phi_call (i := 16) rfl rfl ?_)
  change wB C _ (bodyOf (fnS 16)) (retQ Q) (upd (upd rho0 "rows" (.loc r)) "kept" (.loc kp)) σ
  have hmil : rows.length ≤ 1000000 := Nat.le_trans hL (by decide)
  (refine wB_cons ?_; dsimp only [wE_int, wE_str, wE_bool, wE_none, wE_name, wE_tuple, wE_list, wE_dict, wE_bin, wE_not, wE_neg, wE_cmp, wE_if, wE_call, wE_meth, wE_attr, wE_to, wE_from, wE_subC, wE_subN, wE_subB, wE_subU, wE_comp, wE_comp2, wT_not, wT_bool, wT_cmp, wT_name, wT_call, wT_sub, wTs_and0, wTs_or0, wTs_and, wTs_or, wEs_nil, wEs_cons, wS_asg, wS_asgT, wS_asgS, wS_asgA, wS_aug, wS_expr, wS_if, wS_while, wS_for, wS_ret, wS_cont, seq_next, seq_ret, seq_cont, ret_ret, ret_next, loop_next, loop_cont, loop_ret])
  refine ⟨small rfl, [], rfl, ?_⟩
  (refine wB_cons ?_; dsimp only [wE_int, wE_str, wE_bool, wE_none, wE_name, wE_tuple, wE_list, wE_dict, wE_bin, wE_not, wE_neg, wE_cmp, wE_if, wE_call, wE_meth, wE_attr, wE_to, wE_from, wE_subC, wE_subN, wE_subB, wE_subU, wE_comp, wE_comp2, wT_not, wT_bool, wT_cmp, wT_name, wT_call, wT_sub, wTs_and0, wTs_or0, wTs_and, wTs_or, wEs_nil, wEs_cons, wS_asg, wS_asgT, wS_asgS, wS_asgA, wS_aug, wS_expr, wS_if, wS_while, wS_for, wS_ret, wS_cont, seq_next, seq_ret, seq_cont, ret_ret, ret_next, loop_next, loop_cont, loop_ret])
  (refine wB_cons ?_; dsimp only [wE_int, wE_str, wE_bool, wE_none, wE_name, wE_tuple, wE_list, wE_dict, wE_bin, wE_not, wE_neg, wE_cmp, wE_if, wE_call, wE_meth, wE_attr, wE_to, wE_from, wE_subC, wE_subN, wE_subB, wE_subU, wE_comp, wE_comp2, wT_not, wT_bool, wT_cmp, wT_name, wT_call, wT_sub, wTs_and0, wTs_or0, wTs_and, wTs_or, wEs_nil, wEs_cons, wS_asg, wS_asgT, wS_asgS, wS_asgA, wS_aug, wS_expr, wS_if, wS_while, wS_for, wS_ret, wS_cont, seq_next, seq_ret, seq_cont, ret_ret, ret_next, loop_next, loop_cont, loop_ret])
  refine ⟨_, rfl, c_lenR (get_app hr) hL (c_range hmil ?_)⟩
  refine for_of (iter_rng hmil _) (fun i ρ σ' => ρ "rows" = some (.loc r) ∧ ρ "kept" = some (.loc kp) ∧ ρ "places" = some (.loc σ.length) ∧ ρ "count" = some (I' (place kl i)) ∧ σ'[σ.length]? = some (.list (iDs ((List.range i).map (place kl)))) ∧ Ext σ σ')
    ⟨rfl, rfl, rfl, rfl, get_new _ _, (Ext.refl σ).app _⟩ (fun _ _ _ _ => iter_rng hmil _) ?_ ?_
  · rintro i d ρ σ' L hd ⟨e1, e2, e3, e4, e5, x⟩ hn _ _
    obtain ⟨hi, rfl⟩ := rng_get hd
    have hi1 : i ≤ 1000000 := Nat.le_trans (Nat.le_of_lt hi) hmil
    obtain ⟨b, hb⟩ := bool_at (hkl ▸ hi)
    have g5 : (σ'.set σ.length (AO.list (iDs ((List.range i).map (place kl) ++ [place kl i]))))[σ.length]? = some (.list (iDs ((List.range (i + 1)).map (place kl)))) := by
      rw [get_set e5, List.range_succ, List.map_append]; rfl
    have x' := x.set (o := (AO.list (iDs ((List.range i).map (place kl) ++ [place kl i])))) (Nat.le_refl _)
    (refine wB_cons ?_; dsimp only [wE_int, wE_str, wE_bool, wE_none, wE_name, wE_tuple, wE_list, wE_dict, wE_bin, wE_not, wE_neg, wE_cmp, wE_if, wE_call, wE_meth, wE_attr, wE_to, wE_from, wE_subC, wE_subN, wE_subB, wE_subU, wE_comp, wE_comp2, wT_not, wT_bool, wT_cmp, wT_name, wT_call, wT_sub, wTs_and0, wTs_or0, wTs_and, wTs_or, wEs_nil, wEs_cons, wS_asg, wS_asgT, wS_asgS, wS_asgA, wS_aug, wS_expr, wS_if, wS_while, wS_for, wS_ret, wS_cont, seq_next, seq_ret, seq_cont, ret_ret, ret_next, loop_next, loop_cont, loop_ret])
    refine ⟨_, e3, isList e5, _, e4, app_iD e5 (by rw [List.length_map, List.length_range]; exact hi1) ⟨rfl, ?_⟩⟩
    (refine wB_cons ?_; dsimp only [wE_int, wE_str, wE_bool, wE_none, wE_name, wE_tuple, wE_list, wE_dict, wE_bin, wE_not, wE_neg, wE_cmp, wE_if, wE_call, wE_meth, wE_attr, wE_to, wE_from, wE_subC, wE_subN, wE_subB, wE_subU, wE_comp, wE_comp2, wT_not, wT_bool, wT_cmp, wT_name, wT_call, wT_sub, wTs_and0, wTs_or0, wTs_and, wTs_or, wEs_nil, wEs_cons, wS_asg, wS_asgT, wS_asgS, wS_asgA, wS_aug, wS_expr, wS_if, wS_while, wS_for, wS_ret, wS_cont, seq_next, seq_ret, seq_cont, ret_ret, ret_next, loop_next, loop_cont, loop_ret])
    refine ⟨rfl, _, e2, _, rfl, _, item_bool (x' _ _ hk) hb (Nat.lt_of_lt_of_le hi hmil), _, rfl, ?_⟩
    cases b with
    | true =>
      refine ite_t rfl ?_
      (refine wB_cons ?_; dsimp only [wE_int, wE_str, wE_bool, wE_none, wE_name, wE_tuple, wE_list, wE_dict, wE_bin, wE_not, wE_neg, wE_cmp, wE_if, wE_call, wE_meth, wE_attr, wE_to, wE_from, wE_subC, wE_subN, wE_subB, wE_subU, wE_comp, wE_comp2, wT_not, wT_bool, wT_cmp, wT_name, wT_call, wT_sub, wTs_and0, wTs_or0, wTs_and, wTs_or, wEs_nil, wEs_cons, wS_asg, wS_asgT, wS_asgS, wS_asgA, wS_aug, wS_expr, wS_if, wS_while, wS_for, wS_ret, wS_cont, seq_next, seq_ret, seq_cont, ret_ret, ret_next, loop_next, loop_cont, loop_ret])
      refine ⟨_, e4, _, rfl, hn _ _ ⟨e1, e2, e3, ?_, g5, x'⟩⟩
      rw [place_t hb]; rfl
    | false =>
      refine ite_f rfl (hn _ _ ⟨e1, e2, e3, ?_, g5, x'⟩)
      rw [place_f hb]; exact e4
  · rintro ρ σ' ⟨e1, e2, e3, e4, e5, x⟩
    rw [rngD_len] at e5
    have hsl : σ.length < σ'.length := lt_of_get e5
    refine wB_cons ?_
    dsimp only [wE_int, wE_str, wE_bool, wE_none, wE_name, wE_tuple, wE_list, wE_dict, wE_bin, wE_not, wE_neg, wE_cmp, wE_if, wE_call, wE_meth, wE_attr, wE_to, wE_from, wE_subC, wE_subN, wE_subB, wE_subU, wE_comp, wE_comp2, wT_not, wT_bool, wT_cmp, wT_name, wT_call, wT_sub, wTs_and0, wTs_or0, wTs_and, wTs_or, wEs_nil, wEs_cons, wS_asg, wS_asgT, wS_asgS, wS_asgA, wS_aug, wS_expr, wS_if, wS_while, wS_for, wS_ret, wS_cont, seq_next, seq_ret, seq_cont, ret_ret, ret_next, loop_next, loop_cont, loop_ret]
    refine ⟨small rfl, [], rfl, ?_⟩
    (refine wB_cons ?_; dsimp only [wE_int, wE_str, wE_bool, wE_none, wE_name, wE_tuple, wE_list, wE_dict, wE_bin, wE_not, wE_neg, wE_cmp, wE_if, wE_call, wE_meth, wE_attr, wE_to, wE_from, wE_subC, wE_subN, wE_subB, wE_subU, wE_comp, wE_comp2, wT_not, wT_bool, wT_cmp, wT_name, wT_call, wT_sub, wTs_and0, wTs_or0, wTs_and, wTs_or, wEs_nil, wEs_cons, wS_asg, wS_asgT, wS_asgS, wS_asgA, wS_aug, wS_expr, wS_if, wS_while, wS_for, wS_ret, wS_cont, seq_next, seq_ret, seq_cont, ret_ret, ret_next, loop_next, loop_cont, loop_ret])
    refine ⟨_, e1, c_lenR (get_app (hr.ext x)) hL (c_range hmil ?_)⟩
    refine for_of (iter_rng hmil _) (fun i ρ σ'' => ρ "rows" = some (.loc r) ∧ ρ "kept" = some (.loc kp) ∧ ρ "places" = some (.loc σ.length) ∧ ρ "result" = some (.loc σ'.length) ∧ RL σ'' σ'.length (keepP rows kl i) ∧ Ext σ' σ'')
      ⟨e1, e2, e3, rfl, get_new _ _, (Ext.refl σ').app _⟩ (fun _ _ _ _ => iter_rng hmil _) ?_ ?_
    · rintro i d ρ2 σ2 L hd ⟨g1, g2, g3, g4, g5, y⟩ hn _ _
      obtain ⟨hi, rfl⟩ := rng_get hd
      obtain ⟨b, hb⟩ := bool_at (hkl ▸ hi)
      obtain ⟨row, hrow⟩ := getE hi
      (refine wB_cons ?_; dsimp only [wE_int, wE_str, wE_bool, wE_none, wE_name, wE_tuple, wE_list, wE_dict, wE_bin, wE_not, wE_neg, wE_cmp, wE_if, wE_call, wE_meth, wE_attr, wE_to, wE_from, wE_subC, wE_subN, wE_subB, wE_subU, wE_comp, wE_comp2, wT_not, wT_bool, wT_cmp, wT_name, wT_call, wT_sub, wTs_and0, wTs_or0, wTs_and, wTs_or, wEs_nil, wEs_cons, wS_asg, wS_asgT, wS_asgS, wS_asgA, wS_aug, wS_expr, wS_if, wS_while, wS_for, wS_ret, wS_cont, seq_next, seq_ret, seq_cont, ret_ret, ret_next, loop_next, loop_cont, loop_ret])
      refine ⟨rfl, _, g2, _, rfl, _, item_bool ((x.trans y) _ _ hk) hb (Nat.lt_of_lt_of_le hi hmil), _, rfl, ?_⟩
      cases b with
      | false =>
        refine ite_f rfl (hn _ _ ⟨g1, g2, g3, g4, ?_, y⟩)
        rw [keepP_f hrow hb]; exact g5
      | true =>
        refine ite_t rfl ?_
        (refine wB_cons ?_; dsimp only [wE_int, wE_str, wE_bool, wE_none, wE_name, wE_tuple, wE_list, wE_dict, wE_bin, wE_not, wE_neg, wE_cmp, wE_if, wE_call, wE_meth, wE_attr, wE_to, wE_from, wE_subC, wE_subN, wE_subB, wE_subU, wE_comp, wE_comp2, wT_not, wT_bool, wT_cmp, wT_name, wT_call, wT_sub, wTs_and0, wTs_or0, wTs_and, wTs_or, wEs_nil, wEs_cons, wS_asg, wS_asgT, wS_asgS, wS_asgA, wS_aug, wS_expr, wS_if, wS_while, wS_for, wS_ret, wS_cont, seq_next, seq_ret, seq_cont, ret_ret, ret_next, loop_next, loop_cont, loop_ret])
        refine ⟨_, g1, _, rfl, _, item_row (hr.ext (x.trans y)) hrow hL, c_row_targets row ?_⟩
        refine ⟨σ2.length, iDs row.tgs, rfl, get_new _ _, iDs_small row, fun j acc σ3 => acc = iDs ((row.tgs.take j).map (place kl)) ∧ Ext (σ2 ++ [.list (iDs row.tgs)]) σ3, ⟨rfl, Ext.refl _⟩, fun j acc σ'' hJ => hJ.2 _ _ (get_new _ _), ?_, ?_⟩
        · rintro j d acc σ3 hd ⟨rfl, z⟩ ρ' hx hf
          obtain ⟨t, ht, rfl⟩ := iDs_get hd
          have htt := hv.tg _ _ hrow t (mem_of_get ht)
          dsimp only [wE_int, wE_str, wE_bool, wE_none, wE_name, wE_tuple, wE_list, wE_dict, wE_bin, wE_not, wE_neg, wE_cmp, wE_if, wE_call, wE_meth, wE_attr, wE_to, wE_from, wE_subC, wE_subN, wE_subB, wE_subU, wE_comp, wE_comp2, wT_not, wT_bool, wT_cmp, wT_name, wT_call, wT_sub, wTs_and0, wTs_or0, wTs_and, wTs_or, wEs_nil, wEs_cons, wS_asg, wS_asgT, wS_asgS, wS_asgA, wS_aug, wS_expr, wS_if, wS_while, wS_for, wS_ret, wS_cont, seq_next, seq_ret, seq_cont, ret_ret, ret_next, loop_next, loop_cont, loop_ret]
          refine ⟨_, (hf "places" rfl).trans g3, _, hx, _, item_list (d := iD (place kl t)) (z _ _ (get_app (y _ _ e5))) ?_ (Nat.lt_of_lt_of_le htt hmil), _, rfl, ?_, z⟩
          · rw [iDs, List.getElem?_map, List.getElem?_map, List.getElem?_range htt]; rfl
          · rw [take_next ht, List.map_append]; exact iDs_snoc _ _
        · rintro acc σ3 ⟨rfl, z⟩ _
          have z' : Ext σ2 σ3 := ((Ext.refl σ2).app _).trans z
          have q5 := RL.ext g5 (z'.app [AO.list (iDs ((row.tgs.take (iDs row.tgs).length).map (place kl)))])
          (refine wB_cons ?_; dsimp only [wE_int, wE_str, wE_bool, wE_none, wE_name, wE_tuple, wE_list, wE_dict, wE_bin, wE_not, wE_neg, wE_cmp, wE_if, wE_call, wE_meth, wE_attr, wE_to, wE_from, wE_subC, wE_subN, wE_subB, wE_subU, wE_comp, wE_comp2, wT_not, wT_bool, wT_cmp, wT_name, wT_call, wT_sub, wTs_and0, wTs_or0, wTs_and, wTs_or, wEs_nil, wEs_cons, wS_asg, wS_asgT, wS_asgS, wS_asgA, wS_aug, wS_expr, wS_if, wS_while, wS_for, wS_ret, wS_cont, seq_next, seq_ret, seq_cont, ret_ret, ret_next, loop_next, loop_cont, loop_ret])
          refine ⟨_, g4, isList q5, _, g1, _, rfl, _, item_row (RL.ext (RL.ext hr (x.trans (y.trans z'))) ((Ext.refl σ3).app _)) hrow hL, _, rfl,
            c_with_targets row _ (place kl (row.tg.getD 0)) _ (get_new _ _) ?_ (meth_append q5 (map_small (keepP_len _ _ _) hmil) ⟨rfl, hn _ _ ⟨g1, g2, g3, g4, ?_, ((y.trans z').app _).set (Nat.le_refl _)⟩⟩)⟩
          · cases row <;> first | exact fun _ => rfl | exact fun hs => no hs
          · unfold RL
            rw [get_set q5, mv_eq, map_snoc, keepP_t hrow hb]
    · rintro ρ2 σ2 ⟨g1, g2, g3, g4, g5, y⟩
      refine wB_cons ?_
      dsimp only [wE_int, wE_str, wE_bool, wE_none, wE_name, wE_tuple, wE_list, wE_dict, wE_bin, wE_not, wE_neg, wE_cmp, wE_if, wE_call, wE_meth, wE_attr, wE_to, wE_from, wE_subC, wE_subN, wE_subB, wE_subU, wE_comp, wE_comp2, wT_not, wT_bool, wT_cmp, wT_name, wT_call, wT_sub, wTs_and0, wTs_or0, wTs_and, wTs_or, wEs_nil, wEs_cons, wS_asg, wS_asgT, wS_asgS, wS_asgA, wS_aug, wS_expr, wS_if, wS_while, wS_for, wS_ret, wS_cont, seq_next, seq_ret, seq_cont, ret_ret, ret_next, loop_next, loop_cont, loop_ret]
      refine ⟨_, g4, h _ _ (x.trans y) ?_⟩
      rw [rngD_len, keepP, List.take_of_length_le (by rw [List.length_zip]; omega)] at g5
      exact g5
end
end Mine

/-! W24 -/
namespace Mine

section
variable {C : Cx} {k : Nat} {σ : Store} {Q : EP} {Φ : CallT} {ρ : Rho}
theorem cmp_eq_d (x y : Ins) (σ : Store) : cmp .Eq (.d x.d) (.d y.d) σ (decide (x = y)) := by
  have := cmp.eqD (σ := σ) (d_nb x) (d_nb y)
  rwa [show (decide (x.d = y.d)) = decide (x = y) from decide_eq_decide.mpr d_inj] at this
theorem wB_append {K : SP} : ∀ {xs ys : List Stmt}, wB C Φ (xs ++ ys) K = wB C Φ xs (seqK (wB C Φ ys K) K)
  | [], ys => rfl
  | x :: xs, ys => by
    funext ρ σ
    show wS C Φ x (seqK (wB C Φ (xs ++ ys) K) K) ρ σ = wS C Φ x (seqK (wB C Φ xs (seqK (wB C Φ ys K) K)) (seqK (wB C Φ ys K) K)) ρ σ
    rw [wB_append]
    refine congrFun (congrFun (congrArg _ ?_) ρ) σ
    funext f ρ σ
    cases f <;> rfl
theorem wB_cut (n : Nat) {B : List Stmt} (M : Rho → Store → Prop) {K : SP} {ρ : Rho} {σ : Store} (h2 : ∀ ρ σ, M ρ σ → wB C Φ (B.drop n) K ρ σ) (h1 : ∀ R : Rho → Store → Prop, (∀ ρ σ, M ρ σ → R ρ σ) → wB C Φ (B.take n) (seqK R K) ρ σ) :
    wB C Φ B K ρ σ := by
  rw [← List.take_append_drop n B, wB_append]
  exact h1 _ h2
noncomputable def loopOf : Stmt → List Stmt
  | .While _ b _ _ => b
  | .For _ _ b _ _ => b
  | _ => []
noncomputable def idleBody : List Stmt := loopOf (((bodyOf (fnS 14))[3]?).getD (.Pass ⟨0, 0, 0, 0⟩))
theorem set_mid {α : Type} {l r : List α} {x y : α} : (l ++ x :: r).set l.length y = l ++ y :: r := by
  rw [List.set_append_right _ _ (Nat.le_refl _)]; simp
theorem set_mid2 {α : Type} {l r : List α} {x y z : α} : (l ++ x :: y :: r).set (l.length + 1) z = l ++ x :: z :: r := by
  rw [List.set_append_right _ _ (by omega)]; simp
theorem nm_const {i : Ins} : D.s (.str i.nm) = D.s (.str "const") ↔ isC i = true := by cases i <;> first | exact ⟨fun _ => rfl, fun _ => rfl⟩ | exact ⟨fun h => no (show decide _ = true from decide_eq_true h), fun h => no h⟩
theorem nm_vi {i : Ins} : decide (S.str i.nm ∈ [S.str "visible", S.str "invisible"]) = vi i := by cases i <;> rfl

/-- what stands in the list of flags: those told, then those not told yet -/
noncomputable def idF (dn : List Bool) (L : Nat) : List D := (dn ++ List.replicate (L - dn.length) false).map bD
theorem idF_cons {dn : List Bool} {L : Nat} (h : dn.length < L) : idF dn L = idF (dn ++ [false]) L := by
  unfold idF
  rw [show L - dn.length = (L - (dn ++ [false]).length) + 1 by rw [List.length_append, List.length_singleton]; omega, List.replicate_succ, List.append_assoc]; rfl
theorem idF_set {dn : List Bool} {b : Bool} {L : Nat} : (idF (dn ++ [b]) L).set dn.length (bD true) = idF (dn ++ [true]) L := by
  unfold idF
  rw [← List.map_set, List.append_assoc, List.append_assoc, List.length_append, List.length_append]
  exact congrArg _ set_mid
theorem idF_len {dn : List Bool} {L : Nat} (h : dn.length ≤ L) : (idF dn L).length = L := by
  unfold idF
  rw [List.length_map, List.length_append, List.length_replicate]
  omega
theorem setItem_id {f L : Nat} {dn : List Bool} {b : Bool} (h : σ[f]? = some (.list (idF (dn ++ [b]) L))) (hl : dn.length < L) (hL : L ≤ 1000) : setItemV (.loc f) (I' dn.length) (B' true) σ (σ.set f (.list (idF (dn ++ [true]) L))) := by
  have := setItem_list (d := bD true) (i := dn.length) h (by rw [idF_len (by rw [List.length_append]; exact hl)]; exact hl) (by omega)
  rwa [idF_set] at this
theorem drop2 {rows : Rows} {p : Nat} {a b : Ins} (h1 : rows[p]? = some a) (h2 : rows[p + 1]? = some b) : rows.drop p = a :: rows.drop (p + 1) ∧ rows.drop (p + 1) = b :: rows.drop (p + 2) := by
  have l1 := lt_of_get h1
  have l2 := lt_of_get h2
  rw [List.getElem?_eq_getElem l1] at h1
  rw [List.getElem?_eq_getElem l2] at h2
  cases h1; cases h2
  exact ⟨List.drop_eq_getElem_cons l1, List.drop_eq_getElem_cons l2⟩
theorem idle_t {am : List Nat} {p : Nat} {a b : Ins} {r : Rows} (h : (isC a && decide (b = .drop) && !decide (p + 1 ∈ am)) = true) : idleL am p (a :: b :: r) = true :: true :: idleL am (p + 2) r := by
  rw [idleL, if_pos h]
theorem idle_f {am : List Nat} {p : Nat} {a b : Ins} {r : Rows} (h : (isC a && decide (b = .drop) && !decide (p + 1 ∈ am)) = false) : idleL am p (a :: b :: r) = (decide (a = .jump (p + 1)) || (vi a && sv b && !decide (p + 1 ∈ am))) :: idleL am (p + 1) (b :: r) := by
  rw [idleL, if_neg (by rw [h]; exact Bool.false_ne_true)]
theorem idle_end {am : List Nat} {p : Nat} {rows : Rows} {dn : List Bool} (hp : dn.length = p) (h : ¬ p + 1 < rows.length) (hl : p ≤ rows.length) (e : dn ++ idleL am p (rows.drop p) = idleL am 0 rows) : idF dn rows.length = (idleL am 0 rows).map bD := by
  rw [idF, ← e, hp]
  congr 2
  rcases Nat.lt_or_ge p rows.length with q | q
  · rw [List.drop_eq_getElem_cons q, List.drop_of_length_le (by omega), idleL, show rows.length - p = 1 by omega]; rfl
  · rw [List.drop_of_length_le q, idleL, show rows.length - p = 0 by omega]; rfl

structure IE (r a f : Nat) (p : Nat) (ρ : Rho) : Prop where
  e1 : ρ "rows" = some (.loc r)
  e2 : ρ "aimed" = some (.loc a)
  e3 : ρ "idle" = some (.loc f)
  e4 : ρ "place" = some (I' p)
structure IM (σ0 : Store) (a f : Nat) (rows : Rows) (dn : List Bool) (σ : Store) : Prop where
  m1 : σ[a]? = some (.list (flg rows.length (aims rows)))
  m2 : σ[f]? = some (.list (idF dn rows.length))
  m3 : Ext σ0 σ
theorem IM.put {σ0 : Store} {a f : Nat} {rows : Rows} {dn dn' : List Bool} (h : IM σ0 a f rows dn σ) (hf : f ≠ a) (hl : σ0.length ≤ f) : IM σ0 a f rows dn' (σ.set f (.list (idF dn' rows.length))) :=
  ⟨get_set_ne h.m1 hf, get_set h.m2, h.m3.set hl⟩

set_option maxRecDepth 20000 in
theorem idle_turn {σ0 : Store} {r a f p : Nat} {rows : Rows} {dn : List Bool} {L : SP} (hr : RL σ0 r rows) (hL : rows.length ≤ 1000) (hf : f ≠ a) (hsl : σ0.length ≤ f) (hdn : dn.length = p) (hlt : p + 1 < rows.length) (E : IE r a f p ρ) (M : IM σ0 a f rows dn σ)
    (hid : dn ++ idleL (aims rows) p (rows.drop p) = idleR rows)
    (hn : ∀ p' (dn' : List Bool) ρ' σ', p < p' → p' ≤ rows.length → dn'.length = p' → IE r a f p' ρ' → IM σ0 a f rows dn' σ' → dn' ++ idleL (aims rows) p' (rows.drop p') = idleR rows → L .next ρ' σ')
    (hc : ∀ p' (dn' : List Bool) ρ' σ', p < p' → p' ≤ rows.length → dn'.length = p' → IE r a f p' ρ' → IM σ0 a f rows dn' σ' → dn' ++ idleL (aims rows) p' (rows.drop p') = idleR rows → L .cont ρ' σ') : wB C (ΦN C (k + 2)) idleBody L ρ σ := by
  subst hdn
  obtain ⟨row, hrow⟩ := getE (Nat.lt_of_succ_lt hlt)
  obtain ⟨beh, hbeh⟩ := getE hlt
  obtain ⟨d1, d2⟩ := drop2 hrow hbeh
  have hlt0 := Nat.lt_of_succ_lt hlt
  rw [d1, d2] at hid
  have M1 : IM σ0 a f rows (dn ++ [false]) σ := ⟨M.m1, idF_cons hlt0 ▸ M.m2, M.m3⟩
  refine wB_cons ?_
  dsimp only [wE_int, wE_str, wE_bool, wE_none, wE_name, wE_tuple, wE_list, wE_dict, wE_bin, wE_not, wE_neg, wE_cmp, wE_if, wE_call, wE_meth, wE_attr, wE_to, wE_from, wE_subC, wE_subN, wE_subB, wE_subU, wE_comp, wE_comp2, wT_not, wT_bool, wT_cmp, wT_name, wT_call, wT_sub, wTs_and0, wTs_or0, wTs_and, wTs_or, wEs_nil, wEs_cons, wS_asg, wS_asgT, wS_asgS, wS_asgA, wS_aug, wS_expr, wS_if, wS_while, wS_for, wS_ret, wS_cont, seq_next, seq_ret, seq_cont, ret_ret, ret_next, loop_next, loop_cont, loop_ret]
  refine ⟨_, E.e1, _, E.e4, _, item_row (hr.ext M.m3) hrow hL, ?_⟩
  (refine wB_cons ?_; dsimp only [wE_int, wE_str, wE_bool, wE_none, wE_name, wE_tuple, wE_list, wE_dict, wE_bin, wE_not, wE_neg, wE_cmp, wE_if, wE_call, wE_meth, wE_attr, wE_to, wE_from, wE_subC, wE_subN, wE_subB, wE_subU, wE_comp, wE_comp2, wT_not, wT_bool, wT_cmp, wT_name, wT_call, wT_sub, wTs_and0, wTs_or0, wTs_and, wTs_or, wEs_nil, wEs_cons, wS_asg, wS_asgT, wS_asgS, wS_asgA, wS_aug, wS_expr, wS_if, wS_while, wS_for, wS_ret, wS_cont, seq_next, seq_ret, seq_cont, ret_ret, ret_next, loop_next, loop_cont, loop_ret])
  refine ⟨_, E.e1, _, E.e4, binop_succ ⟨_, item_row (hr.ext M.m3) hbeh hL, ?_⟩⟩
  obtain ⟨ρ1, hρ⟩ : ∃ ρ1, ρ1 = upd (upd ρ "row" (.d row.d)) "behind" (.d beh.d) := ⟨_, rfl⟩
  rw [← hρ]
  have E1 : IE r a f dn.length ρ1 := by subst hρ; exact ⟨E.e1, E.e2, E.e3, E.e4⟩
  have e7 : ρ1 "row" = some (.d row.d) := by subst hρ; rfl
  have e8 : ρ1 "behind" = some (.d beh.d) := by subst hρ; rfl
  clear hρ E
  -- the last test and the end of the turn
  have last : ∀ (b : Bool) (σ' : Store), (isC row && decide (beh = .drop) && !decide (dn.length + 1 ∈ aims rows)) = false → decide (row = .jump (dn.length + 1)) = b → IM σ0 a f rows (dn ++ [b]) σ' → wB C (ΦN C (k + 2)) (idleBody.drop 4) L ρ1 σ' := fun b σ' hc hb M => by
    rw [idle_f hc] at hid
    have fin : ∀ σ', IM σ0 a f rows (dn ++ [b || (vi row && sv beh && !decide (dn.length + 1 ∈ aims rows))]) σ' → wB C (ΦN C (k + 2)) (idleBody.drop 5) L ρ1 σ' := fun σ' M => by
      (refine wB_cons ?_; dsimp only [wE_int, wE_str, wE_bool, wE_none, wE_name, wE_tuple, wE_list, wE_dict, wE_bin, wE_not, wE_neg, wE_cmp, wE_if, wE_call, wE_meth, wE_attr, wE_to, wE_from, wE_subC, wE_subN, wE_subB, wE_subU, wE_comp, wE_comp2, wT_not, wT_bool, wT_cmp, wT_name, wT_call, wT_sub, wTs_and0, wTs_or0, wTs_and, wTs_or, wEs_nil, wEs_cons, wS_asg, wS_asgT, wS_asgS, wS_asgA, wS_aug, wS_expr, wS_if, wS_while, wS_for, wS_ret, wS_cont, seq_next, seq_ret, seq_cont, ret_ret, ret_next, loop_next, loop_cont, loop_ret])
      refine ⟨_, E1.e4, _, rfl, hn (dn.length + 1) _ _ _ (Nat.lt_succ_self _) (Nat.le_of_lt hlt) (by rw [List.length_append]; rfl) ⟨E1.e1, E1.e2, E1.e3, rfl⟩ M ?_⟩
      rw [← hid, List.append_assoc, d2, hb]; rfl
    have no' : (vi row && sv beh && !decide (dn.length + 1 ∈ aims rows)) = false → wB C (ΦN C (k + 2)) (idleBody.drop 5) L ρ1 σ' := fun h => fin σ' (by rw [h, Bool.or_false]; exact M)
    (refine wB_cons ?_; dsimp only [wE_int, wE_str, wE_bool, wE_none, wE_name, wE_tuple, wE_list, wE_dict, wE_bin, wE_not, wE_neg, wE_cmp, wE_if, wE_call, wE_meth, wE_attr, wE_to, wE_from, wE_subC, wE_subN, wE_subB, wE_subU, wE_comp, wE_comp2, wT_not, wT_bool, wT_cmp, wT_name, wT_call, wT_sub, wTs_and0, wTs_or0, wTs_and, wTs_or, wEs_nil, wEs_cons, wS_asg, wS_asgT, wS_asgS, wS_asgA, wS_aug, wS_expr, wS_if, wS_while, wS_for, wS_ret, wS_cont, seq_next, seq_ret, seq_cont, ret_ret, ret_next, loop_next, loop_cont, loop_ret])
    refine ⟨_, e7, _, item0 row σ', small rfl, _, rfl, _, .inT rfl rfl, ?_⟩
    rw [nm_vi]
    refine ite_both (fun h1 => ⟨rfl, _, e8, c_sets_visible beh ⟨_, rfl, ite_both (fun h2 => ⟨rfl, _, E1.e2, _, E1.e4, binop_succ ⟨_, item_flg M.m1 hlt hL, _, rfl, ite_both (fun h3 => ite_t rfl ?_) fun h3 => ite_f rfl (wB_skip (no' ?_))⟩⟩) fun h2 => ite_f rfl (wB_skip (no' ?_))⟩⟩) fun h1 => ite_f rfl (wB_skip (no' ?_))
    · (refine wB_cons ?_; dsimp only [wE_int, wE_str, wE_bool, wE_none, wE_name, wE_tuple, wE_list, wE_dict, wE_bin, wE_not, wE_neg, wE_cmp, wE_if, wE_call, wE_meth, wE_attr, wE_to, wE_from, wE_subC, wE_subN, wE_subB, wE_subU, wE_comp, wE_comp2, wT_not, wT_bool, wT_cmp, wT_name, wT_call, wT_sub, wTs_and0, wTs_or0, wTs_and, wTs_or, wEs_nil, wEs_cons, wS_asg, wS_asgT, wS_asgS, wS_asgA, wS_aug, wS_expr, wS_if, wS_while, wS_for, wS_ret, wS_cont, seq_next, seq_ret, seq_cont, ret_ret, ret_next, loop_next, loop_cont, loop_ret])
      refine ⟨_, E1.e3, _, E1.e4, _, setItem_id M.m2 hlt0 hL, fin _ ?_⟩
      rw [h1, h2, Bool.true_and, Bool.true_and, h3, Bool.or_true]
      exact M.put hf hsl
    · rw [Bool.eq_false_iff.mpr h3, Bool.and_false]
    · rw [Bool.eq_false_iff.mpr h2, Bool.and_false, Bool.false_and]
    · rw [Bool.eq_false_iff.mpr h1, Bool.false_and, Bool.false_and]
  have mid : (isC row && decide (beh = .drop) && !decide (dn.length + 1 ∈ aims rows)) = false → wB C (ΦN C (k + 2)) (idleBody.drop 3) L ρ1 σ := fun hc => by
    (refine wB_cons ?_; dsimp only [wE_int, wE_str, wE_bool, wE_none, wE_name, wE_tuple, wE_list, wE_dict, wE_bin, wE_not, wE_neg, wE_cmp, wE_if, wE_call, wE_meth, wE_attr, wE_to, wE_from, wE_subC, wE_subN, wE_subB, wE_subU, wE_comp, wE_comp2, wT_not, wT_bool, wT_cmp, wT_name, wT_call, wT_sub, wTs_and0, wTs_or0, wTs_and, wTs_or, wEs_nil, wEs_cons, wS_asg, wS_asgT, wS_asgS, wS_asgA, wS_aug, wS_expr, wS_if, wS_while, wS_for, wS_ret, wS_cont, seq_next, seq_ret, seq_cont, ret_ret, ret_next, loop_next, loop_cont, loop_ret])
    refine ⟨_, e7, _, E1.e4, binop_succ ⟨small rfl, _, rfl, _, cmp_eq_d row (.jump (dn.length + 1)) σ, ite_both (fun hj => ?_) fun hj => wB_skip (last false σ hc (Bool.eq_false_iff.mpr hj) M1)⟩⟩
    (refine wB_cons ?_; dsimp only [wE_int, wE_str, wE_bool, wE_none, wE_name, wE_tuple, wE_list, wE_dict, wE_bin, wE_not, wE_neg, wE_cmp, wE_if, wE_call, wE_meth, wE_attr, wE_to, wE_from, wE_subC, wE_subN, wE_subB, wE_subU, wE_comp, wE_comp2, wT_not, wT_bool, wT_cmp, wT_name, wT_call, wT_sub, wTs_and0, wTs_or0, wTs_and, wTs_or, wEs_nil, wEs_cons, wS_asg, wS_asgT, wS_asgS, wS_asgA, wS_aug, wS_expr, wS_if, wS_while, wS_for, wS_ret, wS_cont, seq_next, seq_ret, seq_cont, ret_ret, ret_next, loop_next, loop_cont, loop_ret])
    exact ⟨_, E1.e3, _, E1.e4, _, setItem_id M1.m2 hlt0 hL, last true _ hc hj (M1.put hf hsl)⟩
  (refine wB_cons ?_; dsimp only [wE_int, wE_str, wE_bool, wE_none, wE_name, wE_tuple, wE_list, wE_dict, wE_bin, wE_not, wE_neg, wE_cmp, wE_if, wE_call, wE_meth, wE_attr, wE_to, wE_from, wE_subC, wE_subN, wE_subB, wE_subU, wE_comp, wE_comp2, wT_not, wT_bool, wT_cmp, wT_name, wT_call, wT_sub, wTs_and0, wTs_or0, wTs_and, wTs_or, wEs_nil, wEs_cons, wS_asg, wS_asgT, wS_asgS, wS_asgA, wS_aug, wS_expr, wS_if, wS_while, wS_for, wS_ret, wS_cont, seq_next, seq_ret, seq_cont, ret_ret, ret_next, loop_next, loop_cont, loop_ret])
  refine ⟨_, e7, _, item0 row _, _, cmp_eq_str _ _ _, ite_both (fun h1 => ⟨_, e8, small rfl, _, rfl, _, cmp_eq_d beh .drop _, ite_both (fun h2 => ⟨rfl, _, E1.e2, _, E1.e4, binop_succ ⟨_, item_flg M.m1 hlt hL, _, rfl, ite_both (fun h3 => ite_t rfl ?_) fun h3 => ite_f rfl (wB_skip (mid ?_))⟩⟩) fun h2 => ite_f rfl (wB_skip (mid ?_))⟩) fun h1 => ite_f rfl (wB_skip (mid ?_))⟩
  · have hcc : (isC row && decide (beh = .drop) && !decide (dn.length + 1 ∈ aims rows)) = true := by rw [nm_const.mp (dec_t h1), h2, h3]; rfl
    rw [idle_t hcc] at hid
    have hl2 : (dn ++ [true]).length < rows.length := by rw [List.length_append]; exact hlt
    have M2 : IM σ0 a f rows (dn ++ [true] ++ [false]) (σ.set f (.list (idF (dn ++ [true]) rows.length))) := ⟨get_set_ne M.m1 hf, by rw [← idF_cons hl2]; exact get_set M.m2, M.m3.set hsl⟩
    have s2 := setItem_id M2.m2 hl2 hL
    rw [show ((dn ++ [true]).length : Nat) = dn.length + 1 from by rw [List.length_append]; rfl] at s2
    (refine wB_cons ?_; dsimp only [wE_int, wE_str, wE_bool, wE_none, wE_name, wE_tuple, wE_list, wE_dict, wE_bin, wE_not, wE_neg, wE_cmp, wE_if, wE_call, wE_meth, wE_attr, wE_to, wE_from, wE_subC, wE_subN, wE_subB, wE_subU, wE_comp, wE_comp2, wT_not, wT_bool, wT_cmp, wT_name, wT_call, wT_sub, wTs_and0, wTs_or0, wTs_and, wTs_or, wEs_nil, wEs_cons, wS_asg, wS_asgT, wS_asgS, wS_asgA, wS_aug, wS_expr, wS_if, wS_while, wS_for, wS_ret, wS_cont, seq_next, seq_ret, seq_cont, ret_ret, ret_next, loop_next, loop_cont, loop_ret])
    refine ⟨_, E1.e3, _, E1.e4, _, setItem_id M1.m2 hlt0 hL, ?_⟩
    (refine wB_cons ?_; dsimp only [wE_int, wE_str, wE_bool, wE_none, wE_name, wE_tuple, wE_list, wE_dict, wE_bin, wE_not, wE_neg, wE_cmp, wE_if, wE_call, wE_meth, wE_attr, wE_to, wE_from, wE_subC, wE_subN, wE_subB, wE_subU, wE_comp, wE_comp2, wT_not, wT_bool, wT_cmp, wT_name, wT_call, wT_sub, wTs_and0, wTs_or0, wTs_and, wTs_or, wEs_nil, wEs_cons, wS_asg, wS_asgT, wS_asgS, wS_asgA, wS_aug, wS_expr, wS_if, wS_while, wS_for, wS_ret, wS_cont, seq_next, seq_ret, seq_cont, ret_ret, ret_next, loop_next, loop_cont, loop_ret])
    refine ⟨_, E1.e3, _, E1.e4, binop_succ ⟨_, s2, ?_⟩⟩
    (refine wB_cons ?_; dsimp only [wE_int, wE_str, wE_bool, wE_none, wE_name, wE_tuple, wE_list, wE_dict, wE_bin, wE_not, wE_neg, wE_cmp, wE_if, wE_call, wE_meth, wE_attr, wE_to, wE_from, wE_subC, wE_subN, wE_subB, wE_subU, wE_comp, wE_comp2, wT_not, wT_bool, wT_cmp, wT_name, wT_call, wT_sub, wTs_and0, wTs_or0, wTs_and, wTs_or, wEs_nil, wEs_cons, wS_asg, wS_asgT, wS_asgS, wS_asgA, wS_aug, wS_expr, wS_if, wS_while, wS_for, wS_ret, wS_cont, seq_next, seq_ret, seq_cont, ret_ret, ret_next, loop_next, loop_cont, loop_ret])
    refine ⟨_, E1.e4, _, rfl, ?_⟩
    (refine wB_cons ?_; dsimp only [wE_int, wE_str, wE_bool, wE_none, wE_name, wE_tuple, wE_list, wE_dict, wE_bin, wE_not, wE_neg, wE_cmp, wE_if, wE_call, wE_meth, wE_attr, wE_to, wE_from, wE_subC, wE_subN, wE_subB, wE_subU, wE_comp, wE_comp2, wT_not, wT_bool, wT_cmp, wT_name, wT_call, wT_sub, wTs_and0, wTs_or0, wTs_and, wTs_or, wEs_nil, wEs_cons, wS_asg, wS_asgT, wS_asgS, wS_asgA, wS_aug, wS_expr, wS_if, wS_while, wS_for, wS_ret, wS_cont, seq_next, seq_ret, seq_cont, ret_ret, ret_next, loop_next, loop_cont, loop_ret])
    refine hc (dn.length + 2) (dn ++ [true] ++ [true]) _ _ (by omega) (by omega) (by rw [List.length_append, List.length_append]; rfl) ⟨E1.e1, E1.e2, E1.e3, rfl⟩ (M2.put hf hsl) ?_
    rw [← hid, List.append_assoc]; exact List.append_assoc _ _ _
  · rw [Bool.eq_false_iff.mpr h3, Bool.and_false]
  · rw [Bool.eq_false_iff.mpr h2, Bool.and_false, Bool.false_and]
  · rw [Bool.eq_false_iff.mpr (fun h => dec_f h1 (nm_const.mpr h)), Bool.false_and, Bool.false_and]

theorem c_idle_rows (r : Nat) (rows : Rows) (hr : RL σ r rows) (hv : Vd rows) (hL : rows.length ≤ 1000) (h : ∀ n σ', Ext σ σ' → σ'[n]? = some (.list ((idleR rows).map bD)) → Q (.loc n) σ') :
    callP (ΦN C (k + 3)) "idle_rows" [.loc r] σ Q := by
  refine callP_fn rfl (phi_call (i := 14) rfl rfl ?_)
  change wB C _ (bodyOf (fnS 14)) (retQ Q) (upd rho0 "rows" (.loc r)) σ
  (refine wB_cons ?_; dsimp only [wE_int, wE_str, wE_bool, wE_none, wE_name, wE_tuple, wE_list, wE_dict, wE_bin, wE_not, wE_neg, wE_cmp, wE_if, wE_call, wE_meth, wE_attr, wE_to, wE_from, wE_subC, wE_subN, wE_subB, wE_subU, wE_comp, wE_comp2, wT_not, wT_bool, wT_cmp, wT_name, wT_call, wT_sub, wTs_and0, wTs_or0, wTs_and, wTs_or, wEs_nil, wEs_cons, wS_asg, wS_asgT, wS_asgS, wS_asgA, wS_aug, wS_expr, wS_if, wS_while, wS_for, wS_ret, wS_cont, seq_next, seq_ret, seq_cont, ret_ret, ret_next, loop_next, loop_cont, loop_ret])
  refine ⟨_, rfl, c_target_flags r rows hr hv hL fun a σ1 x1 hA => ?_⟩
  (refine wB_cons ?_; dsimp only [wE_int, wE_str, wE_bool, wE_none, wE_name, wE_tuple, wE_list, wE_dict, wE_bin, wE_not, wE_neg, wE_cmp, wE_if, wE_call, wE_meth, wE_attr, wE_to, wE_from, wE_subC, wE_subN, wE_subB, wE_subU, wE_comp, wE_comp2, wT_not, wT_bool, wT_cmp, wT_name, wT_call, wT_sub, wTs_and0, wTs_or0, wTs_and, wTs_or, wEs_nil, wEs_cons, wS_asg, wS_asgT, wS_asgS, wS_asgA, wS_aug, wS_expr, wS_if, wS_while, wS_for, wS_ret, wS_cont, seq_next, seq_ret, seq_cont, ret_ret, ret_next, loop_next, loop_cont, loop_ret])
  refine ⟨small rfl, [bD false], rfl, _, rfl, c_lenR (get_app (hr.ext x1)) hL (binop_rep (get_new _ _) (Nat.le_trans hL (by decide)) ?_)⟩
  obtain ⟨f, hf⟩ : ∃ f, f = (σ1 ++ [AO.list [bD false]]).length := ⟨_, rfl⟩
  rw [← hf]
  have hal := lt_of_get hA
  have hfl : σ1.length < f := by rw [hf, List.length_append]; exact Nat.lt_succ_self _
  have hx1 := x1.len
  have i1 : (σ1 ++ [AO.list [bD false]] ++ [AO.list (List.replicate rows.length (bD false))])[f]? = some (.list (idF [] rows.length)) := by
    rw [get_new' hf, idF, List.nil_append, List.map_replicate]; rfl
  have i2 := (x1.app [AO.list [bD false]]).app [AO.list (List.replicate rows.length (bD false))]
  clear hf
  (refine wB_cons ?_; dsimp only [wE_int, wE_str, wE_bool, wE_none, wE_name, wE_tuple, wE_list, wE_dict, wE_bin, wE_not, wE_neg, wE_cmp, wE_if, wE_call, wE_meth, wE_attr, wE_to, wE_from, wE_subC, wE_subN, wE_subB, wE_subU, wE_comp, wE_comp2, wT_not, wT_bool, wT_cmp, wT_name, wT_call, wT_sub, wTs_and0, wTs_or0, wTs_and, wTs_or, wEs_nil, wEs_cons, wS_asg, wS_asgT, wS_asgS, wS_asgA, wS_aug, wS_expr, wS_if, wS_while, wS_for, wS_ret, wS_cont, seq_next, seq_ret, seq_cont, ret_ret, ret_next, loop_next, loop_cont, loop_ret])
  (refine wB_cons ?_; dsimp only [wE_int, wE_str, wE_bool, wE_none, wE_name, wE_tuple, wE_list, wE_dict, wE_bin, wE_not, wE_neg, wE_cmp, wE_if, wE_call, wE_meth, wE_attr, wE_to, wE_from, wE_subC, wE_subN, wE_subB, wE_subU, wE_comp, wE_comp2, wT_not, wT_bool, wT_cmp, wT_name, wT_call, wT_sub, wTs_and0, wTs_or0, wTs_and, wTs_or, wEs_nil, wEs_cons, wS_asg, wS_asgT, wS_asgS, wS_asgA, wS_aug, wS_expr, wS_if, wS_while, wS_for, wS_ret, wS_cont, seq_next, seq_ret, seq_cont, ret_ret, ret_next, loop_next, loop_cont, loop_ret])
  change whileP _ (wB C (ΦN C (k + 2)) idleBody) _ _ _
  refine while_of (fun m ρ σ' => ∃ (p : Nat) (dn : List Bool), m = rows.length - p ∧ p ≤ rows.length ∧ dn.length = p ∧ IE r a f p ρ ∧ IM σ a f rows dn σ' ∧ dn ++ idleL (aims rows) p (rows.drop p) = idleR rows) _
    ⟨0, [], rfl, Nat.zero_le _, rfl, ⟨rfl, rfl, rfl, rfl⟩, ⟨get_app (get_app hA), i1, i2⟩, rfl⟩ ?_
  rintro m ρ σ' L ⟨p, dn, rfl, hp, hdn, E, M, hid⟩ hn hc _
  dsimp only [wE_int, wE_str, wE_bool, wE_none, wE_name, wE_tuple, wE_list, wE_dict, wE_bin, wE_not, wE_neg, wE_cmp, wE_if, wE_call, wE_meth, wE_attr, wE_to, wE_from, wE_subC, wE_subN, wE_subB, wE_subU, wE_comp, wE_comp2, wT_not, wT_bool, wT_cmp, wT_name, wT_call, wT_sub, wTs_and0, wTs_or0, wTs_and, wTs_or, wEs_nil, wEs_cons, wS_asg, wS_asgT, wS_asgS, wS_asgA, wS_aug, wS_expr, wS_if, wS_while, wS_for, wS_ret, wS_cont, seq_next, seq_ret, seq_cont, ret_ret, ret_next, loop_next, loop_cont, loop_ret]
  refine ⟨_, E.e4, _, E.e1, c_lenR (hr.ext M.m3) hL (.subI ⟨_, .lt, ite_both (fun hlt => ?_) fun hlt => ?_⟩)⟩
  · have hlt : p + 1 < rows.length := by
      have := dec_t hlt
      omega
    exact idle_turn hr hL (by omega) (by omega) hdn hlt E M hid (fun p' dn' ρ' σ' h1 h2 h3 h4 h5 h6 => hn _ _ _ (by omega) ⟨p', dn', rfl, h2, h3, h4, h5, h6⟩) fun p' dn' ρ' σ' h1 h2 h3 h4 h5 h6 => hc _ _ _ (by omega) ⟨p', dn', rfl, h2, h3, h4, h5, h6⟩
  · refine wB_cons ?_
    dsimp only [wE_int, wE_str, wE_bool, wE_none, wE_name, wE_tuple, wE_list, wE_dict, wE_bin, wE_not, wE_neg, wE_cmp, wE_if, wE_call, wE_meth, wE_attr, wE_to, wE_from, wE_subC, wE_subN, wE_subB, wE_subU, wE_comp, wE_comp2, wT_not, wT_bool, wT_cmp, wT_name, wT_call, wT_sub, wTs_and0, wTs_or0, wTs_and, wTs_or, wEs_nil, wEs_cons, wS_asg, wS_asgT, wS_asgS, wS_asgA, wS_aug, wS_expr, wS_if, wS_while, wS_for, wS_ret, wS_cont, seq_next, seq_ret, seq_cont, ret_ret, ret_next, loop_next, loop_cont, loop_ret]
    refine ⟨_, E.e3, h _ _ M.m3 ?_⟩
    rw [M.m2]
    refine congrArg (fun x => some (AO.list x)) (idle_end hdn (fun h => dec_f hlt (by omega)) hp hid)
end
end Mine

/-! WP1 -/
namespace Mine

/-! ## the plain law: jumps -/
noncomputable def nx (rows : Rows) (t : Nat) : Nat := match rows[t]? with
  | some (.jump u) => u
  | _ => t
noncomputable def isJ (rows : Rows) (t : Nat) : Prop := ∃ u, rows[t]? = some (.jump u)
noncomputable def it (rows : Rows) : Nat → Nat → Nat
  | 0, t => t
  | n + 1, t => it rows n (nx rows t)
theorem it_add (rows : Rows) : ∀ (a b t : Nat), it rows (a + b) t = it rows b (it rows a t)
  | 0, b, t => by rw [Nat.zero_add]; rfl
  | a + 1, b, t => by rw [show a + 1 + b = (a + b) + 1 by omega]; exact it_add rows a b (nx rows t)
theorem it_succ (rows : Rows) (n t : Nat) : it rows (n + 1) t = nx rows (it rows n t) := it_add rows n 1 t
theorem nx_jump {rows : Rows} {t u : Nat} (h : rows[t]? = some (.jump u)) : nx rows t = u := by unfold nx; rw [h]
theorem nx_not {rows : Rows} {t : Nat} (h : ¬ isJ rows t) : nx rows t = t := by
  unfold nx
  split
  · rename_i u hu; exact absurd ⟨u, hu⟩ h
  · rfl
theorem it_not {rows : Rows} {t : Nat} (h : ¬ isJ rows t) : ∀ n, it rows n t = t
  | 0 => rfl
  | n + 1 => by rw [it, nx_not h]; exact it_not h n
/-- on a ring of jumps -/
noncomputable def Ring (rows : Rows) (e : Nat) : Prop := ∃ k, 0 < k ∧ it rows k e = e ∧ ∀ i, i < k → isJ rows (it rows i e)
theorem Ring.all {rows : Rows} {e : Nat} (h : Ring rows e) : ∀ j, isJ rows (it rows j e) := by
  obtain ⟨k, hk, he, hj⟩ := h
  intro j
  induction j using Nat.strongRecOn with
  | _ j ih =>
    rcases Nat.lt_or_ge j k with q | q
    · exact hj j q
    · rw [show j = k + (j - k) by omega, it_add, he]
      exact ih (j - k) (by omega)
theorem Ring.next {rows : Rows} {e : Nat} (h : Ring rows e) : Ring rows (nx rows e) := by
  have ha := h.all
  obtain ⟨k, hk, he, _⟩ := h
  exact ⟨k, hk, by rw [← it, it_succ, he], fun i _ => ha (i + 1)⟩
theorem Ring.iter {rows : Rows} {e : Nat} (h : Ring rows e) : ∀ j, Ring rows (it rows j e)
  | 0 => h
  | j + 1 => by rw [it_succ]; exact (h.iter j).next
theorem isJ.lt {rows : Rows} {t : Nat} (h : isJ rows t) : t < rows.length := by
  obtain ⟨u, hu⟩ := h
  exact lt_of_get hu

theorem chase_it (rows : Rows) : ∀ (n : Nat) (seen : List Nat) (t : Nat), ∃ m, chase rows n seen t = it rows m t ∧ ∀ i, i < m → isJ rows (it rows i t)
  | 0, _, t => ⟨0, rfl, fun _ h => absurd h (Nat.not_lt_zero _)⟩
  | n + 1, seen, t => by
    unfold chase
    split
    · rename_i u hu
      split
      · exact ⟨0, rfl, fun _ h => absurd h (Nat.not_lt_zero _)⟩
      · obtain ⟨m, h1, h2⟩ := chase_it rows n (t :: seen) u
        refine ⟨m + 1, by rw [h1, it, nx_jump hu], fun i hi => ?_⟩
        cases i with
        | zero => exact ⟨u, hu⟩
        | succ i => rw [it, nx_jump hu]; exact h2 i (by omega)
    · exact ⟨0, rfl, fun _ h => absurd h (Nat.not_lt_zero _)⟩
theorem chase_end (rows : Rows) : ∀ (n : Nat) (seen : List Nat) (t : Nat), rows.length + 1 ≤ n + seen.length → seen.Nodup → (∀ s ∈ seen, ∃ j, 0 < j ∧ it rows j s = t ∧ ∀ i, i < j → isJ rows (it rows i s)) →
    ¬ isJ rows (chase rows n seen t) ∨ Ring rows (chase rows n seen t)
  | 0, seen, t, hl, hn, hs => by
    have := nodup_bound rows.length hn (fun s h => by
      obtain ⟨j, hj, _, h2⟩ := hs s h
      exact (h2 0 hj).lt)
    omega
  | n + 1, seen, t, hl, hn, hs => by
    unfold chase
    split
    · rename_i u hu
      split
      · rename_i hm
        exact .inr (hs t hm)
      · rename_i hm
        refine chase_end rows n (t :: seen) u (by simp; omega) (List.nodup_cons.mpr ⟨hm, hn⟩) fun s h => ?_
        rcases List.mem_cons.mp h with rfl | h
        · exact ⟨1, by omega, by rw [it, it, nx_jump hu], fun i hi => by
            obtain rfl : i = 0 := by omega
            exact ⟨u, hu⟩⟩
        · obtain ⟨j, hj, h1, h2⟩ := hs s h
          refine ⟨j + 1, by omega, by rw [it_succ, h1, nx_jump hu], fun i hi => ?_⟩
          rcases Nat.lt_or_ge i j with q | q
          · exact h2 i q
          · obtain rfl : i = j := by omega
            rw [h1]; exact ⟨u, hu⟩
    · rename_i hno
      refine .inl fun ⟨u, hu⟩ => ?_
      exact hno u hu
theorem lastT_it (rows : Rows) (t : Nat) : ∃ m, lastT rows t = it rows m t ∧ ∀ i, i < m → isJ rows (it rows i t) := chase_it rows _ _ t
theorem lastT_end (rows : Rows) (t : Nat) : ¬ isJ rows (lastT rows t) ∨ Ring rows (lastT rows t) := chase_end rows _ _ t (by simp) List.nodup_nil (by simp)
theorem it_lt {rows : Rows} (hv : Vd rows) {t : Nat} (h : t < rows.length) : ∀ n, it rows n t < rows.length
  | 0 => h
  | n + 1 => by
    rw [it_succ]
    unfold nx
    split
    · rename_i u hu
      exact hv.tg _ _ hu u (by simp [Ins.tgs, Ins.tg])
    · exact it_lt hv h n
theorem lastT_lt {rows : Rows} (hv : Vd rows) {t : Nat} (h : t < rows.length) : lastT rows t < rows.length := by
  obtain ⟨m, hm, _⟩ := lastT_it rows t
  rw [hm]; exact it_lt hv h m
/-- a way by jumps to a row that is no jump ends there -/
theorem lastT_of {rows : Rows} {t m e : Nat} (h : it rows m t = e) (he : ¬ isJ rows e) : lastT rows t = e := by
  obtain ⟨n, hn, _⟩ := lastT_it rows t
  rcases Nat.lt_or_ge n m with q | q
  · rcases lastT_end rows t with h1 | h1
    · rw [hn] at h1
      have := it_not h1 (m - n)
      rw [← it_add, show n + (m - n) = m by omega, h] at this
      rw [hn, this]
    · have := h1.all (m - n)
      rw [hn, ← it_add, show n + (m - n) = m by omega, h] at this
      exact absurd this he
  · rw [hn, show n = m + (n - m) by omega, it_add, h, it_not he]

noncomputable def sl (rows : Rows) (e : Nat) : Nat → List Nat
  | 0 => []
  | m + 1 => it rows m e :: sl rows e m
theorem mem_sl {rows : Rows} {e x : Nat} : ∀ {m : Nat}, x ∈ sl rows e m ↔ ∃ i, i < m ∧ x = it rows i e
  | 0 => by simp [sl]
  | m + 1 => by
    rw [sl, List.mem_cons, mem_sl]
    constructor
    · rintro (h | ⟨i, hi, h⟩)
      · exact ⟨m, by omega, h⟩
      · exact ⟨i, by omega, h⟩
    · rintro ⟨i, hi, h⟩
      rcases Nat.lt_or_ge i m with q | q
      · exact .inr ⟨i, q, h⟩
      · obtain rfl : i = m := by omega
        exact .inl h
theorem sl_len (rows : Rows) (e : Nat) : ∀ m, (sl rows e m).length = m
  | 0 => rfl
  | m + 1 => by rw [sl, List.length_cons, sl_len]
theorem least {P : Nat → Prop} (h : ∃ k, P k) : ∃ k, P k ∧ ∀ j, j < k → ¬ P j := by
  obtain ⟨k, hk⟩ := h
  induction k using Nat.strongRecOn with
  | _ k ih =>
    by_cases h : ∃ j, j < k ∧ P j
    · obtain ⟨j, hj, hp⟩ := h
      exact ih j hj hp
    · exact ⟨k, hk, fun j hj hp => h ⟨j, hj, hp⟩⟩
theorem ring_fix {rows : Rows} {e : Nat} (h : Ring rows e) : lastT rows e = e := by
  have ha := h.all
  obtain ⟨k, ⟨hk, hke⟩, hmin⟩ := least (P := fun k => 0 < k ∧ it rows k e = e) (by obtain ⟨k, h1, h2, _⟩ := h; exact ⟨k, h1, h2⟩)
  have dist : ∀ m, m < k → ∀ i, i < m → it rows m e ≠ it rows i e := fun m hm i hi he => by
    refine hmin (i + (k - m)) (by omega) ⟨by omega, ?_⟩
    rw [it_add, ← he, ← it_add, show m + (k - m) = k by omega, hke]
  have nd : ∀ m, m ≤ k → (sl rows e m).Nodup := fun m => by
    induction m with
    | zero => intro _; exact List.nodup_nil
    | succ m ih =>
      intro hm
      rw [sl]
      refine List.nodup_cons.mpr ⟨fun h => ?_, ih (by omega)⟩
      obtain ⟨i, hi, he⟩ := mem_sl.mp h
      exact dist m (by omega) i hi he
  have hkl : k ≤ rows.length := by
    have := nodup_bound rows.length (nd k (Nat.le_refl _)) (fun x hx => by
      obtain ⟨i, _, rfl⟩ := mem_sl.mp hx
      exact (ha i).lt)
    rwa [sl_len] at this
  have main : ∀ d m, m + d = k → chase rows (rows.length + 1 - m) (sl rows e m) (it rows m e) = e := fun d => by
    induction d with
    | zero =>
      intro m hm
      obtain rfl : m = k := by omega
      rw [show rows.length + 1 - m = (rows.length - m) + 1 by omega, chase]
      obtain ⟨u, hu⟩ := ha m
      rw [hu]
      simp only
      rw [if_pos (mem_sl.mpr ⟨0, hk, by rw [hke]; rfl⟩), hke]
    | succ d ih =>
      intro m hm
      rw [show rows.length + 1 - m = (rows.length + 1 - (m + 1)) + 1 by omega, chase]
      obtain ⟨u, hu⟩ := ha m
      rw [hu]
      simp only
      rw [if_neg (fun h => by
        obtain ⟨i, hi, he⟩ := mem_sl.mp h
        exact dist m (by omega) i hi he)]
      have := ih (m + 1) (by omega)
      rw [it_succ, nx_jump hu, sl] at this
      exact this
  exact main k 0 (by omega)

/-! ## threading -/
theorem thread_get (rows : Rows) (n : Nat) : (threadR rows)[n]? = (rows[n]?).map (Ins.thr rows) := by rw [threadR, List.getElem?_map]
theorem thread_len (rows : Rows) : (threadR rows).length = rows.length := by simp [threadR]
theorem setT_tg {i : Ins} {t u : Nat} (h : i.tg = some t) : (i.setT u).tg = some u := by cases i <;> simp [Ins.tg] at h <;> rfl
theorem setT_on (i : Ins) (u : Nat) : (i.setT u).on = i.on := by cases i <;> rfl
theorem setT_self {i : Ins} {t : Nat} (h : i.tg = some t) : i.setT t = i := by cases i <;> simp [Ins.tg] at h <;> subst h <;> rfl
theorem thr_tg (rows : Rows) (i : Ins) : (i.thr rows).tg = i.tg.map (lastT rows) := by
  unfold Ins.thr
  cases h : i.tg with
  | none => simp [h]
  | some t => simp [setT_tg h]
theorem thr_on (rows : Rows) (i : Ins) : (i.thr rows).on = i.on := by
  unfold Ins.thr
  cases h : i.tg with
  | none => rfl
  | some t => exact setT_on _ _
theorem mem_tgs {i : Ins} {t : Nat} : t ∈ i.tgs ↔ i.tg = some t := by unfold Ins.tgs; cases i.tg <;> simp [eq_comm]
theorem Vd.thread {rows : Rows} (hv : Vd rows) : Vd (threadR rows) := by
  refine ⟨fun h => hv.ne (by simpa [threadR] using h), fun n i hi t ht => ?_, fun n i hi ho => ?_⟩
  · rw [thread_get] at hi
    obtain ⟨j, hj, rfl⟩ := Option.map_eq_some_iff.mp hi
    rw [mem_tgs, thr_tg] at ht
    obtain ⟨u, hu, rfl⟩ := Option.map_eq_some_iff.mp ht
    rw [thread_len]
    exact lastT_lt hv (hv.tg _ _ hj u (mem_tgs.mpr hu))
  · rw [thread_get] at hi
    obtain ⟨j, hj, rfl⟩ := Option.map_eq_some_iff.mp hi
    rw [thr_on] at ho
    rw [thread_len]
    exact hv.on _ _ hj ho
theorem thr_jump {rows : Rows} {i : Ins} {u : Nat} : i.thr rows = .jump u ↔ ∃ t, i = .jump t ∧ u = lastT rows t := by
  cases i <;> simp [Ins.thr, Ins.tg, Ins.setT, eq_comm]
theorem thread_isJ {rows : Rows} {t : Nat} : isJ (threadR rows) t ↔ isJ rows t := by
  unfold isJ
  rw [thread_get]
  constructor
  · rintro ⟨u, hu⟩
    obtain ⟨j, hj, h⟩ := Option.map_eq_some_iff.mp hu
    obtain ⟨v, rfl, _⟩ := thr_jump.mp h
    exact ⟨v, hj⟩
  · rintro ⟨u, hu⟩
    rw [hu]
    exact ⟨_, rfl⟩
theorem thread_ring {rows : Rows} {e : Nat} (h : Ring rows e) : Ring (threadR rows) e := by
  have step : ∀ x, Ring rows x → nx (threadR rows) x = nx rows x := fun x hx => by
    obtain ⟨u, hu⟩ := hx.all 0
    have hu' : rows[x]? = some (.jump u) := hu
    rw [nx_jump hu', nx_jump (u := lastT rows u) (by rw [thread_get, hu']; rfl)]
    have := hx.next
    rw [nx_jump hu'] at this
    exact ring_fix this
  have same : ∀ j, it (threadR rows) j e = it rows j e := fun j => by
    induction j with
    | zero => rfl
    | succ j ih => rw [it_succ, it_succ, ih, step _ (h.iter j)]
  have ha := h.all
  obtain ⟨k, hk, he, _⟩ := h
  exact ⟨k, hk, by rw [same, he], fun i _ => by rw [same]; exact thread_isJ.mpr (ha i)⟩
theorem thread_fix (rows : Rows) (t : Nat) : lastT (threadR rows) (lastT rows t) = lastT rows t := by
  rcases lastT_end rows t with h | h
  · exact lastT_of (m := 0) rfl (fun h' => h (thread_isJ.mp h'))
  · exact ring_fix (thread_ring h)
theorem thread_idem (rows : Rows) : threadR (threadR rows) = threadR rows := by
  apply List.ext_getElem?
  intro n
  rw [thread_get, thread_get]
  cases rows[n]? with
  | none => rfl
  | some i =>
    simp only [Option.map_some]
    congr 1
    cases i <;> simp [Ins.thr, Ins.tg, Ins.setT, thread_fix]

theorem reach_it {rows : Rows} {t : Nat} (h : Reach rows t) : ∀ m, (∀ i, i < m → isJ rows (it rows i t)) → Reach rows (it rows m t)
  | 0, _ => h
  | m + 1, hj => by
    have := reach_it h m fun i hi => hj i (by omega)
    obtain ⟨u, hu⟩ := hj m (by omega)
    rw [it_succ, nx_jump hu]
    exact .step this hu (by simp [succs, Ins.tgs, Ins.tg])
theorem thread_reach_of {rows : Rows} {n : Nat} (h : Reach (threadR rows) n) : Reach rows n := by
  induction h with
  | zero => exact .zero
  | step _ hi hm ih =>
    rw [thread_get] at hi
    obtain ⟨j, hj, rfl⟩ := Option.map_eq_some_iff.mp hi
    unfold succs at hm
    rcases List.mem_append.mp hm with hm | hm
    · rw [mem_tgs, thr_tg] at hm
      obtain ⟨u, hu, rfl⟩ := Option.map_eq_some_iff.mp hm
      obtain ⟨m, he, hjm⟩ := lastT_it rows u
      rw [he]
      exact reach_it (.step ih hj (List.mem_append_left _ (mem_tgs.mpr hu))) m hjm
    · rw [thr_on] at hm
      exact .step ih hj (List.mem_append_right _ hm)
theorem thread_reach {rows : Rows} {n : Nat} (h : Reach rows n) : ∀ m, (∀ i, i < m → isJ rows (it rows i n)) → ¬ isJ rows (it rows m n) → Reach (threadR rows) (it rows m n) := by
  have help : ∀ n, Reach (threadR rows) n → ∀ m, (∀ i, i < m → isJ rows (it rows i n)) → ¬ isJ rows (it rows m n) → Reach (threadR rows) (it rows m n) := fun n hn m hm he => by
    cases m with
    | zero => exact hn
    | succ m =>
      obtain ⟨u, hu⟩ := hm 0 (by omega)
      have hu' : rows[n]? = some (.jump u) := hu
      have e : lastT rows u = it rows (m + 1) n := lastT_of (m := m) (by rw [it, nx_jump hu']) he
      rw [← e]
      exact .step hn (i := .jump (lastT rows u)) (by rw [thread_get, hu']; rfl) (by simp [succs, Ins.tgs, Ins.tg])
  induction h with
  | zero => exact help 0 .zero
  | @step n q i _ hi hq ih =>
    intro m hm he
    by_cases hj : isJ rows n
    · obtain ⟨u, hu⟩ := hj
      rw [hu] at hi; cases hi
      simp [succs, Ins.tgs, Ins.tg, Ins.on] at hq
      subst hq
      have := ih (m + 1) (fun i hi => by
        cases i with
        | zero => exact ⟨q, hu⟩
        | succ i => rw [it, nx_jump hu]; exact hm i (by omega)) (by rw [it, nx_jump hu]; exact he)
      rwa [it, nx_jump hu] at this
    · have hn : Reach (threadR rows) n := ih 0 (fun i hi => absurd hi (Nat.not_lt_zero _)) hj
      have hi' : (threadR rows)[n]? = some (i.thr rows) := by rw [thread_get, hi]; rfl
      unfold succs at hq
      rcases List.mem_append.mp hq with hq | hq
      · have e : lastT rows q = it rows m q := lastT_of rfl he
        rw [← e]
        exact .step hn hi' (List.mem_append_left _ (by rw [mem_tgs, thr_tg, mem_tgs.mp hq]; rfl))
      · refine help q (.step hn hi' (List.mem_append_right _ ?_)) m hm he
        rw [thr_on]; exact hq
end Mine

/-! WP2 -/
namespace Mine

/-! ## keeping rows -/
section
variable {α β : Type} {f : α → β}
noncomputable def kp (f : α → β) (p : α × Bool) : Option β := if p.2 = true then some (f p.1) else none
theorem zip_get (f : α → β) : ∀ {l : List α} {kl : List Bool} {n : Nat} {a : α}, l[n]? = some a → kl[n]? = some true → ((l.zip kl).filterMap (kp f))[place kl n]? = some (f a)
  | [], _, _, _, h, _ => by simp at h
  | _ :: _, [], _, _, _, h => by simp at h
  | a :: l, b :: kl, 0, x, h, hb => by
    simp at h hb
    subst h hb
    simp [place, kp]
  | a :: l, b :: kl, n + 1, x, h, hb => by
    simp at h hb
    have := zip_get f h hb
    cases b with
    | false =>
      rw [show place (false :: kl) (n + 1) = place kl n by simp [place]]
      simpa [kp] using this
    | true =>
      rw [show place (true :: kl) (n + 1) = place kl n + 1 by simp [place]]
      simpa [kp] using this
theorem zip_surj (f : α → β) : ∀ {l : List α} {kl : List Bool} {q : Nat} {y : β}, ((l.zip kl).filterMap (kp f))[q]? = some y → ∃ (n : Nat) (a : α), l[n]? = some a ∧ kl[n]? = some true ∧ q = place kl n ∧ y = f a
  | [], _, _, _, h => by simp at h
  | _ :: _, [], _, _, h => by simp at h
  | a :: l, false :: kl, q, y, h => by
    simp [kp] at h
    obtain ⟨n, x, h1, h2, h3, h4⟩ := zip_surj f (l := l) (kl := kl) (q := q) (y := y) (by simpa [kp] using h)
    exact ⟨n + 1, x, by simpa using h1, by simpa using h2, by rw [h3]; simp [place], h4⟩
  | a :: l, true :: kl, 0, y, h => by
    simp [kp] at h
    exact ⟨0, a, rfl, rfl, by simp [place], h.symm⟩
  | a :: l, true :: kl, q + 1, y, h => by
    obtain ⟨n, x, h1, h2, h3, h4⟩ := zip_surj f (l := l) (kl := kl) (q := q) (y := y) (by simpa [kp] using h)
    exact ⟨n + 1, x, by simpa using h1, by simpa using h2, by rw [h3]; simp [place], h4⟩
theorem zip_len (f : α → β) : ∀ {l : List α} {kl : List Bool}, kl.length = l.length → ((l.zip kl).filterMap (kp f)).length = place kl l.length
  | [], [], _ => by simp [place]
  | [], _ :: _, h => by simp at h
  | _ :: _, [], h => by simp at h
  | a :: l, b :: kl, h => by
    have := zip_len f (l := l) (kl := kl) (by simpa using h)
    cases b <;> simp [kp, place] at this ⊢ <;> exact this
end
theorem keepR_kp (rows : Rows) (kl : List Bool) : keepR rows kl = (rows.zip kl).filterMap (kp (Ins.mv kl)) := rfl
theorem place_le (kl : List Bool) {n m : Nat} (h : n ≤ m) : place kl n ≤ place kl m := by
  unfold place
  exact ((List.take_prefix_take_left h).sublist).count_le _
theorem mv_tg (kl : List Bool) (i : Ins) : (i.mv kl).tg = i.tg.map (place kl) := by
  unfold Ins.mv
  cases h : i.tg with
  | none => simp [h]
  | some t => simp [setT_tg h]
theorem mv_on (kl : List Bool) (i : Ins) : (i.mv kl).on = i.on := by
  unfold Ins.mv
  cases h : i.tg with
  | none => rfl
  | some t => exact setT_on _ _
noncomputable def tagD : Ins → Option D
  | .unless _ => some (.s (.str "unless"))
  | .guard _ => some (.s (.str "guard"))
  | .set i => some (Ins.set i).d
  | .ret => some Ins.ret.d
  | .fin => some Ins.fin.d
  | _ => none
theorem tag_setT (i : Ins) (t : Nat) : tagD (i.setT t) = tagD i := by cases i <;> rfl
theorem tag_mv (kl : List Bool) (i : Ins) : tagD (i.mv kl) = tagD i := by
  unfold Ins.mv
  cases h : i.tg with
  | none => rfl
  | some t => exact tag_setT _ _
theorem tag_thr (rows : Rows) (i : Ins) : tagD (i.thr rows) = tagD i := by
  unfold Ins.thr
  cases h : i.tg with
  | none => rfl
  | some t => exact tag_setT _ _
theorem fm_congr {α β γ : Type} {f : α → Option γ} {g : β → Option γ} : ∀ {l : List α} {m : List β}, l.length = m.length → (∀ (n : Nat) (a : α) (b : β), l[n]? = some a → m[n]? = some b → f a = g b) → l.filterMap f = m.filterMap g
  | [], [], _, _ => rfl
  | [], _ :: _, h, _ => by simp at h
  | _ :: _, [], h, _ => by simp at h
  | a :: l, b :: m, h, hc => by
    have h0 := hc 0 a b rfl rfl
    have ih := fm_congr (f := f) (g := g) (l := l) (m := m) (by simpa using h) fun n x y hx hy => hc (n + 1) x y (by simpa using hx) (by simpa using hy)
    rw [List.filterMap_cons, List.filterMap_cons, h0, ih]
/-- the kept pieces of the rows that can be reached -/
noncomputable def KR (rows : Rows) : List D := (rows.zip (reachB rows)).filterMap fun p => if p.2 = true then tagD p.1 else none
theorem reachB_len (rows : Rows) : (reachB rows).length = rows.length := by simp [reachB]
theorem reachB_get {rows : Rows} {n : Nat} {b : Bool} (h : (reachB rows)[n]? = some b) : n < rows.length ∧ (b = true ↔ Reach rows n) := by
  have hl := lt_of_get h
  rw [reachB_len] at hl
  unfold reachB at h
  rw [List.getElem?_map, List.getElem?_range hl] at h
  simp at h
  exact ⟨hl, by rw [← h]; simp⟩
theorem reachB_true {rows : Rows} {n : Nat} (hl : n < rows.length) (h : Reach rows n) : (reachB rows)[n]? = some true := by
  obtain ⟨b, hb⟩ : ∃ b, (reachB rows)[n]? = some b := ⟨_, List.getElem?_eq_getElem (by rw [reachB_len]; exact hl)⟩
  rw [hb, (reachB_get hb).2.mpr h]
theorem KR_thread (rows : Rows) : KR (threadR rows) = KR rows := by
  refine fm_congr (by simp [thread_len, reachB_len]) fun n a b ha hb => ?_
  obtain ⟨a1, a2⟩ := a
  obtain ⟨b1, b2⟩ := b
  rw [List.getElem?_zip_eq_some] at ha hb
  obtain ⟨h1, h2⟩ := ha
  obtain ⟨h3, h4⟩ := hb
  simp only at h1 h2 h3 h4
  rw [thread_get, h3] at h1
  have h1' : b1.thr rows = a1 := Option.some.inj h1
  subst h1'
  simp only [tag_thr]
  by_cases hj : isJ rows n
  · obtain ⟨u, hu⟩ := hj
    rw [hu] at h3; cases h3
    simp [tagD]
  · have : a2 = true ↔ b2 = true := by
      rw [(reachB_get h2).2, (reachB_get h4).2]
      exact ⟨thread_reach_of, fun h => thread_reach h 0 (fun i hi => absurd hi (Nat.not_lt_zero _)) hj⟩
    simp [this]
theorem kp_tag (rows : Rows) (kl : List Bool) : (keepR rows kl).filterMap tagD = (rows.zip kl).filterMap fun p => if p.2 = true then tagD p.1 else none := by
  rw [keepR_kp, List.filterMap_filterMap]
  congr 1
  funext p
  obtain ⟨i, b⟩ := p
  cases b <;> simp [kp, tag_mv]
/-- every row can be reached -/
noncomputable def AllR (rows : Rows) : Prop := ∀ n, n < rows.length → Reach rows n
theorem AllR.KR {rows : Rows} (h : AllR rows) : KR rows = rows.filterMap tagD := by
  refine fm_congr (by simp [reachB_len]) fun n a b ha hb => ?_
  obtain ⟨a1, a2⟩ := a
  rw [List.getElem?_zip_eq_some] at ha
  obtain ⟨h1, h2⟩ := ha
  rw [h1] at hb; cases hb
  rw [(reachB_get h2).2.mpr (h n (lt_of_get h1))]; rfl
theorem reach_lt {rows : Rows} (hv : Vd rows) {n : Nat} (h : Reach rows n) : n < rows.length := by
  cases h with
  | zero => exact List.length_pos_iff.mpr hv.ne
  | step _ hi hm => exact succs_lt hv hi hm

/-- edges go over into the kept rows -/
theorem keep_step {rows : Rows} {kl : List Bool} {n m : Nat} {i : Ins} (hi : rows[n]? = some i) (hk : kl[n]? = some true) (hm : m ∈ succs i n) (h : Reach (keepR rows kl) (place kl n)) : Reach (keepR rows kl) (place kl m) := by
  have hg := zip_get (Ins.mv kl) hi hk
  rw [← keepR_kp] at hg
  refine .step h hg ?_
  unfold succs at hm ⊢
  rcases List.mem_append.mp hm with hm | hm
  · exact List.mem_append_left _ (by rw [mem_tgs, mv_tg, mem_tgs.mp hm]; rfl)
  · refine List.mem_append_right _ ?_
    rw [mv_on]
    split at hm
    · rename_i ho
      rw [if_pos ho, List.mem_singleton.mp hm, place_succ kl n true hk]
      simp
    · cases hm
theorem keep_reached {rows : Rows} (hv : Vd rows) : AllR (keepR rows (reachB rows)) ∧ Vd (keepR rows (reachB rows)) ∧ (keepR rows (reachB rows)).filterMap tagD = KR rows := by
  have key : ∀ n, Reach rows n → Reach (keepR rows (reachB rows)) (place (reachB rows) n) := fun n h => by
    induction h with
    | zero => rw [show place (reachB rows) 0 = 0 by simp [place]]; exact .zero
    | @step n m i hn hi hm ih => exact keep_step hi (reachB_true (reach_lt hv hn) hn) hm ih
  have some_ : ∀ n, Reach rows n → place (reachB rows) n < (keepR rows (reachB rows)).length := fun n h => by
    have hl := reach_lt hv h
    obtain ⟨i, hi⟩ := getE hl
    have := zip_get (Ins.mv (reachB rows)) hi (reachB_true hl h)
    exact lt_of_get this
  refine ⟨fun q hq => ?_, ⟨fun h => ?_, fun q i hi t ht => ?_, fun q i hi ho => ?_⟩, kp_tag _ _⟩
  · obtain ⟨y, hy⟩ := getE hq
    obtain ⟨n, a, h1, h2, rfl, _⟩ := zip_surj _ hy
    exact key n ((reachB_get h2).2.mp rfl)
  · have := some_ 0 .zero
    rw [h] at this
    exact absurd this (Nat.not_lt_zero _)
  · obtain ⟨n, a, h1, h2, rfl, rfl⟩ := zip_surj _ hi
    rw [mem_tgs, mv_tg] at ht
    obtain ⟨u, hu, rfl⟩ := Option.map_eq_some_iff.mp ht
    exact some_ u (.step ((reachB_get h2).2.mp rfl) h1 (List.mem_append_left _ (mem_tgs.mpr hu)))
  · obtain ⟨n, a, h1, h2, rfl, rfl⟩ := zip_surj _ hi
    rw [mv_on] at ho
    have := some_ (n + 1) (.step ((reachB_get h2).2.mp rfl) h1 (List.mem_append_right _ (by rw [if_pos ho]; simp)))
    rwa [place_succ _ n true h2] at this

/-! ## idle rows -/
noncomputable def idleI (i : Ins) (n : Nat) : Prop := isC i = true ∨ i = .drop ∨ vi i = true ∨ i = .jump (n + 1)
theorem idleL_len (am : List Nat) : ∀ (n : Nat) (l : Rows), (idleL am n l).length = l.length
  | _, [] => rfl
  | _, [_] => rfl
  | n, a :: b :: r => by
    rw [idleL]
    split
    · simp [idleL_len am (n + 2) r]
    · rw [List.length_cons, idleL_len am (n + 1) (b :: r)]; rfl
theorem idleL_ok (am : List Nat) : ∀ (n : Nat) (l : Rows) (q : Nat), (idleL am n l)[q]? = some true → ∃ i, l[q]? = some i ∧ idleI i (n + q)
  | _, [], q, h => by simp [idleL] at h
  | _, [_], q, h => by
    rw [idleL] at h
    cases q <;> simp at h
  | n, a :: b :: r, q, h => by
    rw [idleL] at h
    split at h
    · rename_i hc
      simp only [Bool.and_eq_true, decide_eq_true_eq] at hc
      match q, h with
      | 0, _ => exact ⟨a, rfl, .inl hc.1.1⟩
      | 1, _ => exact ⟨b, rfl, .inr (.inl hc.1.2)⟩
      | q + 2, h =>
        obtain ⟨i, h1, h2⟩ := idleL_ok am (n + 2) r q (by simpa using h)
        exact ⟨i, by simpa using h1, by rwa [show n + 2 + q = n + (q + 2) by omega] at h2⟩
    · match q, h with
      | 0, h =>
        simp at h
        refine ⟨a, rfl, ?_⟩
        rcases h with h | h
        · exact .inr (.inr (.inr h))
        · exact .inr (.inr (.inl h.1.1))
      | q + 1, h =>
        obtain ⟨i, h1, h2⟩ := idleL_ok am (n + 1) (b :: r) q (by simpa using h)
        exact ⟨i, by simpa using h1, by rwa [show n + 1 + q = n + (q + 1) by omega] at h2⟩
theorem idleL_no (am : List Nat) : ∀ (n : Nat) (l : Rows), (∀ x ∈ idleL am n l, x = false) → ∀ (q : Nat) (a b : Ins), l[q]? = some a → l[q + 1]? = some b →
    a ≠ .jump (n + q + 1) ∧ (n + q + 1 ∉ am → ¬ (isC a = true ∧ b = .drop) ∧ ¬ (vi a = true ∧ sv b = true))
  | _, [], _, q, a, b, h, _ => by simp at h
  | _, [_], _, q, a, b, _, h => by simp at h
  | n, x :: y :: r, hf, q, a, b, ha, hb => by
    rw [idleL] at hf
    split at hf
    · have := hf true List.mem_cons_self
      cases this
    · rename_i hc
      match q, ha, hb with
      | 0, ha, hb =>
        simp at ha hb
        subst ha hb
        have := hf _ List.mem_cons_self
        simp at this hc
        refine ⟨this.1, fun hm => ⟨fun ⟨h1, h2⟩ => hm (hc h1 h2), fun ⟨h1, h2⟩ => hm (this.2 h1 h2)⟩⟩
      | q + 1, ha, hb =>
        have := idleL_no am (n + 1) (y :: r) (fun z hz => hf z (List.mem_cons_of_mem _ hz)) q a b (by simpa using ha) (by simpa using hb)
        rwa [show n + 1 + q + 1 = n + (q + 1) + 1 by omega] at this
theorem idleR_len (rows : Rows) : ((idleR rows).map not).length = rows.length := by rw [List.length_map, idleR, idleL_len]
theorem idle_get {rows : Rows} {n : Nat} {i : Ins} (hi : rows[n]? = some i) (h : ((idleR rows).map not)[n]? = some false) : idleI i n := by
  rw [List.getElem?_map] at h
  obtain ⟨b, hb, e⟩ := Option.map_eq_some_iff.mp h
  cases b with
  | false => cases e
  | true =>
    obtain ⟨j, h1, h2⟩ := idleL_ok _ _ _ _ hb
    rw [hi] at h1; cases h1
    rwa [Nat.zero_add] at h2
theorem idleI.succ {i : Ins} {n m : Nat} (h : idleI i n) (hm : m ∈ succs i n) : m = n + 1 := by
  rcases h with h | h | h | h
  · cases i <;> simp [isC] at h
    simpa [succs, Ins.tgs, Ins.tg, Ins.on] using hm
  · subst h
    simpa [succs, Ins.tgs, Ins.tg, Ins.on] using hm
  · cases i <;> simp [vi] at h <;> simpa [succs, Ins.tgs, Ins.tg, Ins.on] using hm
  · subst h
    simpa [succs, Ins.tgs, Ins.tg, Ins.on] using hm
theorem idleI.tag {i : Ins} {n : Nat} (h : idleI i n) : tagD i = none := by
  rcases h with h | h | h | h
  · cases i <;> simp [isC] at h <;> rfl
  · subst h; rfl
  · cases i <;> simp [vi] at h <;> rfl
  · subst h; rfl
theorem idleI.lt {rows : Rows} (hv : Vd rows) {i : Ins} {n : Nat} (hi : rows[n]? = some i) (h : idleI i n) : n + 1 < rows.length := by
  rcases h with h | h | h | h
  · refine hv.on _ _ hi ?_
    cases i <;> simp [isC] at h <;> rfl
  · subst h; exact hv.on _ _ hi rfl
  · refine hv.on _ _ hi ?_
    cases i <;> simp [vi] at h <;> rfl
  · subst h; exact hv.tg _ _ hi _ (by simp [Ins.tgs, Ins.tg])
theorem keep_busy {rows : Rows} (hv : Vd rows) (ha : AllR rows) : AllR (keepR rows ((idleR rows).map not)) ∧ Vd (keepR rows ((idleR rows).map not)) ∧ (keepR rows ((idleR rows).map not)).filterMap tagD = rows.filterMap tagD := by
  generalize hkl : (idleR rows).map not = kl
  have hlen : kl.length = rows.length := by rw [← hkl]; exact idleR_len rows
  have hidle : ∀ n i, rows[n]? = some i → kl[n]? = some false → idleI i n := fun n i hi h => idle_get hi (by rw [hkl]; exact h)
  have hb : ∀ n, n < rows.length → ∃ b, kl[n]? = some b := fun n h => ⟨_, List.getElem?_eq_getElem (by omega)⟩
  have hL : (keepR rows kl).length = place kl rows.length := zip_len _ hlen
  have hpos : 0 < rows.length := List.length_pos_iff.mpr hv.ne
  have hlast : kl[rows.length - 1]? = some true := by
    obtain ⟨b, h⟩ := hb (rows.length - 1) (by omega)
    cases b with
    | true => exact h
    | false =>
      obtain ⟨i, hi⟩ := getE (show rows.length - 1 < rows.length by omega)
      have := (hidle _ _ hi h).lt hv hi
      omega
  have hpl : place kl rows.length = place kl (rows.length - 1) + 1 := by
    have := place_succ kl (rows.length - 1) true hlast
    rwa [show rows.length - 1 + 1 = rows.length by omega] at this
  have plt : ∀ t, t < rows.length → place kl t < (keepR rows kl).length := fun t ht => by
    have := place_le kl (show t ≤ rows.length - 1 by omega)
    omega
  have key : ∀ n, Reach rows n → Reach (keepR rows kl) (place kl n) := fun n h => by
    induction h with
    | zero => rw [show place kl 0 = 0 by simp [place]]; exact .zero
    | @step n m i hn hi hm ih =>
      obtain ⟨b, hbn⟩ := hb n (lt_of_get hi)
      cases b with
      | true => exact keep_step hi hbn hm ih
      | false =>
        rw [(hidle n i hi hbn).succ hm, place_succ kl n false hbn]
        simpa using ih
  refine ⟨fun q hq => ?_, ⟨fun h => ?_, fun q i hi t ht => ?_, fun q i hi ho => ?_⟩, ?_⟩
  · obtain ⟨y, hy⟩ := getE hq
    obtain ⟨n, a, h1, h2, rfl, _⟩ := zip_surj _ hy
    exact key n (ha n (lt_of_get h1))
  · have := plt 0 hpos
    rw [h] at this
    exact absurd this (Nat.not_lt_zero _)
  · obtain ⟨n, a, h1, h2, rfl, rfl⟩ := zip_surj _ hi
    rw [mem_tgs, mv_tg] at ht
    obtain ⟨u, hu, rfl⟩ := Option.map_eq_some_iff.mp ht
    exact plt u (hv.tg _ _ h1 u (mem_tgs.mpr hu))
  · obtain ⟨n, a, h1, h2, rfl, rfl⟩ := zip_surj _ hi
    rw [mv_on] at ho
    have := plt (n + 1) (hv.on _ _ h1 ho)
    rwa [place_succ _ n true h2] at this
  · rw [kp_tag]
    refine fm_congr (by simp [hlen]) fun n a b h1 h2 => ?_
    obtain ⟨a1, a2⟩ := a
    rw [List.getElem?_zip_eq_some] at h1
    rw [h1.1] at h2; cases h2
    cases a2 with
    | true => rfl
    | false => rw [(hidle n _ h1.1 h1.2).tag]; rfl

/-! ## all improvements -/
theorem improved_ok {rows : Rows} (hv : Vd rows) : Vd (improvedR rows) ∧ AllR (improvedR rows) ∧ KR (improvedR rows) = KR rows := by
  obtain ⟨a1, a2, a3⟩ := keep_reached hv.thread
  obtain ⟨b1, b2, b3⟩ := keep_busy a2 a1
  refine ⟨b2, b1, ?_⟩
  show KR (improvedR rows) = _
  rw [AllR.KR (rows := improvedR rows) b1, ← KR_thread rows, ← a3, ← b3]
  rfl
theorem place_all {kl : List Bool} (h : ∀ (n : Nat) (b : Bool), kl[n]? = some b → b = true) {t : Nat} (ht : t ≤ kl.length) : place kl t = t := by
  unfold place
  have e : kl = List.replicate kl.length true := by
    apply List.eq_replicate_iff.mpr
    refine ⟨rfl, fun b hb => ?_⟩
    obtain ⟨n, hn⟩ := List.getElem?_of_mem hb
    exact h n b hn
  rw [e, List.take_replicate, List.count_replicate_self]
  omega
theorem place_lt {kl : List Bool} {n : Nat} (h : kl[n]? = some false) : ∀ {m : Nat}, n < m → m ≤ kl.length → place kl m < m := by
  have hle : ∀ j, place kl j ≤ j := fun j => by
    unfold place
    exact Nat.le_trans List.count_le_length (by simp; omega)
  intro m
  induction m with
  | zero => intro h' _; exact absurd h' (Nat.not_lt_zero _)
  | succ m ih =>
    intro hnm hml
    obtain ⟨b, hb⟩ : ∃ b, kl[m]? = some b := ⟨_, List.getElem?_eq_getElem (by omega)⟩
    rw [place_succ kl m b hb]
    rcases Nat.lt_or_ge n m with q | q
    · have := ih q (by omega)
      split <;> omega
    · obtain rfl : n = m := by omega
      rw [h] at hb; cases hb
      have := hle n
      simp
      omega
theorem keep_full {rows : Rows} (hv : Vd rows) {kl : List Bool} (hl : kl.length = rows.length) (h : (keepR rows kl).length = rows.length) : keepR rows kl = rows ∧ ∀ (n : Nat) (b : Bool), kl[n]? = some b → b = true := by
  have hall : ∀ (n : Nat) (b : Bool), kl[n]? = some b → b = true := fun n b hb => by
    cases b with
    | true => rfl
    | false =>
      have := place_lt hb (m := rows.length) (by have := lt_of_get hb; omega) (by omega)
      rw [keepR_kp, zip_len _ hl] at h
      omega
  refine ⟨?_, hall⟩
  apply List.ext_getElem?
  intro n
  rcases Nat.lt_or_ge n rows.length with q | q
  · obtain ⟨i, hi⟩ := getE q
    obtain ⟨b, hb⟩ : ∃ b, kl[n]? = some b := ⟨_, List.getElem?_eq_getElem (by omega)⟩
    have := hall n b hb
    subst this
    have hg := zip_get (Ins.mv kl) hi hb
    rw [place_all hall (by omega)] at hg
    rw [keepR_kp, hg, hi]
    congr 1
    unfold Ins.mv
    cases h : i.tg with
    | none => rfl
    | some t =>
      have := hv.tg _ _ hi t (mem_tgs.mpr h)
      simp only
      rw [place_all hall (by omega), setT_self h]
  · rw [List.getElem?_eq_none (by omega), List.getElem?_eq_none (by omega)]
theorem keep_len_le (rows : Rows) (kl : List Bool) : (keepR rows kl).length ≤ rows.length := by
  unfold keepR
  refine Nat.le_trans (List.length_filterMap_le _ _) ?_
  simp; omega
open Classical in
noncomputable def meas (rows : Rows) : Nat := 2 * rows.length + if threadR rows = rows then 0 else 1
theorem improved_len (rows : Rows) : (improvedR rows).length ≤ rows.length := by
  unfold improvedR
  have h1 := keep_len_le (keepR (threadR rows) (reachB (threadR rows))) ((idleR (keepR (threadR rows) (reachB (threadR rows)))).map not)
  have h2 := keep_len_le (threadR rows) (reachB (threadR rows))
  rw [thread_len] at h2
  omega
theorem improved_full {rows : Rows} (hv : Vd rows) (h : (improvedR rows).length = rows.length) : improvedR rows = threadR rows ∧ ∀ x ∈ idleR (threadR rows), x = false := by
  have h1 := keep_len_le (keepR (threadR rows) (reachB (threadR rows))) ((idleR (keepR (threadR rows) (reachB (threadR rows)))).map not)
  have h2 := keep_len_le (threadR rows) (reachB (threadR rows))
  have h3 := thread_len rows
  have h' : (keepR (keepR (threadR rows) (reachB (threadR rows))) ((idleR (keepR (threadR rows) (reachB (threadR rows)))).map not)).length = rows.length := h
  obtain ⟨e1, _⟩ := keep_full hv.thread (reachB_len _) (by omega)
  unfold improvedR
  rw [e1] at h' ⊢
  obtain ⟨e2, e3⟩ := keep_full hv.thread (idleR_len _) (by omega)
  refine ⟨e2, fun x hx => ?_⟩
  obtain ⟨n, hn⟩ := List.getElem?_of_mem hx
  have := e3 n (!x) (by rw [List.getElem?_map, hn]; rfl)
  simpa using this
theorem meas_lt {rows : Rows} (hv : Vd rows) (h : improvedR rows ≠ rows) : meas (improvedR rows) < meas rows := by
  have hl := improved_len rows
  unfold meas
  rcases Nat.lt_or_ge (improvedR rows).length rows.length with q | q
  · split <;> split <;> omega
  · obtain ⟨e, _⟩ := improved_full hv (by omega)
    have h' : threadR rows ≠ rows := fun h2 => h (e.trans h2)
    rw [e, thread_idem, if_pos rfl, if_neg h', thread_len]
    omega
theorem fix_facts {rows : Rows} (hv : Vd rows) (h : improvedR rows = rows) : threadR rows = rows ∧ AllR rows ∧ ∀ x ∈ idleR rows, x = false := by
  obtain ⟨h1, h2⟩ := improved_full hv (by rw [h])
  have ht : threadR rows = rows := h1.symm.trans h
  exact ⟨ht, by have := (improved_ok hv).2.1; rwa [h] at this, by rwa [ht] at h2⟩
theorem fix_ring {rows : Rows} (ht : threadR rows = rows) {n t : Nat} {i : Ins} (hi : rows[n]? = some i) (h : i.tg = some t) (hj : isJ rows t) : Ring rows t := by
  have h1 : (threadR rows)[n]? = some (i.thr rows) := by rw [thread_get, hi]; rfl
  rw [ht, hi] at h1
  have h2 : i.thr rows = i := (Option.some.inj h1).symm
  have h3 := thr_tg rows i
  rw [h2, h] at h3
  have h4 : lastT rows t = t := (Option.some.inj h3).symm
  rcases lastT_end rows t with h5 | h5
  · rw [h4] at h5; exact absurd hj h5
  · rwa [h4] at h5
end Mine

/-! W25 -/
namespace Mine

noncomputable def stD (p : Nat × Int × Int) : D := .t [.int p.1, .int p.2.1, .int p.2.2]
abbrev fstI (x : Nat × Int × Int) : Nat := x.1
section
variable {C : Cx} {k : Nat} {σ : Store} {Q : EP} {Φ : CallT} {ρ : Rho}
theorem nm_unless {i : Ins} : D.s (.str i.nm) = D.s (.str "unless") ↔ ∃ u, i = .unless u := by
  cases i <;> first | exact ⟨fun _ => ⟨_, rfl⟩, fun _ => rfl⟩ | exact ⟨fun h => no (show decide _ = true from decide_eq_true h), fun ⟨_, h⟩ => by cases h⟩
theorem c_target_states (i : Ins) (hh ll : Int) (h : ∀ n σ' (sts : List (Nat × Int × Int)), σ.length ≤ n → Ext σ σ' → σ'[n]? = some (.list (sts.map stD)) → sts.map fstI = i.tgs → Q (.loc n) σ') : callP (ΦN C (k + 2)) "target_states" [.d i.d, I' hh, I' ll] σ Q := by
  refine callP_fn rfl (phi_call (i := 7) rfl rfl ?_)
  change wB C _ (bodyOf (fnS 7)) (retQ Q) (upd (upd (upd rho0 "row" (.d i.d)) "height" (I' hh)) "loops" (I' ll)) σ
  (refine wB_cons ?_; dsimp only [wE_int, wE_str, wE_bool, wE_none, wE_name, wE_tuple, wE_list, wE_dict, wE_bin, wE_not, wE_neg, wE_cmp, wE_if, wE_call, wE_meth, wE_attr, wE_to, wE_from, wE_subC, wE_subN, wE_subB, wE_subU, wE_comp, wE_comp2, wT_not, wT_bool, wT_cmp, wT_name, wT_call, wT_sub, wTs_and0, wTs_or0, wTs_and, wTs_or, wEs_nil, wEs_cons, wS_asg, wS_asgT, wS_asgS, wS_asgA, wS_aug, wS_expr, wS_if, wS_while, wS_for, wS_ret, wS_cont, seq_next, seq_ret, seq_cont, ret_ret, ret_next, loop_next, loop_cont, loop_ret])
  refine ⟨_, rfl, _, item0 i σ, _, cmp_eq_str _ _ _, ite_f (by cases i <;> rfl) ⟨_, rfl, _, item0 i σ, _, cmp_eq_str _ _ _, ite_f (by cases i <;> rfl) (ite_f rfl (wB_skip ?_))⟩⟩
  (refine wB_cons ?_; dsimp only [wE_int, wE_str, wE_bool, wE_none, wE_name, wE_tuple, wE_list, wE_dict, wE_bin, wE_not, wE_neg, wE_cmp, wE_if, wE_call, wE_meth, wE_attr, wE_to, wE_from, wE_subC, wE_subN, wE_subB, wE_subU, wE_comp, wE_comp2, wT_not, wT_bool, wT_cmp, wT_name, wT_call, wT_sub, wTs_and0, wTs_or0, wTs_and, wTs_or, wEs_nil, wEs_cons, wS_asg, wS_asgT, wS_asgS, wS_asgA, wS_aug, wS_expr, wS_if, wS_while, wS_for, wS_ret, wS_cont, seq_next, seq_ret, seq_cont, ret_ret, ret_next, loop_next, loop_cont, loop_ret])
  refine ⟨_, rfl, _, item0 i σ, _, cmp_eq_str _ _ _, ite_both (fun hu => ?_) fun hu => wB_skip ?_⟩
  · obtain ⟨u, rfl⟩ := nm_unless.mp (dec_t hu)
    (refine wB_cons ?_; dsimp only [wE_int, wE_str, wE_bool, wE_none, wE_name, wE_tuple, wE_list, wE_dict, wE_bin, wE_not, wE_neg, wE_cmp, wE_if, wE_call, wE_meth, wE_attr, wE_to, wE_from, wE_subC, wE_subN, wE_subB, wE_subU, wE_comp, wE_comp2, wT_not, wT_bool, wT_cmp, wT_name, wT_call, wT_sub, wTs_and0, wTs_or0, wTs_and, wTs_or, wEs_nil, wEs_cons, wS_asg, wS_asgT, wS_asgS, wS_asgA, wS_aug, wS_expr, wS_if, wS_while, wS_for, wS_ret, wS_cont, seq_next, seq_ret, seq_cont, ret_ret, ret_next, loop_next, loop_cont, loop_ret])
    exact ⟨_, rfl, _, item1, _, rfl, .subI ⟨_, rfl, small rfl, _, rfl, small rfl, _, rfl, h _ _ [(u, hh - 1, ll)] (Nat.le_refl _) ((Ext.refl σ).app _) (get_new _ _) rfl⟩⟩
  · (refine wB_cons ?_; dsimp only [wE_int, wE_str, wE_bool, wE_none, wE_name, wE_tuple, wE_list, wE_dict, wE_bin, wE_not, wE_neg, wE_cmp, wE_if, wE_call, wE_meth, wE_attr, wE_to, wE_from, wE_subC, wE_subN, wE_subB, wE_subU, wE_comp, wE_comp2, wT_not, wT_bool, wT_cmp, wT_name, wT_call, wT_sub, wTs_and0, wTs_or0, wTs_and, wTs_or, wEs_nil, wEs_cons, wS_asg, wS_asgT, wS_asgS, wS_asgA, wS_aug, wS_expr, wS_if, wS_while, wS_for, wS_ret, wS_cont, seq_next, seq_ret, seq_cont, ret_ret, ret_next, loop_next, loop_cont, loop_ret])
    refine ⟨_, rfl, c_row_targets i ?_⟩
    refine ⟨σ.length, iDs i.tgs, rfl, get_new _ _, iDs_small i, fun j acc σ3 => acc = ((i.tgs.take j).map fun t => (t, hh, ll)).map stD ∧ Ext (σ ++ [.list (iDs i.tgs)]) σ3, ⟨rfl, Ext.refl _⟩, fun j acc σ'' hJ => hJ.2 _ _ (get_new _ _), ?_, ?_⟩
    · rintro j d acc σ3 hd ⟨rfl, z⟩ ρ' hx hf
      obtain ⟨t, ht, rfl⟩ := iDs_get hd
      dsimp only [wE_int, wE_str, wE_bool, wE_none, wE_name, wE_tuple, wE_list, wE_dict, wE_bin, wE_not, wE_neg, wE_cmp, wE_if, wE_call, wE_meth, wE_attr, wE_to, wE_from, wE_subC, wE_subN, wE_subB, wE_subU, wE_comp, wE_comp2, wT_not, wT_bool, wT_cmp, wT_name, wT_call, wT_sub, wTs_and0, wTs_or0, wTs_and, wTs_or, wEs_nil, wEs_cons, wS_asg, wS_asgT, wS_asgS, wS_asgA, wS_aug, wS_expr, wS_if, wS_while, wS_for, wS_ret, wS_cont, seq_next, seq_ret, seq_cont, ret_ret, ret_next, loop_next, loop_cont, loop_ret]
      refine ⟨_, hx, _, (hf "height" rfl).trans rfl, _, (hf "loops" rfl).trans rfl, small rfl, _, rfl, _, rfl, ?_, z⟩
      rw [take_next ht, List.map_append, List.map_append]; rfl
    · rintro acc σ3 ⟨rfl, z⟩ _
      refine h _ _ _ (Nat.le_trans (by rw [List.length_append]; exact Nat.le_add_right _ _) z.len) ((((Ext.refl σ).app _).trans z).app _) (get_new _ _) ?_
      rw [iDs_len, List.take_length, List.map_map]
      exact List.map_id _

theorem c_max (a b c : Int) (h : ∀ m, Q (I' m) σ) : callP Φ "max" [I' a, I' b, I' c] σ Q :=
  callP_bi rfl (show ∃ a' b' c' : Int, [I' a, I' b, I' c] = [I' a', I' b', I' c'] ∧ _ from ⟨a, b, c, rfl, h _⟩)

/-- the names of greatest_height -/
structure GE (r kn p : Nat) (ρ : Rho) : Prop where
  e1 : ρ "rows" = some (.loc r)
  e2 : ρ "known" = some (.loc kn)
  e3 : ρ "pending" = some (.loc p)
  e4 : ∃ mo, ρ "most" = some (I' mo)
structure GM (σ0 : Store) (kn p : Nat) (rs : List Nat) (pend : List (Nat × Int × Int)) (σ : Store) : Prop where
  m1 : σ[kn]? = some (.dict (rs.map fun (x : Nat) => (x : Int)))
  m2 : σ[p]? = some (.list (pend.map stD))
  m3 : Ext σ0 σ
theorem GM.app {σ0 : Store} {kn p : Nat} {rs : List Nat} {pend : List (Nat × Int × Int)} (M : GM σ0 kn p rs pend σ) {st : Nat × Int × Int} (hne : p ≠ kn) (hl : σ0.length ≤ p) (hs : pend.length ≤ 1000000) (h : ∀ σ', GM σ0 kn p rs (pend ++ [st]) σ' → (∀ n o, n ≠ p → σ[n]? = some o → σ'[n]? = some o) → Q N' σ') : meth "append" (.loc p) [.d (stD st)] σ Q :=
  meth_append M.m2 (by rw [List.length_map]; exact hs) (h _ ⟨get_set_ne M.m1 hne, by rw [get_set M.m2, map_snoc], M.m3.set hl⟩ fun n o hn e => get_set_ne e (Ne.symm hn))

set_option maxRecDepth 20000 in
theorem c_greatest_height (r : Nat) (rows : Rows) (hr : RL σ r rows) (hv : Vd rows) (hL : rows.length ≤ 1000) (h : ∀ m σ', Ext σ σ' → Q (I' m) σ') :
    callP (ΦN C (k + 3)) "greatest_height" [.loc r] σ Q := by
  refine callP_fn rfl (phi_call (i := 8) rfl rfl ?_)
  change wB C _ (bodyOf (fnS 8)) (retQ Q) (upd rho0 "rows" (.loc r)) σ
  (refine wB_cons ?_; dsimp only [wE_int, wE_str, wE_bool, wE_none, wE_name, wE_tuple, wE_list, wE_dict, wE_bin, wE_not, wE_neg, wE_cmp, wE_if, wE_call, wE_meth, wE_attr, wE_to, wE_from, wE_subC, wE_subN, wE_subB, wE_subU, wE_comp, wE_comp2, wT_not, wT_bool, wT_cmp, wT_name, wT_call, wT_sub, wTs_and0, wTs_or0, wTs_and, wTs_or, wEs_nil, wEs_cons, wS_asg, wS_asgT, wS_asgS, wS_asgA, wS_aug, wS_expr, wS_if, wS_while, wS_for, wS_ret, wS_cont, seq_next, seq_ret, seq_cont, ret_ret, ret_next, loop_next, loop_cont, loop_ret])
  (refine wB_cons ?_; dsimp only [wE_int, wE_str, wE_bool, wE_none, wE_name, wE_tuple, wE_list, wE_dict, wE_bin, wE_not, wE_neg, wE_cmp, wE_if, wE_call, wE_meth, wE_attr, wE_to, wE_from, wE_subC, wE_subN, wE_subB, wE_subU, wE_comp, wE_comp2, wT_not, wT_bool, wT_cmp, wT_name, wT_call, wT_sub, wTs_and0, wTs_or0, wTs_and, wTs_or, wEs_nil, wEs_cons, wS_asg, wS_asgT, wS_asgS, wS_asgA, wS_aug, wS_expr, wS_if, wS_while, wS_for, wS_ret, wS_cont, seq_next, seq_ret, seq_cont, ret_ret, ret_next, loop_next, loop_cont, loop_ret])
  (refine wB_cons ?_; dsimp only [wE_int, wE_str, wE_bool, wE_none, wE_name, wE_tuple, wE_list, wE_dict, wE_bin, wE_not, wE_neg, wE_cmp, wE_if, wE_call, wE_meth, wE_attr, wE_to, wE_from, wE_subC, wE_subN, wE_subB, wE_subU, wE_comp, wE_comp2, wT_not, wT_bool, wT_cmp, wT_name, wT_call, wT_sub, wTs_and0, wTs_or0, wTs_and, wTs_or, wEs_nil, wEs_cons, wS_asg, wS_asgT, wS_asgS, wS_asgA, wS_aug, wS_expr, wS_if, wS_while, wS_for, wS_ret, wS_cont, seq_next, seq_ret, seq_cont, ret_ret, ret_next, loop_next, loop_cont, loop_ret])
  refine ⟨small rfl, [.int 0, .int 0, .int 0], rfl, small rfl, [stD (0, 0, 0)], rfl, ?_⟩
  obtain ⟨p, hp⟩ : ∃ p, p = (σ ++ [AO.dict []]).length := ⟨_, rfl⟩
  rw [← hp]
  have hpl : σ.length < p := by rw [hp, List.length_append]; exact Nat.lt_succ_self _
  have hne : p ≠ σ.length := Ne.symm (Nat.ne_of_lt hpl)
  have hle := Nat.le_of_lt hpl
  have M0 : GM σ σ.length p [] [(0, 0, 0)] (σ ++ [AO.dict []] ++ [AO.list [stD (0, 0, 0)]]) := ⟨get_app (get_new _ _), get_new' hp, ((Ext.refl σ).app _).app _⟩
  clear hp
  (refine wB_cons ?_; dsimp only [wE_int, wE_str, wE_bool, wE_none, wE_name, wE_tuple, wE_list, wE_dict, wE_bin, wE_not, wE_neg, wE_cmp, wE_if, wE_call, wE_meth, wE_attr, wE_to, wE_from, wE_subC, wE_subN, wE_subB, wE_subU, wE_comp, wE_comp2, wT_not, wT_bool, wT_cmp, wT_name, wT_call, wT_sub, wTs_and0, wTs_or0, wTs_and, wTs_or, wEs_nil, wEs_cons, wS_asg, wS_asgT, wS_asgS, wS_asgA, wS_aug, wS_expr, wS_if, wS_while, wS_for, wS_ret, wS_cont, seq_next, seq_ret, seq_cont, ret_ret, ret_next, loop_next, loop_cont, loop_ret])
  refine while_of (fun m ρ σ' => ∃ (rs : List Nat) (pend : List (Nat × Int × Int)), m = ms rows rs.length (pend.map fstI).length ∧ GE r σ.length p ρ ∧ GM σ σ.length p rs pend σ' ∧ RJ rows rs (pend.map fstI)) _
    ⟨[], [(0, 0, 0)], rfl, ⟨rfl, rfl, rfl, ⟨0, rfl⟩⟩, M0, RJ.init hv⟩ ?_
  clear M0
  rintro _ ρ σ' L ⟨rs, pend, rfl, E, M, J⟩ hn hc _
  have hsm := J.small hL
  rw [List.length_map] at hsm
  dsimp only [wE_int, wE_str, wE_bool, wE_none, wE_name, wE_tuple, wE_list, wE_dict, wE_bin, wE_not, wE_neg, wE_cmp, wE_if, wE_call, wE_meth, wE_attr, wE_to, wE_from, wE_subC, wE_subN, wE_subB, wE_subU, wE_comp, wE_comp2, wT_not, wT_bool, wT_cmp, wT_name, wT_call, wT_sub, wTs_and0, wTs_or0, wTs_and, wTs_or, wEs_nil, wEs_cons, wS_asg, wS_asgT, wS_asgS, wS_asgA, wS_aug, wS_expr, wS_if, wS_while, wS_for, wS_ret, wS_cont, seq_next, seq_ret, seq_cont, ret_ret, ret_next, loop_next, loop_cont, loop_ret]
  refine ⟨_, E.e3, c_len M.m2 (map_small hsm (by decide)) ⟨_, .gt, ite_both (fun hpos => ?_) fun hpos => ?_⟩⟩
  · have hnil : pend ≠ [] := by
      rintro rfl
      exact no hpos
    obtain ⟨pend', st, rfl⟩ : ∃ l a, pend = l ++ [a] := ⟨_, _, (List.dropLast_concat_getLast hnil).symm⟩
    obtain ⟨n, hh, ll⟩ := st
    rw [List.map_append] at J
    have hn' := J.peok n (List.mem_append_right _ List.mem_cons_self)
    rw [List.length_append] at hsm
    have M1 : GM σ σ.length p rs pend' (σ'.set p (.list (pend'.map stD))) := ⟨get_set_ne M.m1 hne, get_set M.m2, M.m3.set hle⟩
    (refine wB_cons ?_; dsimp only [wE_int, wE_str, wE_bool, wE_none, wE_name, wE_tuple, wE_list, wE_dict, wE_bin, wE_not, wE_neg, wE_cmp, wE_if, wE_call, wE_meth, wE_attr, wE_to, wE_from, wE_subC, wE_subN, wE_subB, wE_subU, wE_comp, wE_comp2, wT_not, wT_bool, wT_cmp, wT_name, wT_call, wT_sub, wTs_and0, wTs_or0, wTs_and, wTs_or, wEs_nil, wEs_cons, wS_asg, wS_asgT, wS_asgS, wS_asgA, wS_aug, wS_expr, wS_if, wS_while, wS_for, wS_ret, wS_cont, seq_next, seq_ret, seq_cont, ret_ret, ret_next, loop_next, loop_cont, loop_ret])
    refine ⟨_, E.e3, isList M.m2, meth_pop (ds := pend'.map stD) (d := stD (n, hh, ll)) (by rw [M.m2, List.map_append]; rfl) (by rw [List.length_map]; exact pend_lt hsm) ⟨_, rfl, rfl, ?_⟩⟩
    generalize σ'.set p (.list (pend'.map stD)) = σ1 at M1
    clear M
    obtain ⟨ρ1, hρ⟩ : ∃ ρ1, ρ1 = updS ρ ["place", "height", "loops"] [.int n, .int hh, .int ll] := ⟨_, rfl⟩
    change wB C _ _ _ (updS ρ ["place", "height", "loops"] [.int n, .int hh, .int ll]) _
    rw [← hρ]
    have E1 : GE r σ.length p ρ1 := by subst hρ; exact ⟨E.e1, E.e2, E.e3, E.e4⟩
    have p1 : ρ1 "place" = some (I' n) := by subst hρ; rfl
    have p2 : ρ1 "height" = some (I' hh) := by subst hρ; rfl
    have p3 : ρ1 "loops" = some (I' ll) := by subst hρ; rfl
    clear hρ E
    (refine wB_cons ?_; dsimp only [wE_int, wE_str, wE_bool, wE_none, wE_name, wE_tuple, wE_list, wE_dict, wE_bin, wE_not, wE_neg, wE_cmp, wE_if, wE_call, wE_meth, wE_attr, wE_to, wE_from, wE_subC, wE_subN, wE_subB, wE_subU, wE_comp, wE_comp2, wT_not, wT_bool, wT_cmp, wT_name, wT_call, wT_sub, wTs_and0, wTs_or0, wTs_and, wTs_or, wEs_nil, wEs_cons, wS_asg, wS_asgT, wS_asgS, wS_asgA, wS_aug, wS_expr, wS_if, wS_while, wS_for, wS_ret, wS_cont, seq_next, seq_ret, seq_cont, ret_ret, ret_next, loop_next, loop_cont, loop_ret])
    refine ⟨_, p1, _, E1.e2, _, cmp_in_dict _ M1.m1, ite_both (fun hin => ?_) fun hin => wB_skip ?_⟩
    · (refine wB_cons ?_; dsimp only [wE_int, wE_str, wE_bool, wE_none, wE_name, wE_tuple, wE_list, wE_dict, wE_bin, wE_not, wE_neg, wE_cmp, wE_if, wE_call, wE_meth, wE_attr, wE_to, wE_from, wE_subC, wE_subN, wE_subB, wE_subU, wE_comp, wE_comp2, wT_not, wT_bool, wT_cmp, wT_name, wT_call, wT_sub, wTs_and0, wTs_or0, wTs_and, wTs_or, wEs_nil, wEs_cons, wS_asg, wS_asgT, wS_asgS, wS_asgA, wS_aug, wS_expr, wS_if, wS_while, wS_for, wS_ret, wS_cont, seq_next, seq_ret, seq_cont, ret_ret, ret_next, loop_next, loop_cont, loop_ret])
      refine hc _ _ _ ?_ ⟨rs, pend', rfl, E1, M1, J.skip (mem_cast.mp (dec_t hin))⟩
      rw [List.map_append]; exact ms_skip
    · have hin := fun h => dec_f hin (mem_cast.mpr h)
      obtain ⟨i, hi⟩ := getE hn'.1
      have J' := J.visit hv hin hi
      have hlt := J'.len
      have hsm' := J'.small hL
      have hms : ∀ m, m ≤ (pend'.map fstI ++ succs i n).length → ms rows (n :: rs).length m < ms rows rs.length ((pend' ++ [(n, hh, ll)]).map fstI).length := fun m hm => by
        rw [List.map_append]; exact J'.ms_visit hm
      have M2 : GM σ σ.length p (n :: rs) pend' (σ1.set σ.length (.dict ((n : Int) :: rs.map fun (x : Nat) => (x : Int)))) := ⟨get_set M1.m1, get_set_ne M1.m2 (Ne.symm hne), M1.m3.set (Nat.le_refl _)⟩
      (refine wB_cons ?_; dsimp only [wE_int, wE_str, wE_bool, wE_none, wE_name, wE_tuple, wE_list, wE_dict, wE_bin, wE_not, wE_neg, wE_cmp, wE_if, wE_call, wE_meth, wE_attr, wE_to, wE_from, wE_subC, wE_subN, wE_subB, wE_subU, wE_comp, wE_comp2, wT_not, wT_bool, wT_cmp, wT_name, wT_call, wT_sub, wTs_and0, wTs_or0, wTs_and, wTs_or, wEs_nil, wEs_cons, wS_asg, wS_asgT, wS_asgS, wS_asgA, wS_aug, wS_expr, wS_if, wS_while, wS_for, wS_ret, wS_cont, seq_next, seq_ret, seq_cont, ret_ret, ret_next, loop_next, loop_cont, loop_ret])
      refine ⟨_, E1.e2, _, p1, _, setItem_dict _ _ M1.m1 (by rw [List.length_map]; rw [List.length_cons] at hlt; omega), ?_⟩
      generalize σ1.set σ.length (.dict ((n : Int) :: rs.map fun (x : Nat) => (x : Int))) = σ2 at M2
      clear M1
      (refine wB_cons ?_; dsimp only [wE_int, wE_str, wE_bool, wE_none, wE_name, wE_tuple, wE_list, wE_dict, wE_bin, wE_not, wE_neg, wE_cmp, wE_if, wE_call, wE_meth, wE_attr, wE_to, wE_from, wE_subC, wE_subN, wE_subB, wE_subU, wE_comp, wE_comp2, wT_not, wT_bool, wT_cmp, wT_name, wT_call, wT_sub, wTs_and0, wTs_or0, wTs_and, wTs_or, wEs_nil, wEs_cons, wS_asg, wS_asgT, wS_asgS, wS_asgA, wS_aug, wS_expr, wS_if, wS_while, wS_for, wS_ret, wS_cont, seq_next, seq_ret, seq_cont, ret_ret, ret_next, loop_next, loop_cont, loop_ret])
      refine ⟨_, E1.e1, _, p1, _, item_row (hr.ext M2.m3) hi hL, ?_⟩
      obtain ⟨ρ2, hρ⟩ : ∃ ρ2, ρ2 = upd ρ1 "row" (.d i.d) := ⟨_, rfl⟩
      rw [← hρ]
      have E2 : GE r σ.length p ρ2 := by subst hρ; exact ⟨E1.e1, E1.e2, E1.e3, E1.e4⟩
      have q1 : ρ2 "place" = some (I' n) := by subst hρ; exact p1
      have q2 : ρ2 "height" = some (I' hh) := by subst hρ; exact p2
      have q3 : ρ2 "loops" = some (I' ll) := by subst hρ; exact p3
      have q4 : ρ2 "row" = some (.d i.d) := by subst hρ; rfl
      clear hρ E1 p1 p2 p3
      (refine wB_cons ?_; dsimp only [wE_int, wE_str, wE_bool, wE_none, wE_name, wE_tuple, wE_list, wE_dict, wE_bin, wE_not, wE_neg, wE_cmp, wE_if, wE_call, wE_meth, wE_attr, wE_to, wE_from, wE_subC, wE_subN, wE_subB, wE_subU, wE_comp, wE_comp2, wT_not, wT_bool, wT_cmp, wT_name, wT_call, wT_sub, wTs_and0, wTs_or0, wTs_and, wTs_or, wEs_nil, wEs_cons, wS_asg, wS_asgT, wS_asgS, wS_asgA, wS_aug, wS_expr, wS_if, wS_while, wS_for, wS_ret, wS_cont, seq_next, seq_ret, seq_cont, ret_ret, ret_next, loop_next, loop_cont, loop_ret])
      refine ⟨_, q4, _, q2, _, q3, c_target_states i hh ll fun q σ3 sts hq0 y hq hst => ?_⟩
      have M3 : GM σ σ.length p (n :: rs) pend' σ3 := ⟨y _ _ M2.m1, y _ _ M2.m2, M2.m3.trans y⟩
      have hqp : q ≠ p := Ne.symm (Nat.ne_of_lt (Nat.lt_of_lt_of_le (lt_of_get M2.m2) hq0))
      have hsts : sts.length ≤ 1 := by have := tgs_len i; rw [← hst, List.length_map] at this; exact this
      rw [List.length_append, List.length_map] at hsm'
      refine for_of (ds := sts.map stD) hq (fun j ρ' σ'' => GE r σ.length p ρ' ∧ ρ' "place" = some (I' n) ∧ ρ' "height" = some (I' hh) ∧ ρ' "loops" = some (I' ll) ∧ ρ' "row" = some (.d i.d) ∧ GM σ σ.length p (n :: rs) (pend' ++ sts.take j) σ'' ∧ σ''[q]? = some (.list (sts.map stD)))
        ⟨E2, q1, q2, q3, q4, by rw [List.take_zero, List.append_nil]; exact M3, hq⟩ (fun j ρ' σ'' hJ => hJ.2.2.2.2.2.2) ?_ ?_
      · rintro j d ρ' σ'' L' hd ⟨G, g1, g2, g3, g4, M, g5⟩ hn2 _ _
        rw [List.getElem?_map] at hd
        obtain ⟨st, hst', rfl⟩ := Option.map_eq_some_iff.mp hd
        (refine wB_cons ?_; dsimp only [wE_int, wE_str, wE_bool, wE_none, wE_name, wE_tuple, wE_list, wE_dict, wE_bin, wE_not, wE_neg, wE_cmp, wE_if, wE_call, wE_meth, wE_attr, wE_to, wE_from, wE_subC, wE_subN, wE_subB, wE_subU, wE_comp, wE_comp2, wT_not, wT_bool, wT_cmp, wT_name, wT_call, wT_sub, wTs_and0, wTs_or0, wTs_and, wTs_or, wEs_nil, wEs_cons, wS_asg, wS_asgT, wS_asgS, wS_asgA, wS_aug, wS_expr, wS_if, wS_while, wS_for, wS_ret, wS_cont, seq_next, seq_ret, seq_cont, ret_ret, ret_next, loop_next, loop_cont, loop_ret])
        refine ⟨_, G.e3, isList M.m2, _, rfl, M.app hne hle (by rw [List.length_append, List.length_take]; omega) fun σ4 M4 keep => ⟨rfl, hn2 _ _ ⟨⟨G.e1, G.e2, G.e3, G.e4⟩, g1, g2, g3, g4, ?_, keep _ _ hqp g5⟩⟩⟩
        rw [take_next hst', ← List.append_assoc]; exact M4
      · rintro ρ' σ'' ⟨G, g1, g2, g3, g4, M, g5⟩
        rw [List.length_map, List.take_length] at M
        obtain ⟨mo, gm⟩ := G.e4
        refine wB_cons ?_
        dsimp only [wE_int, wE_str, wE_bool, wE_none, wE_name, wE_tuple, wE_list, wE_dict, wE_bin, wE_not, wE_neg, wE_cmp, wE_if, wE_call, wE_meth, wE_attr, wE_to, wE_from, wE_subC, wE_subN, wE_subB, wE_subU, wE_comp, wE_comp2, wT_not, wT_bool, wT_cmp, wT_name, wT_call, wT_sub, wTs_and0, wTs_or0, wTs_and, wTs_or, wEs_nil, wEs_cons, wS_asg, wS_asgT, wS_asgS, wS_asgA, wS_aug, wS_expr, wS_if, wS_while, wS_for, wS_ret, wS_cont, seq_next, seq_ret, seq_cont, ret_ret, ret_next, loop_next, loop_cont, loop_ret]
        refine ⟨_, g2, _, g4, c_height_change i fun c => .addI ?_⟩
        (refine wB_cons ?_; dsimp only [wE_int, wE_str, wE_bool, wE_none, wE_name, wE_tuple, wE_list, wE_dict, wE_bin, wE_not, wE_neg, wE_cmp, wE_if, wE_call, wE_meth, wE_attr, wE_to, wE_from, wE_subC, wE_subN, wE_subB, wE_subU, wE_comp, wE_comp2, wT_not, wT_bool, wT_cmp, wT_name, wT_call, wT_sub, wTs_and0, wTs_or0, wTs_and, wTs_or, wEs_nil, wEs_cons, wS_asg, wS_asgT, wS_asgS, wS_asgA, wS_aug, wS_expr, wS_if, wS_while, wS_for, wS_ret, wS_cont, seq_next, seq_ret, seq_cont, ret_ret, ret_next, loop_next, loop_cont, loop_ret])
        refine ⟨_, gm, _, g2, _, rfl, c_max _ _ _ fun mo' => ?_⟩
        (refine wB_cons ?_; dsimp only [wE_int, wE_str, wE_bool, wE_none, wE_name, wE_tuple, wE_list, wE_dict, wE_bin, wE_not, wE_neg, wE_cmp, wE_if, wE_call, wE_meth, wE_attr, wE_to, wE_from, wE_subC, wE_subN, wE_subB, wE_subU, wE_comp, wE_comp2, wT_not, wT_bool, wT_cmp, wT_name, wT_call, wT_sub, wTs_and0, wTs_or0, wTs_and, wTs_or, wEs_nil, wEs_cons, wS_asg, wS_asgT, wS_asgS, wS_asgA, wS_aug, wS_expr, wS_if, wS_while, wS_for, wS_ret, wS_cont, seq_next, seq_ret, seq_cont, ret_ret, ret_next, loop_next, loop_cont, loop_ret])
        refine ⟨rfl, _, g4, c_goes_on i ⟨_, rfl, ite_both (fun ho => ?_) fun ho => ?_⟩⟩
        · (refine wB_cons ?_; dsimp only [wE_int, wE_str, wE_bool, wE_none, wE_name, wE_tuple, wE_list, wE_dict, wE_bin, wE_not, wE_neg, wE_cmp, wE_if, wE_call, wE_meth, wE_attr, wE_to, wE_from, wE_subC, wE_subN, wE_subB, wE_subU, wE_comp, wE_comp2, wT_not, wT_bool, wT_cmp, wT_name, wT_call, wT_sub, wTs_and0, wTs_or0, wTs_and, wTs_or, wEs_nil, wEs_cons, wS_asg, wS_asgT, wS_asgS, wS_asgA, wS_aug, wS_expr, wS_if, wS_while, wS_for, wS_ret, wS_cont, seq_next, seq_ret, seq_cont, ret_ret, ret_next, loop_next, loop_cont, loop_ret])
          refine ⟨_, G.e3, isList M.m2, _, g1, binop_succ ⟨_, rfl, _, g3, _, g4, c_loop_change i (.addI ⟨small rfl, _, rfl, M.app (st := (n + 1, hh + c, ll + 0)) hne hle (by rw [List.length_append]; omega) fun σ4 M4 _ => ⟨rfl, ?_⟩⟩)⟩⟩
          have e : (pend' ++ sts ++ [(n + 1, hh + c, ll + 0)]).map fstI = pend'.map fstI ++ succs i n := by rw [succs_on ho, List.map_append, List.map_append, hst, List.append_assoc]; rfl
          exact hn _ _ _ (hms _ (by rw [e]; exact Nat.le_refl _)) ⟨n :: rs, _, rfl, ⟨G.e1, G.e2, G.e3, ⟨_, rfl⟩⟩, M4, by rw [e]; exact J'⟩
        · have e : (pend' ++ sts).map fstI = pend'.map fstI ++ succs i n := by rw [succs_off ho, List.map_append, hst]
          exact hn _ _ _ (hms _ (by rw [e]; exact Nat.le_refl _)) ⟨n :: rs, _, rfl, ⟨G.e1, G.e2, G.e3, ⟨_, rfl⟩⟩, M, by rw [e]; exact J'⟩
  · refine wB_cons ?_
    dsimp only [wE_int, wE_str, wE_bool, wE_none, wE_name, wE_tuple, wE_list, wE_dict, wE_bin, wE_not, wE_neg, wE_cmp, wE_if, wE_call, wE_meth, wE_attr, wE_to, wE_from, wE_subC, wE_subN, wE_subB, wE_subU, wE_comp, wE_comp2, wT_not, wT_bool, wT_cmp, wT_name, wT_call, wT_sub, wTs_and0, wTs_or0, wTs_and, wTs_or, wEs_nil, wEs_cons, wS_asg, wS_asgT, wS_asgS, wS_asgA, wS_aug, wS_expr, wS_if, wS_while, wS_for, wS_ret, wS_cont, seq_next, seq_ret, seq_cont, ret_ret, ret_next, loop_next, loop_cont, loop_ret]
    obtain ⟨mo, hm⟩ := E.e4
    exact ⟨_, hm, h _ _ M.m3⟩
end
end Mine

/-! W26 -/
namespace Mine

section
variable {C : Cx} {k : Nat} {σ : Store} {Q : EP} {Φ : CallT} {ρ : Rho}
theorem c_list {n : Nat} {ds : List D} (hn : σ[n]? = some (.list ds)) (hl : ds.length ≤ 1000000) (h : Q (.loc σ.length) (σ ++ [.list ds])) : callP Φ "list" [.loc n] σ Q :=
  callP_bi rfl (show ∃ ds', σ[n]? = some (.list ds') ∧ ds'.length ≤ 1000000 ∧ Q (.loc σ.length) (σ ++ [.list ds']) from ⟨ds, hn, hl, h⟩)
theorem c_list_rng {n : Nat} (hl : n ≤ 1000000) (h : Q (.loc σ.length) (σ ++ [.list (rngD n)])) : callP Φ "list" [.rng n] σ Q :=
  callP_bi rfl (show n ≤ 1000000 ∧ Q (.loc σ.length) (σ ++ [.list (rngD n)]) from ⟨hl, h⟩)
/-- an object, its attributes, and what the two have of the names told -/
structure Ob (σ : Store) (n m : Nat) (kvs : List (Str × AV)) : Prop where
  a : σ[n]? = some (.inst m)
  b : σ[m]? = some (.attrs kvs)
  ne : m ≠ n
theorem Ob.ext {σ σ' : Store} {n m : Nat} {kvs : List (Str × AV)} (h : Ob σ n m kvs) (x : Ext σ σ') : Ob σ' n m kvs := ⟨x _ _ h.a, x _ _ h.b, h.ne⟩
theorem Ob.put {σ : Store} {n m : Nat} {kvs kvs' : List (Str × AV)} (h : Ob σ n m kvs) : Ob (σ.set m (.attrs kvs')) n m kvs' := ⟨get_set_ne h.a h.ne, get_set h.b, h.ne⟩
theorem Ob.app {σ : Store} {n m : Nat} {kvs : List (Str × AV)} (h : Ob σ n m kvs) (τ : Store) : Ob (σ ++ τ) n m kvs := ⟨get_app h.a, get_app h.b, h.ne⟩
/-- a store into an attribute -/
theorem attr_put {n m : Nat} {kvs : List (Str × AV)} {x : Str} {v : AV} {P : Store → Prop} (O : Ob σ n m kvs) (hk : kvs.length < 1000000) (h : Ob (σ.set m (.attrs ((x, v) :: kvs))) n m ((x, v) :: kvs) → P (σ.set m (.attrs ((x, v) :: kvs)))) :
    ∃ n' m' kvs', AV.loc n = .loc n' ∧ σ[n']? = some (.inst m') ∧ σ[m']? = some (.attrs kvs') ∧ kvs'.length < 1000000 ∧ P (σ.set m' (.attrs ((x, v) :: kvs'))) :=
  ⟨_, _, _, rfl, O.a, O.b, hk, h O.put⟩
theorem attr_get {n m : Nat} {kvs : List (Str × AV)} {x : Str} {v : AV} (O : Ob σ n m kvs) (hv : kvs.lookup x = some v) (h : Q v σ) : attrP (.loc n) x σ Q := ⟨_, _, _, _, rfl, O.a, O.b, hv, h⟩

theorem c_code (v : AV) (h : ∀ σ' kvs, Ext σ σ' → Ob σ' σ.length (σ.length + 1) kvs → kvs.length ≤ 4 → kvs.lookup ("expr" : Str) = some v → Q (.loc σ.length) σ') : callP (ΦN C (k + 1)) "Code" [v] σ Q := by
  refine callP_fn rfl ?_
  unfold ΦN
  rw [code_none]
  refine ⟨rfl, rfl, ?_⟩
  have O0 : Ob (σ ++ [AO.inst (σ.length + 1), AO.attrs []]) σ.length (σ.length + 1) [] := ⟨by rw [List.getElem?_append_right (Nat.le_refl _), Nat.sub_self]; rfl, by rw [List.getElem?_append_right (Nat.le_succ _), show σ.length + 1 - σ.length = 1 from Nat.add_sub_cancel_left ..]; rfl, Nat.succ_ne_self _⟩
  have x0 : Ext σ (σ ++ [AO.inst (σ.length + 1), AO.attrs []]) := (Ext.refl σ).app _
  generalize σ ++ [AO.inst (σ.length + 1), AO.attrs []] = σ0 at O0 x0
  change wB C _ (bodyOf initS) (newQ σ.length Q) (upd (upd rho0 "self" (.loc σ.length)) "expr" v) σ0
  have hl : σ.length ≤ σ.length + 1 := Nat.le_succ _
  (refine wB_cons ?_; dsimp only [wE_int, wE_str, wE_bool, wE_none, wE_name, wE_tuple, wE_list, wE_dict, wE_bin, wE_not, wE_neg, wE_cmp, wE_if, wE_call, wE_meth, wE_attr, wE_to, wE_from, wE_subC, wE_subN, wE_subB, wE_subU, wE_comp, wE_comp2, wT_not, wT_bool, wT_cmp, wT_name, wT_call, wT_sub, wTs_and0, wTs_or0, wTs_and, wTs_or, wEs_nil, wEs_cons, wS_asg, wS_asgT, wS_asgS, wS_asgA, wS_aug, wS_expr, wS_if, wS_while, wS_for, wS_ret, wS_cont, seq_next, seq_ret, seq_cont, ret_ret, ret_next, loop_next, loop_cont, loop_ret])
  refine ⟨_, rfl, _, rfl, attr_put O0 (Nat.le_of_ble_eq_true rfl) fun O1 => ?_⟩
  have x1 := x0.set (o := .attrs [(Str.ofString "expr", v)]) hl
  generalize σ0.set (σ.length + 1) (.attrs [(Str.ofString "expr", v)]) = σ1 at O1 x1
  clear O0 x0
  (refine wB_cons ?_; dsimp only [wE_int, wE_str, wE_bool, wE_none, wE_name, wE_tuple, wE_list, wE_dict, wE_bin, wE_not, wE_neg, wE_cmp, wE_if, wE_call, wE_meth, wE_attr, wE_to, wE_from, wE_subC, wE_subN, wE_subB, wE_subU, wE_comp, wE_comp2, wT_not, wT_bool, wT_cmp, wT_name, wT_call, wT_sub, wTs_and0, wTs_or0, wTs_and, wTs_or, wEs_nil, wEs_cons, wS_asg, wS_asgT, wS_asgS, wS_asgA, wS_aug, wS_expr, wS_if, wS_while, wS_for, wS_ret, wS_cont, seq_next, seq_ret, seq_cont, ret_ret, ret_next, loop_next, loop_cont, loop_ret])
  refine ⟨small rfl, [], rfl, _, rfl, attr_put (O1.app _) (Nat.le_of_ble_eq_true rfl) fun O2 => ?_⟩
  have x2 := (x1.app [AO.list []]).set (o := .attrs [(Str.ofString "rows", AV.loc σ1.length), (Str.ofString "expr", v)]) hl
  generalize (σ1 ++ [AO.list []]).set (σ.length + 1) (.attrs [(Str.ofString "rows", AV.loc σ1.length), (Str.ofString "expr", v)]) = σ2 at O2 x2
  clear O1 x1
  (refine wB_cons ?_; dsimp only [wE_int, wE_str, wE_bool, wE_none, wE_name, wE_tuple, wE_list, wE_dict, wE_bin, wE_not, wE_neg, wE_cmp, wE_if, wE_call, wE_meth, wE_attr, wE_to, wE_from, wE_subC, wE_subN, wE_subB, wE_subU, wE_comp, wE_comp2, wT_not, wT_bool, wT_cmp, wT_name, wT_call, wT_sub, wTs_and0, wTs_or0, wTs_and, wTs_or, wEs_nil, wEs_cons, wS_asg, wS_asgT, wS_asgS, wS_asgA, wS_aug, wS_expr, wS_if, wS_while, wS_for, wS_ret, wS_cont, seq_next, seq_ret, seq_cont, ret_ret, ret_next, loop_next, loop_cont, loop_ret])
  refine ⟨small rfl, [], rfl, _, rfl, attr_put (O2.app _) (Nat.le_of_ble_eq_true rfl) fun O3 => ?_⟩
  have x3 := (x2.app [AO.list []]).set (o := .attrs [(Str.ofString "consts", AV.loc σ2.length), (Str.ofString "rows", AV.loc σ1.length), (Str.ofString "expr", v)]) hl
  generalize (σ2 ++ [AO.list []]).set (σ.length + 1) (.attrs [(Str.ofString "consts", AV.loc σ2.length), (Str.ofString "rows", AV.loc σ1.length), (Str.ofString "expr", v)]) = σ3 at O3 x3
  clear O2 x2
  (refine wB_cons ?_; dsimp only [wE_int, wE_str, wE_bool, wE_none, wE_name, wE_tuple, wE_list, wE_dict, wE_bin, wE_not, wE_neg, wE_cmp, wE_if, wE_call, wE_meth, wE_attr, wE_to, wE_from, wE_subC, wE_subN, wE_subB, wE_subU, wE_comp, wE_comp2, wT_not, wT_bool, wT_cmp, wT_name, wT_call, wT_sub, wTs_and0, wTs_or0, wTs_and, wTs_or, wEs_nil, wEs_cons, wS_asg, wS_asgT, wS_asgS, wS_asgA, wS_aug, wS_expr, wS_if, wS_while, wS_for, wS_ret, wS_cont, seq_next, seq_ret, seq_cont, ret_ret, ret_next, loop_next, loop_cont, loop_ret])
  exact ⟨_, rfl, attr_put O3 (Nat.le_of_ble_eq_true rfl) fun O4 => h _ _ (x3.set hl) O4 (Nat.le_of_ble_eq_true rfl) rfl⟩

theorem c_improved (r : Nat) (rows : Rows) (hr : RL σ r rows) (hv : Vd rows) (hL : rows.length ≤ 1000) (h : ∀ n σ', Ext σ σ' → RL σ' n (improvedR rows) → Q (.loc n) σ') :
    callP (ΦN C (k + 4)) "improved" [.loc r] σ Q := by
  refine callP_fn rfl (phi_call (i := 17) rfl rfl ?_)
  change wB C _ (bodyOf (fnS 17)) (retQ Q) (upd rho0 "rows" (.loc r)) σ
  have h' : ∀ n σ', Ext σ σ' → RL σ' n (keepR (keepR (threadR rows) (reachB (threadR rows))) ((idleR (keepR (threadR rows) (reachB (threadR rows)))).map not)) → Q (.loc n) σ' := h
  have v1 := hv.thread
  obtain ⟨a1, a2, _⟩ := keep_reached v1
  have l1 : (threadR rows).length ≤ 1000 := by rw [thread_len]; exact hL
  have l2 := Nat.le_trans (keep_len_le (threadR rows) (reachB (threadR rows))) l1
  have rl := reachB_len (threadR rows)
  have il := idleR_len (keepR (threadR rows) (reachB (threadR rows)))
  clear h
  (refine wB_cons ?_; dsimp only [wE_int, wE_str, wE_bool, wE_none, wE_name, wE_tuple, wE_list, wE_dict, wE_bin, wE_not, wE_neg, wE_cmp, wE_if, wE_call, wE_meth, wE_attr, wE_to, wE_from, wE_subC, wE_subN, wE_subB, wE_subU, wE_comp, wE_comp2, wT_not, wT_bool, wT_cmp, wT_name, wT_call, wT_sub, wTs_and0, wTs_or0, wTs_and, wTs_or, wEs_nil, wEs_cons, wS_asg, wS_asgT, wS_asgS, wS_asgA, wS_aug, wS_expr, wS_if, wS_while, wS_for, wS_ret, wS_cont, seq_next, seq_ret, seq_cont, ret_ret, ret_next, loop_next, loop_cont, loop_ret])
  refine ⟨_, rfl, c_thread_jumps r rows hr hv hL fun n1 σ1 x1 R1 => ?_⟩
  generalize threadR rows = rows1 at *
  (refine wB_cons ?_; dsimp only [wE_int, wE_str, wE_bool, wE_none, wE_name, wE_tuple, wE_list, wE_dict, wE_bin, wE_not, wE_neg, wE_cmp, wE_if, wE_call, wE_meth, wE_attr, wE_to, wE_from, wE_subC, wE_subN, wE_subB, wE_subU, wE_comp, wE_comp2, wT_not, wT_bool, wT_cmp, wT_name, wT_call, wT_sub, wTs_and0, wTs_or0, wTs_and, wTs_or, wEs_nil, wEs_cons, wS_asg, wS_asgT, wS_asgS, wS_asgA, wS_aug, wS_expr, wS_if, wS_while, wS_for, wS_ret, wS_cont, seq_next, seq_ret, seq_cont, ret_ret, ret_next, loop_next, loop_cont, loop_ret])
  refine ⟨_, rfl, _, rfl, c_reached_rows n1 _ R1 v1 l1 fun n2 σ2 x2 R2 => c_keep_rows n1 n2 _ _ (R1.ext x2) R2 rl v1 l1 fun n3 σ3 x3 R3 => ?_⟩
  generalize keepR rows1 (reachB rows1) = rows3 at *
  (refine wB_cons ?_; dsimp only [wE_int, wE_str, wE_bool, wE_none, wE_name, wE_tuple, wE_list, wE_dict, wE_bin, wE_not, wE_neg, wE_cmp, wE_if, wE_call, wE_meth, wE_attr, wE_to, wE_from, wE_subC, wE_subN, wE_subB, wE_subU, wE_comp, wE_comp2, wT_not, wT_bool, wT_cmp, wT_name, wT_call, wT_sub, wTs_and0, wTs_or0, wTs_and, wTs_or, wEs_nil, wEs_cons, wS_asg, wS_asgT, wS_asgS, wS_asgA, wS_aug, wS_expr, wS_if, wS_while, wS_for, wS_ret, wS_cont, seq_next, seq_ret, seq_cont, ret_ret, ret_next, loop_next, loop_cont, loop_ret])
  refine ⟨_, rfl, c_idle_rows n3 _ R3 a2 l2 fun n4 σ4 x4 R4 => ?_⟩
  have il0 : (idleR rows3).length ≤ 1000 := by rw [List.length_map] at il; rw [il]; exact l2
  have x14 := x1.trans (x2.trans (x3.trans x4))
  have R3' := R3.ext x4
  clear x1 x2 x3 x4 R1 R2 R3
  (refine wB_cons ?_; dsimp only [wE_int, wE_str, wE_bool, wE_none, wE_name, wE_tuple, wE_list, wE_dict, wE_bin, wE_not, wE_neg, wE_cmp, wE_if, wE_call, wE_meth, wE_attr, wE_to, wE_from, wE_subC, wE_subN, wE_subB, wE_subU, wE_comp, wE_comp2, wT_not, wT_bool, wT_cmp, wT_name, wT_call, wT_sub, wTs_and0, wTs_or0, wTs_and, wTs_or, wEs_nil, wEs_cons, wS_asg, wS_asgT, wS_asgS, wS_asgA, wS_aug, wS_expr, wS_if, wS_while, wS_for, wS_ret, wS_cont, seq_next, seq_ret, seq_cont, ret_ret, ret_next, loop_next, loop_cont, loop_ret])
  refine ⟨_, rfl, _, rfl, n4, _, rfl, R4, map_small il0 (by decide), fun j acc σ5 => acc = (((idleR rows3).take j).map not).map bD ∧ Ext σ4 σ5, ⟨rfl, Ext.refl _⟩, fun j acc σ5 hJ => hJ.2 _ _ R4, ?_, ?_⟩
  · rintro j d acc σ5 hd ⟨rfl, z⟩ ρ' hx hf
    rw [List.getElem?_map] at hd
    obtain ⟨b, hb, rfl⟩ := Option.map_eq_some_iff.mp hd
    dsimp only [wE_int, wE_str, wE_bool, wE_none, wE_name, wE_tuple, wE_list, wE_dict, wE_bin, wE_not, wE_neg, wE_cmp, wE_if, wE_call, wE_meth, wE_attr, wE_to, wE_from, wE_subC, wE_subN, wE_subB, wE_subU, wE_comp, wE_comp2, wT_not, wT_bool, wT_cmp, wT_name, wT_call, wT_sub, wTs_and0, wTs_or0, wTs_and, wTs_or, wEs_nil, wEs_cons, wS_asg, wS_asgT, wS_asgS, wS_asgA, wS_aug, wS_expr, wS_if, wS_while, wS_for, wS_ret, wS_cont, seq_next, seq_ret, seq_cont, ret_ret, ret_next, loop_next, loop_cont, loop_ret]
    refine ⟨_, hx, b, rfl, _, rfl, ?_, z⟩
    rw [take_next hb, List.map_append, List.map_append]; rfl
  · rintro acc σ5 ⟨rfl, z⟩ _
    rw [List.length_map, List.take_length]
    exact c_keep_rows n3 _ _ _ ((R3'.ext z).ext ((Ext.refl σ5).app _)) (get_new _ _) il a2 l2 fun n6 σ6 x6 R6 => h' _ _ (x14.trans ((z.app _).trans x6)) R6

theorem map_d_inj {a b : Rows} : a.map Ins.d = b.map Ins.d ↔ a = b := List.map_inj_right fun _ _ e => d_inj.mp e
structure Cod (σ : Store) (n : Nat) (r : Nat) (cv : AV) : Prop where
  at_ : ∃ m kvs, Ob σ n m kvs ∧ kvs.lookup ("rows" : Str) = some (AV.loc r) ∧ kvs.lookup ("consts" : Str) = some cv ∧ ∃ e, kvs.lookup ("expr" : Str) = some e
theorem Cod.ext {σ σ' : Store} {n r : Nat} {cv : AV} (h : Cod σ n r cv) (x : Ext σ σ') : Cod σ' n r cv :=
  let ⟨m, kvs, h1, h2⟩ := h.at_
  ⟨m, kvs, h1.ext x, h2⟩

structure OE (c ri bi : Nat) (ρ : Rho) : Prop where
  e1 : ρ "rows" = some (.loc ri)
  e2 : ρ "better" = some (.loc bi)
  e3 : ρ "code" = some (.loc c)
structure OM (σ0 : Store) (rows : Rows) (ri bi : Nat) (rs : Rows) (σ : Store) : Prop where
  R : RL σ ri rs
  B : RL σ bi (improvedR rs)
  v : Vd rs
  kr : KR rs = KR rows
  hl : rs.length ≤ rows.length
  same : improvedR rows = rows → rs = rows
  x : Ext σ0 σ

theorem c_optimise (c r : Nat) (rows : Rows) (cv : AV) (hc : Cod σ c r cv) (hr : RL σ r rows) (hv : Vd rows) (hL : rows.length ≤ 1000)
    (h : ∀ n r' found σ', Ext σ σ' → Cod σ' n r' cv → RL σ' r' found → Vd found → improvedR found = found → KR found = KR rows → found.length ≤ rows.length → (improvedR rows = rows → found = rows) → Q (.loc n) σ') :
    callP (ΦN C (k + 5)) "optimise" [.loc c] σ Q := by
  refine callP_fn rfl (phi_call (i := 18) rfl rfl ?_)
  change wB C _ (bodyOf (fnS 18)) (retQ Q) (upd rho0 "code" (.loc c)) σ
  obtain ⟨m0, kvs0, O, g3, g4, e0, g5⟩ := hc.at_
  (refine wB_cons ?_; dsimp only [wE_int, wE_str, wE_bool, wE_none, wE_name, wE_tuple, wE_list, wE_dict, wE_bin, wE_not, wE_neg, wE_cmp, wE_if, wE_call, wE_meth, wE_attr, wE_to, wE_from, wE_subC, wE_subN, wE_subB, wE_subU, wE_comp, wE_comp2, wT_not, wT_bool, wT_cmp, wT_name, wT_call, wT_sub, wTs_and0, wTs_or0, wTs_and, wTs_or, wEs_nil, wEs_cons, wS_asg, wS_asgT, wS_asgS, wS_asgA, wS_aug, wS_expr, wS_if, wS_while, wS_for, wS_ret, wS_cont, seq_next, seq_ret, seq_cont, ret_ret, ret_next, loop_next, loop_cont, loop_ret])
  refine ⟨_, rfl, attr_get O g3 (c_list hr (map_small hL (by decide)) ?_)⟩
  (refine wB_cons ?_; dsimp only [wE_int, wE_str, wE_bool, wE_none, wE_name, wE_tuple, wE_list, wE_dict, wE_bin, wE_not, wE_neg, wE_cmp, wE_if, wE_call, wE_meth, wE_attr, wE_to, wE_from, wE_subC, wE_subN, wE_subB, wE_subU, wE_comp, wE_comp2, wT_not, wT_bool, wT_cmp, wT_name, wT_call, wT_sub, wTs_and0, wTs_or0, wTs_and, wTs_or, wEs_nil, wEs_cons, wS_asg, wS_asgT, wS_asgS, wS_asgA, wS_aug, wS_expr, wS_if, wS_while, wS_for, wS_ret, wS_cont, seq_next, seq_ret, seq_cont, ret_ret, ret_next, loop_next, loop_cont, loop_ret])
  refine ⟨_, rfl, c_improved _ rows (get_new _ _) hv hL fun b1 σ1 x1 B1 => ?_⟩
  have M1 : OM σ rows σ.length b1 rows σ1 := ⟨x1 _ _ (get_new _ _), B1, hv, rfl, Nat.le_refl _, fun _ => rfl, ((Ext.refl σ).app _).trans x1⟩
  clear x1 B1
  (refine wB_cons ?_; dsimp only [wE_int, wE_str, wE_bool, wE_none, wE_name, wE_tuple, wE_list, wE_dict, wE_bin, wE_not, wE_neg, wE_cmp, wE_if, wE_call, wE_meth, wE_attr, wE_to, wE_from, wE_subC, wE_subN, wE_subB, wE_subU, wE_comp, wE_comp2, wT_not, wT_bool, wT_cmp, wT_name, wT_call, wT_sub, wTs_and0, wTs_or0, wTs_and, wTs_or, wEs_nil, wEs_cons, wS_asg, wS_asgT, wS_asgS, wS_asgA, wS_aug, wS_expr, wS_if, wS_while, wS_for, wS_ret, wS_cont, seq_next, seq_ret, seq_cont, ret_ret, ret_next, loop_next, loop_cont, loop_ret])
  refine while_of (fun m ρ σ' => ∃ (ri bi : Nat) (rs : Rows), m = meas rs ∧ OE c ri bi ρ ∧ OM σ rows ri bi rs σ') _ ⟨σ.length, b1, rows, rfl, ⟨rfl, rfl, rfl⟩, M1⟩ ?_
  clear M1
  rintro _ ρ σ' L ⟨ri, bi, rs, rfl, E, M⟩ hn _ _
  have hlr := Nat.le_trans M.hl hL
  have hli := Nat.le_trans (improved_len rs) hlr
  have body : improvedR rs ≠ rs → wB C (ΦN C (k + 4)) (loopOf (((bodyOf (fnS 18))[2]?).getD (.Pass ⟨0, 0, 0, 0⟩))) L ρ σ' := fun hne => by
    obtain ⟨i1, _, i3⟩ := improved_ok M.v
    refine wB_cons ?_
    dsimp only [wE_int, wE_str, wE_bool, wE_none, wE_name, wE_tuple, wE_list, wE_dict, wE_bin, wE_not, wE_neg, wE_cmp, wE_if, wE_call, wE_meth, wE_attr, wE_to, wE_from, wE_subC, wE_subN, wE_subB, wE_subU, wE_comp, wE_comp2, wT_not, wT_bool, wT_cmp, wT_name, wT_call, wT_sub, wTs_and0, wTs_or0, wTs_and, wTs_or, wEs_nil, wEs_cons, wS_asg, wS_asgT, wS_asgS, wS_asgA, wS_aug, wS_expr, wS_if, wS_while, wS_for, wS_ret, wS_cont, seq_next, seq_ret, seq_cont, ret_ret, ret_next, loop_next, loop_cont, loop_ret]
    refine ⟨_, E.e2, ?_⟩
    (refine wB_cons ?_; dsimp only [wE_int, wE_str, wE_bool, wE_none, wE_name, wE_tuple, wE_list, wE_dict, wE_bin, wE_not, wE_neg, wE_cmp, wE_if, wE_call, wE_meth, wE_attr, wE_to, wE_from, wE_subC, wE_subN, wE_subB, wE_subU, wE_comp, wE_comp2, wT_not, wT_bool, wT_cmp, wT_name, wT_call, wT_sub, wTs_and0, wTs_or0, wTs_and, wTs_or, wEs_nil, wEs_cons, wS_asg, wS_asgT, wS_asgS, wS_asgA, wS_aug, wS_expr, wS_if, wS_while, wS_for, wS_ret, wS_cont, seq_next, seq_ret, seq_cont, ret_ret, ret_next, loop_next, loop_cont, loop_ret])
    refine ⟨_, rfl, c_improved bi _ M.B i1 hli fun b2 σ2 x2 B2 => hn _ _ _ (meas_lt M.v hne) ⟨bi, b2, _, rfl, ⟨rfl, rfl, E.e3⟩, ⟨M.B.ext x2, B2, i1, i3.trans M.kr, Nat.le_trans (improved_len rs) M.hl, fun hh => ?_, M.x.trans x2⟩⟩⟩
    have := M.same hh
    subst this
    exact absurd hh hne
  have fin : improvedR rs = rs → wB C (ΦN C (k + 4)) ((bodyOf (fnS 18)).drop 3) (retQ Q) ρ σ' := fun hfix => by
    have O' := O.ext M.x
    (refine wB_cons ?_; dsimp only [wE_int, wE_str, wE_bool, wE_none, wE_name, wE_tuple, wE_list, wE_dict, wE_bin, wE_not, wE_neg, wE_cmp, wE_if, wE_call, wE_meth, wE_attr, wE_to, wE_from, wE_subC, wE_subN, wE_subB, wE_subU, wE_comp, wE_comp2, wT_not, wT_bool, wT_cmp, wT_name, wT_call, wT_sub, wTs_and0, wTs_or0, wTs_and, wTs_or, wEs_nil, wEs_cons, wS_asg, wS_asgT, wS_asgS, wS_asgA, wS_aug, wS_expr, wS_if, wS_while, wS_for, wS_ret, wS_cont, seq_next, seq_ret, seq_cont, ret_ret, ret_next, loop_next, loop_cont, loop_ret])
    refine ⟨_, E.e3, attr_get O' g5 (c_code e0 fun σ2 kvs x2 N n3 n4 => ?_)⟩
    have hsl : σ'.length ≤ σ'.length + 1 := Nat.le_succ _
    have R2 := M.R.ext x2
    have O2 := O'.ext x2
    have y2 := M.x.trans x2
    have hm : m0 ≠ σ'.length + 1 := Nat.ne_of_lt (Nat.lt_succ_of_lt (lt_of_get O'.b))
    have hcn : c ≠ σ'.length + 1 := Nat.ne_of_lt (Nat.lt_succ_of_lt (lt_of_get O'.a))
    have hs1 : σ.length ≤ σ'.length + 1 := Nat.le_trans M.x.len hsl
    have hri : ri ≠ σ'.length + 1 := Nat.ne_of_lt (Nat.lt_succ_of_lt (lt_of_get M.R))
    (refine wB_cons ?_; dsimp only [wE_int, wE_str, wE_bool, wE_none, wE_name, wE_tuple, wE_list, wE_dict, wE_bin, wE_not, wE_neg, wE_cmp, wE_if, wE_call, wE_meth, wE_attr, wE_to, wE_from, wE_subC, wE_subN, wE_subB, wE_subU, wE_comp, wE_comp2, wT_not, wT_bool, wT_cmp, wT_name, wT_call, wT_sub, wTs_and0, wTs_or0, wTs_and, wTs_or, wEs_nil, wEs_cons, wS_asg, wS_asgT, wS_asgS, wS_asgA, wS_aug, wS_expr, wS_if, wS_while, wS_for, wS_ret, wS_cont, seq_next, seq_ret, seq_cont, ret_ret, ret_next, loop_next, loop_cont, loop_ret])
    refine ⟨_, E.e1, _, rfl, attr_put N (Nat.lt_of_le_of_lt n3 (by decide)) fun N1 => ?_⟩
    have R3 : RL (σ2.set (σ'.length + 1) (.attrs ((Str.ofString "rows", AV.loc ri) :: kvs))) ri rs := get_set_ne R2 (Ne.symm hri)
    have O3 : Ob (σ2.set (σ'.length + 1) (.attrs ((Str.ofString "rows", AV.loc ri) :: kvs))) c m0 kvs0 := ⟨get_set_ne O2.a (Ne.symm hcn), get_set_ne O2.b (Ne.symm hm), O2.ne⟩
    have y3 := y2.set (o := .attrs ((Str.ofString "rows", AV.loc ri) :: kvs)) hs1
    generalize σ2.set (σ'.length + 1) (.attrs ((Str.ofString "rows", AV.loc ri) :: kvs)) = σ3 at N1 R3 O3 y3
    clear R2 O2 y2 N x2
    (refine wB_cons ?_; dsimp only [wE_int, wE_str, wE_bool, wE_none, wE_name, wE_tuple, wE_list, wE_dict, wE_bin, wE_not, wE_neg, wE_cmp, wE_if, wE_call, wE_meth, wE_attr, wE_to, wE_from, wE_subC, wE_subN, wE_subB, wE_subU, wE_comp, wE_comp2, wT_not, wT_bool, wT_cmp, wT_name, wT_call, wT_sub, wTs_and0, wTs_or0, wTs_and, wTs_or, wEs_nil, wEs_cons, wS_asg, wS_asgT, wS_asgS, wS_asgA, wS_aug, wS_expr, wS_if, wS_while, wS_for, wS_ret, wS_cont, seq_next, seq_ret, seq_cont, ret_ret, ret_next, loop_next, loop_cont, loop_ret])
    refine ⟨_, E.e3, attr_get O3 g4 ⟨_, rfl, attr_put N1 (by rw [List.length_cons]; omega) fun N2 => ?_⟩⟩
    have R4 : RL (σ3.set (σ'.length + 1) (.attrs ((Str.ofString "consts", cv) :: (Str.ofString "rows", AV.loc ri) :: kvs))) ri rs := get_set_ne R3 (Ne.symm hri)
    have y4 := y3.set (o := .attrs ((Str.ofString "consts", cv) :: (Str.ofString "rows", AV.loc ri) :: kvs)) hs1
    generalize σ3.set (σ'.length + 1) (.attrs ((Str.ofString "consts", cv) :: (Str.ofString "rows", AV.loc ri) :: kvs)) = σ4 at N2 R4 y4
    clear R3 O3 y3 N1
    (refine wB_cons ?_; dsimp only [wE_int, wE_str, wE_bool, wE_none, wE_name, wE_tuple, wE_list, wE_dict, wE_bin, wE_not, wE_neg, wE_cmp, wE_if, wE_call, wE_meth, wE_attr, wE_to, wE_from, wE_subC, wE_subN, wE_subB, wE_subU, wE_comp, wE_comp2, wT_not, wT_bool, wT_cmp, wT_name, wT_call, wT_sub, wTs_and0, wTs_or0, wTs_and, wTs_or, wEs_nil, wEs_cons, wS_asg, wS_asgT, wS_asgS, wS_asgA, wS_aug, wS_expr, wS_if, wS_while, wS_for, wS_ret, wS_cont, seq_next, seq_ret, seq_cont, ret_ret, ret_next, loop_next, loop_cont, loop_ret])
    refine ⟨_, E.e1, c_greatest_height ri rs R4 M.v hlr fun mo σ5 x5 => ⟨_, rfl, attr_put (N2.ext x5) (by rw [List.length_cons, List.length_cons]; omega) fun N3 => ?_⟩⟩
    have R5 := get_set_ne (m := σ'.length + 1) (o' := .attrs ((Str.ofString "depth", I' mo) :: (Str.ofString "consts", cv) :: (Str.ofString "rows", AV.loc ri) :: kvs)) (R4.ext x5) (Ne.symm hri)
    have y5 := (y4.trans x5).set (o := .attrs ((Str.ofString "depth", I' mo) :: (Str.ofString "consts", cv) :: (Str.ofString "rows", AV.loc ri) :: kvs)) hs1
    (refine wB_cons ?_; dsimp only [wE_int, wE_str, wE_bool, wE_none, wE_name, wE_tuple, wE_list, wE_dict, wE_bin, wE_not, wE_neg, wE_cmp, wE_if, wE_call, wE_meth, wE_attr, wE_to, wE_from, wE_subC, wE_subN, wE_subB, wE_subU, wE_comp, wE_comp2, wT_not, wT_bool, wT_cmp, wT_name, wT_call, wT_sub, wTs_and0, wTs_or0, wTs_and, wTs_or, wEs_nil, wEs_cons, wS_asg, wS_asgT, wS_asgS, wS_asgA, wS_aug, wS_expr, wS_if, wS_while, wS_for, wS_ret, wS_cont, seq_next, seq_ret, seq_cont, ret_ret, ret_next, loop_next, loop_cont, loop_ret])
    exact ⟨_, rfl, h _ ri rs _ y5 ⟨_, _, N3, rfl, rfl, e0, n4⟩ R5 M.v hfix M.kr M.hl M.same⟩
  dsimp only [wE_int, wE_str, wE_bool, wE_none, wE_name, wE_tuple, wE_list, wE_dict, wE_bin, wE_not, wE_neg, wE_cmp, wE_if, wE_call, wE_meth, wE_attr, wE_to, wE_from, wE_subC, wE_subN, wE_subB, wE_subU, wE_comp, wE_comp2, wT_not, wT_bool, wT_cmp, wT_name, wT_call, wT_sub, wTs_and0, wTs_or0, wTs_and, wTs_or, wEs_nil, wEs_cons, wS_asg, wS_asgT, wS_asgS, wS_asgA, wS_aug, wS_expr, wS_if, wS_while, wS_for, wS_ret, wS_cont, seq_next, seq_ret, seq_cont, ret_ret, ret_next, loop_next, loop_cont, loop_ret]
  refine ⟨_, E.e2, c_lenR M.B hli ⟨_, E.e1, c_lenR M.R hlr ⟨_, .lt, ite_both (fun hlt => ite_t rfl (body fun e => ?_)) fun _ => ⟨_, E.e2, _, E.e1, _, cmp_ne_list M.B M.R (ds_nb _) (ds_nb _), ite_both (fun hne => ite_t rfl (body fun e => not_t hne (map_d_inj.mpr e))) fun hne => ite_f rfl (fin (map_d_inj.mp (not_f hne)))⟩⟩⟩⟩
  have := dec_t hlt
  rw [e] at this
  omega
end
end Mine

/-! W27 -/
namespace Mine

section
variable {C : Cx} {k : Nat} {σ : Store} {Q : EP} {Φ : CallT} {ρ : Rho}
theorem cmp_eq_int (i j : Int) (σ : Store) : cmp .Eq (I' i) (I' j) σ (decide (D.s (.int i) = D.s (.int j))) := .eqD rfl rfl
theorem c_abs {i : Int} (h : ∀ j, Q (I' j) σ) : callP Φ "abs" [I' i] σ Q :=
  callP_bi rfl (show Q (I' (if i < 0 then -i else i)) σ from h _)
theorem meth_rev {n : Nat} {ds : List D} (hn : σ[n]? = some (.list ds)) (hl : ds.length ≤ 1000000) (h : Q N' (σ.set n (.list ds.reverse))) : meth "reverse" (.loc n) [] σ Q :=
  show ∃ ds', σ[n]? = some (.list ds') ∧ ds'.length ≤ 1000000 ∧ Q N' (σ.set n (.list ds'.reverse)) from ⟨ds, hn, hl, h⟩
/-- a list of ints of at most so many -/
noncomputable def IL (σ : Store) (n m : Nat) : Prop := ∃ ns : List Int, σ[n]? = some (.list (ns.map iD)) ∧ ns.length ≤ m
theorem IL.le {n m m' : Nat} (h : IL σ n m) (hm : m ≤ m') : IL σ n m' := let ⟨ns, a, b⟩ := h; ⟨ns, a, Nat.le_trans b hm⟩
theorem IL.app {n m : Nat} (h : IL σ n m) (τ : Store) : IL (σ ++ τ) n m := let ⟨ns, a, b⟩ := h; ⟨ns, get_app a, b⟩
theorem IL.push {n m : Nat} {i : Int} (h : IL σ n m) (hm : m ≤ 1000000) (hq : ∀ σ', IL σ' n (m + 1) → (∀ j o, j ≠ n → σ[j]? = some o → σ'[j]? = some o) → Q N' σ') : meth "append" (.loc n) [I' i] σ Q :=
  let ⟨ns, a, b⟩ := h
  meth_append a (map_small b hm) (hq _ ⟨ns ++ [i], by rw [get_set a, List.map_append]; rfl, by rw [List.length_append]; exact Nat.succ_le_succ b⟩ fun j o hj e => get_set_ne e (Ne.symm hj))
noncomputable def scrD (C : Cx) : List D := (C.ns.take (40 : Int).toNat).map fun i => .s (.int i)
theorem scrD_len (C : Cx) : (scrD C).length ≤ 40 := by
  rw [scrD, List.length_map, List.length_take]
  exact Nat.min_le_left _ _

theorem c_law_digits (h : ∀ n (ns : List Int) σ', σ'[n]? = some (.list (ns.map iD)) → ns.length ≤ 1000000 → Q (.loc n) σ') : callP (ΦN C (k + 1)) "_law_digits" [.scr] σ Q := by
  refine callP_fn rfl (phi_call (i := 20) rfl rfl ?_)
  change wB C _ (bodyOf (fnS 20)) (retQ Q) (upd rho0 "script" .scr) σ
  (refine wB_cons ?_; dsimp only [wE_int, wE_str, wE_bool, wE_none, wE_name, wE_tuple, wE_list, wE_dict, wE_bin, wE_not, wE_neg, wE_cmp, wE_if, wE_call, wE_meth, wE_attr, wE_to, wE_from, wE_subC, wE_subN, wE_subB, wE_subU, wE_comp, wE_comp2, wT_not, wT_bool, wT_cmp, wT_name, wT_call, wT_sub, wTs_and0, wTs_or0, wTs_and, wTs_or, wEs_nil, wEs_cons, wS_asg, wS_asgT, wS_asgS, wS_asgA, wS_aug, wS_expr, wS_if, wS_while, wS_for, wS_ret, wS_cont, seq_next, seq_ret, seq_cont, ret_ret, ret_next, loop_next, loop_cont, loop_ret])
  refine ⟨small rfl, [], rfl, ?_⟩
  have i0 : IL (σ ++ [AO.list []]) σ.length (40 * 0) := ⟨[], get_new _ _, Nat.le_refl _⟩
  have hlt : σ.length < (σ ++ [AO.list []]).length := by rw [List.length_append]; exact Nat.lt_succ_self _
  generalize σ ++ [AO.list []] = σ1 at i0 hlt
  have hne : σ1.length ≠ σ.length := Ne.symm (Nat.ne_of_lt hlt)
  (refine wB_cons ?_; dsimp only [wE_int, wE_str, wE_bool, wE_none, wE_name, wE_tuple, wE_list, wE_dict, wE_bin, wE_not, wE_neg, wE_cmp, wE_if, wE_call, wE_meth, wE_attr, wE_to, wE_from, wE_subC, wE_subN, wE_subB, wE_subU, wE_comp, wE_comp2, wT_not, wT_bool, wT_cmp, wT_name, wT_call, wT_sub, wTs_and0, wTs_or0, wTs_and, wTs_or, wEs_nil, wEs_cons, wS_asg, wS_asgT, wS_asgS, wS_asgA, wS_aug, wS_expr, wS_if, wS_while, wS_for, wS_ret, wS_cont, seq_next, seq_ret, seq_cont, ret_ret, ret_next, loop_next, loop_cont, loop_ret])
  refine ⟨_, rfl, 40, rfl, show 0 ≤ (40 : Int) ∧ _ from ⟨by decide, ?_⟩⟩
  refine for_of (ds := scrD C) (get_new _ _) (fun i ρ σ' => ρ "row" = some (.loc σ.length) ∧ i ≤ 40 ∧ σ'[σ1.length]? = some (.list (scrD C)) ∧ IL σ' σ.length (40 * i))
    ⟨rfl, Nat.zero_le _, get_new _ _, i0.app _⟩ (fun i ρ σ' hJ => hJ.2.2.1) ?_ ?_
  · rintro i d ρ σ' L hd ⟨e1, hi, e2, e3⟩ hn _ _
    have hil : i < 40 := Nat.lt_of_lt_of_le (lt_of_get hd) (scrD_len C)
    obtain ⟨cell, hcell, rfl⟩ := Option.map_eq_some_iff.mp ((List.getElem?_map ..).symm.trans hd)
    refine wB_cons ?_
    dsimp only [wE_int, wE_str, wE_bool, wE_none, wE_name, wE_tuple, wE_list, wE_dict, wE_bin, wE_not, wE_neg, wE_cmp, wE_if, wE_call, wE_meth, wE_attr, wE_to, wE_from, wE_subC, wE_subN, wE_subB, wE_subU, wE_comp, wE_comp2, wT_not, wT_bool, wT_cmp, wT_name, wT_call, wT_sub, wTs_and0, wTs_or0, wTs_and, wTs_or, wEs_nil, wEs_cons, wS_asg, wS_asgT, wS_asgS, wS_asgA, wS_aug, wS_expr, wS_if, wS_while, wS_for, wS_ret, wS_cont, seq_next, seq_ret, seq_cont, ret_ret, ret_next, loop_next, loop_cont, loop_ret]
    refine ⟨_, rfl, c_abs fun j => .mulI (IntMulOk.of_right (by decide)) ⟨_, rfl, _, .lt, ?_⟩⟩
    have rest : ∀ v : Int, wB C (ΦN C k) ((loopOf (((bodyOf (fnS 20))[1]?).getD (.Pass ⟨0, 0, 0, 0⟩))).drop 1) L (upd (upd ρ "cell" (.d (.s (.int cell)))) "rest" (I' v)) σ' := fun v => by
      refine wB_cons ?_
      dsimp only [wE_int, wE_str, wE_bool, wE_none, wE_name, wE_tuple, wE_list, wE_dict, wE_bin, wE_not, wE_neg, wE_cmp, wE_if, wE_call, wE_meth, wE_attr, wE_to, wE_from, wE_subC, wE_subN, wE_subB, wE_subU, wE_comp, wE_comp2, wT_not, wT_bool, wT_cmp, wT_name, wT_call, wT_sub, wTs_and0, wTs_or0, wTs_and, wTs_or, wEs_nil, wEs_cons, wS_asg, wS_asgT, wS_asgS, wS_asgA, wS_aug, wS_expr, wS_if, wS_while, wS_for, wS_ret, wS_cont, seq_next, seq_ret, seq_cont, ret_ret, ret_next, loop_next, loop_cont, loop_ret]
      refine c_range (L := 40) (by decide) (for_of (iter_rng (by decide) _) (fun j ρ' σ'' => ρ' "row" = some (.loc σ.length) ∧ (∃ rest, ρ' "rest" = some (I' rest)) ∧ σ''[σ1.length]? = some (.list (scrD C)) ∧ IL σ'' σ.length (40 * i + j))
        ⟨e1, ⟨_, rfl⟩, e2, e3⟩ (fun _ _ _ _ => iter_rng (by decide) _) ?_ ?_)
      · rintro j d ρ' σ'' L2 hd ⟨g1, ⟨rest, g2⟩, g3, g4⟩ hn2 _ _
        obtain ⟨hj, rfl⟩ := rng_get hd
        have app : wB C (ΦN C k) (loopOf (((loopOf (((bodyOf (fnS 20))[1]?).getD (.Pass ⟨0, 0, 0, 0⟩)))[1]?).getD (.Pass ⟨0, 0, 0, 0⟩)) |>.head?.map (fun s => match s with | .If _ b _ _ => b | _ => []) |>.getD []) L2 (upd ρ' "lap" (.d (iD j))) σ'' := by
          refine wB_cons ?_
          dsimp only [wE_int, wE_str, wE_bool, wE_none, wE_name, wE_tuple, wE_list, wE_dict, wE_bin, wE_not, wE_neg, wE_cmp, wE_if, wE_call, wE_meth, wE_attr, wE_to, wE_from, wE_subC, wE_subN, wE_subB, wE_subU, wE_comp, wE_comp2, wT_not, wT_bool, wT_cmp, wT_name, wT_call, wT_sub, wTs_and0, wTs_or0, wTs_and, wTs_or, wEs_nil, wEs_cons, wS_asg, wS_asgT, wS_asgS, wS_asgA, wS_aug, wS_expr, wS_if, wS_while, wS_for, wS_ret, wS_cont, seq_next, seq_ret, seq_cont, ret_ret, ret_next, loop_next, loop_cont, loop_ret]
          refine ⟨_, g1, let ⟨_, a, _⟩ := g4; isList a, _, g2, .modI (by decide) (g4.push (by omega) fun σ3 i3 keep => ⟨rfl, ?_⟩)⟩
          refine wB_cons ?_
          dsimp only [wE_int, wE_str, wE_bool, wE_none, wE_name, wE_tuple, wE_list, wE_dict, wE_bin, wE_not, wE_neg, wE_cmp, wE_if, wE_call, wE_meth, wE_attr, wE_to, wE_from, wE_subC, wE_subN, wE_subB, wE_subU, wE_comp, wE_comp2, wT_not, wT_bool, wT_cmp, wT_name, wT_call, wT_sub, wTs_and0, wTs_or0, wTs_and, wTs_or, wEs_nil, wEs_cons, wS_asg, wS_asgT, wS_asgS, wS_asgA, wS_aug, wS_expr, wS_if, wS_while, wS_for, wS_ret, wS_cont, seq_next, seq_ret, seq_cont, ret_ret, ret_next, loop_next, loop_cont, loop_ret]
          exact ⟨_, g2, .divI (by decide) (by decide) (hn2 _ _ ⟨g1, ⟨_, rfl⟩, keep _ _ hne g3, i3⟩)⟩
        refine wB_cons ?_
        dsimp only [wE_int, wE_str, wE_bool, wE_none, wE_name, wE_tuple, wE_list, wE_dict, wE_bin, wE_not, wE_neg, wE_cmp, wE_if, wE_call, wE_meth, wE_attr, wE_to, wE_from, wE_subC, wE_subN, wE_subB, wE_subU, wE_comp, wE_comp2, wT_not, wT_bool, wT_cmp, wT_name, wT_call, wT_sub, wTs_and0, wTs_or0, wTs_and, wTs_or, wEs_nil, wEs_cons, wS_asg, wS_asgT, wS_asgS, wS_asgA, wS_aug, wS_expr, wS_if, wS_while, wS_for, wS_ret, wS_cont, seq_next, seq_ret, seq_cont, ret_ret, ret_next, loop_next, loop_cont, loop_ret]
        refine ⟨_, rfl, _, cmp_eq_int _ _ _, ite_both (fun _ => ite_t rfl app) fun _ => ⟨_, g2, _, .gt, ite_both (fun _ => ite_t rfl app) fun _ => ite_f rfl (hn2 _ _ ⟨g1, ⟨rest, g2⟩, g3, g4.le (Nat.le_succ _)⟩)⟩⟩
      · rintro ρ' σ'' ⟨g1, _, g3, g4⟩
        rw [rngD_len] at g4
        exact hn _ _ ⟨g1, hil, g3, g4.le (Nat.le_of_eq (by omega))⟩
    exact ite_both (fun _ => .addI (rest _)) fun _ => .addI (rest _)
  · rintro ρ σ' ⟨e1, hi, e2, ns, e3, hns⟩
    have hn1 : (ns.map iD).length ≤ 1000000 := map_small hns (by omega)
    refine wB_cons ?_
    dsimp only [wE_int, wE_str, wE_bool, wE_none, wE_name, wE_tuple, wE_list, wE_dict, wE_bin, wE_not, wE_neg, wE_cmp, wE_if, wE_call, wE_meth, wE_attr, wE_to, wE_from, wE_subC, wE_subN, wE_subB, wE_subU, wE_comp, wE_comp2, wT_not, wT_bool, wT_cmp, wT_name, wT_call, wT_sub, wTs_and0, wTs_or0, wTs_and, wTs_or, wEs_nil, wEs_cons, wS_asg, wS_asgT, wS_asgS, wS_asgA, wS_aug, wS_expr, wS_if, wS_while, wS_for, wS_ret, wS_cont, seq_next, seq_ret, seq_cont, ret_ret, ret_next, loop_next, loop_cont, loop_ret]
    refine ⟨_, e1, 160, rfl, show ∃ ds, _ from ⟨_, e3, by decide, hn1, ?_⟩⟩
    (refine wB_cons ?_; dsimp only [wE_int, wE_str, wE_bool, wE_none, wE_name, wE_tuple, wE_list, wE_dict, wE_bin, wE_not, wE_neg, wE_cmp, wE_if, wE_call, wE_meth, wE_attr, wE_to, wE_from, wE_subC, wE_subN, wE_subB, wE_subU, wE_comp, wE_comp2, wT_not, wT_bool, wT_cmp, wT_name, wT_call, wT_sub, wTs_and0, wTs_or0, wTs_and, wTs_or, wEs_nil, wEs_cons, wS_asg, wS_asgT, wS_asgS, wS_asgA, wS_aug, wS_expr, wS_if, wS_while, wS_for, wS_ret, wS_cont, seq_next, seq_ret, seq_cont, ret_ret, ret_next, loop_next, loop_cont, loop_ret])
    refine ⟨_, rfl, isList (get_new _ _), meth_rev (get_new _ _) (take_small hn1) ⟨rfl, ?_⟩⟩
    (refine wB_cons ?_; dsimp only [wE_int, wE_str, wE_bool, wE_none, wE_name, wE_tuple, wE_list, wE_dict, wE_bin, wE_not, wE_neg, wE_cmp, wE_if, wE_call, wE_meth, wE_attr, wE_to, wE_from, wE_subC, wE_subN, wE_subB, wE_subU, wE_comp, wE_comp2, wT_not, wT_bool, wT_cmp, wT_name, wT_call, wT_sub, wTs_and0, wTs_or0, wTs_and, wTs_or, wEs_nil, wEs_cons, wS_asg, wS_asgT, wS_asgS, wS_asgA, wS_aug, wS_expr, wS_if, wS_while, wS_for, wS_ret, wS_cont, seq_next, seq_ret, seq_cont, ret_ret, ret_next, loop_next, loop_cont, loop_ret])
    refine ⟨_, rfl, h _ (ns.take (160 : Int).toNat).reverse _ ?_ (by rw [List.length_reverse]; exact take_small (by rw [List.length_map] at hn1; exact hn1))⟩
    rw [get_set (get_new _ _), List.map_reverse, List.map_take]

theorem law_vd {rows : Rows} {many : Nat} (h1 : rows.length = many) (h2 : ∀ r ∈ rows, ∀ t ∈ r.tgs, t ≤ many) : Vd (rows ++ [.fin]) := by
  have hl : (rows ++ [Ins.fin]).length = many + 1 := by rw [List.length_append, h1]; rfl
  refine ⟨fun h => (by rw [h] at hl; cases hl), fun n i hn t ht => ?_, fun n i hn ho => ?_⟩
  · rw [hl]
    rcases List.mem_append.mp (mem_of_get hn) with hm | hm
    · exact Nat.lt_succ_of_le (h2 i hm t ht)
    · rw [List.mem_singleton.mp hm] at ht; cases ht
  · rw [hl]
    rcases Nat.lt_or_ge n rows.length with q | q
    · omega
    · rw [List.getElem?_append_right q] at hn
      rw [List.mem_singleton.mp (mem_of_get hn)] at ho
      cases ho
theorem tg_le {i : Ins} {t n : Nat} (h : i.tg = some t) (hn : t ≤ n) : ∀ u ∈ i.tgs, u ≤ n := fun u hu => by
  rw [Ins.tgs, h] at hu
  rw [List.mem_singleton.mp hu]; exact hn
theorem tg_no {i : Ins} {n : Nat} (h : i.tg = none) : ∀ u ∈ i.tgs, u ≤ n := fun u hu => by
  rw [Ins.tgs, h] at hu; cases hu
structure WE' (a many rr i : Nat) (ρ : Rho) (σ : Store) : Prop where
  e1 : ρ "row" = some (.loc a)
  e2 : ρ "many" = some (I' many)
  e3 : ρ "rows" = some (.loc rr)
  e4 : ∃ ns : List Int, σ[a]? = some (.list (ns.map iD)) ∧ ns.length ≤ 1000000
  e5 : ∃ rows : Rows, RL σ rr rows ∧ rows.length = i ∧ ∀ r ∈ rows, ∀ t ∈ r.tgs, t ≤ many
theorem WE'.push {a many rr i : Nat} (E : WE' a many rr i ρ σ) (hne : rr ≠ a) (hi : i ≤ 1000) {x : Ins} (hx : ∀ t ∈ x.tgs, t ≤ many) {xs : List S} (hd : x.d = .t xs) (h : ∀ σ', WE' a many rr (i + 1) ρ σ' → Q N' σ') : meth "append" (.loc rr) [.d (.t xs)] σ Q := by
  obtain ⟨rows, R, hl, ht⟩ := E.e5
  obtain ⟨ns, h4, hns⟩ := E.e4
  rw [← hd]
  refine meth_append R (by rw [List.length_map, hl]; omega) (h _ ⟨E.e1, E.e2, E.e3, ⟨ns, get_set_ne h4 hne, hns⟩, rows ++ [x], ?_, by rw [List.length_append, hl]; rfl, fun r hr => ?_⟩)
  · unfold RL
    rw [get_set R, map_snoc]
  · rcases List.mem_append.mp hr with hr | hr
    · exact ht r hr
    · rw [List.mem_singleton.mp hr]; exact hx

theorem c_law_rows (a : Nat) (ns0 : List Int) (ha : σ[a]? = some (.list (ns0.map iD))) (hns0 : ns0.length ≤ 1000000) (h : ∀ n (rows : Rows) σ', RL σ' n rows → Vd rows → rows.length ≤ 15 → Q (.loc n) σ') : callP (ΦN C (k + 2)) "_law_rows" [.loc a] σ Q := by
  refine callP_fn rfl (phi_call (i := 22) rfl rfl ?_)
  change wB C _ (bodyOf (fnS 22)) (retQ Q) (upd rho0 "row" (.loc a)) σ
  (refine wB_cons ?_; dsimp only [wE_int, wE_str, wE_bool, wE_none, wE_name, wE_tuple, wE_list, wE_dict, wE_bin, wE_not, wE_neg, wE_cmp, wE_if, wE_call, wE_meth, wE_attr, wE_to, wE_from, wE_subC, wE_subN, wE_subB, wE_subU, wE_comp, wE_comp2, wT_not, wT_bool, wT_cmp, wT_name, wT_call, wT_sub, wTs_and0, wTs_or0, wTs_and, wTs_or, wEs_nil, wEs_cons, wS_asg, wS_asgT, wS_asgS, wS_asgA, wS_aug, wS_expr, wS_if, wS_while, wS_for, wS_ret, wS_cont, seq_next, seq_ret, seq_cont, ret_ret, ret_next, loop_next, loop_cont, loop_ret])
  refine ⟨_, rfl, c_law_draw a ns0 15 (by decide) ha hns0 fun v ns1 σ1 hv0 hv1 hns1 ha1 x1 l1 => ?_⟩
  obtain ⟨many, rfl⟩ := Int.eq_ofNat_of_zero_le hv0
  have hm15 : many < 15 := Int.ofNat_lt.mp hv1
  have hmil : many ≤ 1000000 := by omega
  have hne : σ1.length ≠ a := Ne.symm (Nat.ne_of_lt (lt_of_get ha1))
  (refine wB_cons ?_; dsimp only [wE_int, wE_str, wE_bool, wE_none, wE_name, wE_tuple, wE_list, wE_dict, wE_bin, wE_not, wE_neg, wE_cmp, wE_if, wE_call, wE_meth, wE_attr, wE_to, wE_from, wE_subC, wE_subN, wE_subB, wE_subU, wE_comp, wE_comp2, wT_not, wT_bool, wT_cmp, wT_name, wT_call, wT_sub, wTs_and0, wTs_or0, wTs_and, wTs_or, wEs_nil, wEs_cons, wS_asg, wS_asgT, wS_asgS, wS_asgA, wS_aug, wS_expr, wS_if, wS_while, wS_for, wS_ret, wS_cont, seq_next, seq_ret, seq_cont, ret_ret, ret_next, loop_next, loop_cont, loop_ret])
  refine ⟨small rfl, [], rfl, ?_⟩
  (refine wB_cons ?_; dsimp only [wE_int, wE_str, wE_bool, wE_none, wE_name, wE_tuple, wE_list, wE_dict, wE_bin, wE_not, wE_neg, wE_cmp, wE_if, wE_call, wE_meth, wE_attr, wE_to, wE_from, wE_subC, wE_subN, wE_subB, wE_subU, wE_comp, wE_comp2, wT_not, wT_bool, wT_cmp, wT_name, wT_call, wT_sub, wTs_and0, wTs_or0, wTs_and, wTs_or, wEs_nil, wEs_cons, wS_asg, wS_asgT, wS_asgS, wS_asgA, wS_aug, wS_expr, wS_if, wS_while, wS_for, wS_ret, wS_cont, seq_next, seq_ret, seq_cont, ret_ret, ret_next, loop_next, loop_cont, loop_ret])
  refine ⟨_, rfl, c_range hmil (for_of (iter_rng hmil _) (fun i ρ σ' => i ≤ many ∧ WE' a many σ1.length i ρ σ')
    ⟨Nat.zero_le _, rfl, rfl, rfl, ⟨ns1, get_app ha1, Nat.le_trans hns1 hns0⟩, [], get_new _ _, rfl, fun _ h => (nomatch h)⟩ (fun _ _ _ _ => iter_rng hmil _) ?_ ?_)⟩
  · rintro i d ρ σ2 L hd ⟨hi, E⟩ hn _ _
    obtain ⟨hi', rfl⟩ := rng_get hd
    obtain ⟨ns, h4, hns⟩ := E.e4
    obtain ⟨rows, R, hl, ht⟩ := E.e5
    have hi1 : i ≤ 1000 := by omega
    (refine wB_cons ?_; dsimp only [wE_int, wE_str, wE_bool, wE_none, wE_name, wE_tuple, wE_list, wE_dict, wE_bin, wE_not, wE_neg, wE_cmp, wE_if, wE_call, wE_meth, wE_attr, wE_to, wE_from, wE_subC, wE_subN, wE_subB, wE_subU, wE_comp, wE_comp2, wT_not, wT_bool, wT_cmp, wT_name, wT_call, wT_sub, wTs_and0, wTs_or0, wTs_and, wTs_or, wEs_nil, wEs_cons, wS_asg, wS_asgT, wS_asgS, wS_asgA, wS_aug, wS_expr, wS_if, wS_while, wS_for, wS_ret, wS_cont, seq_next, seq_ret, seq_cont, ret_ret, ret_next, loop_next, loop_cont, loop_ret])
    refine ⟨_, E.e1, c_law_draw a ns 12 (by decide) h4 hns fun kind ns2 σ3 hk0 hk1 hns2 q2 x2 _ => ?_⟩
    (refine wB_cons ?_; dsimp only [wE_int, wE_str, wE_bool, wE_none, wE_name, wE_tuple, wE_list, wE_dict, wE_bin, wE_not, wE_neg, wE_cmp, wE_if, wE_call, wE_meth, wE_attr, wE_to, wE_from, wE_subC, wE_subN, wE_subB, wE_subU, wE_comp, wE_comp2, wT_not, wT_bool, wT_cmp, wT_name, wT_call, wT_sub, wTs_and0, wTs_or0, wTs_and, wTs_or, wEs_nil, wEs_cons, wS_asg, wS_asgT, wS_asgS, wS_asgA, wS_aug, wS_expr, wS_if, wS_while, wS_for, wS_ret, wS_cont, seq_next, seq_ret, seq_cont, ret_ret, ret_next, loop_next, loop_cont, loop_ret])
    refine ⟨_, E.e1, _, E.e2, .addI (c_law_draw a ns2 _ (by omega) q2 (Nat.le_trans hns2 hns) fun aim ns3 σ4 hm0 hm1 hns3 q3 x3 _ => ?_)⟩
    obtain ⟨am, rfl⟩ := Int.eq_ofNat_of_zero_le hm0
    have am1 : am ≤ many := by omega
    obtain ⟨ρ1, hρ⟩ : ∃ ρ1, ρ1 = upd (upd (upd ρ "spot" (.d (iD i))) "kind" (I' kind)) "aim" (I' (am : Nat)) := ⟨_, rfl⟩
    change wB C _ _ _ (upd (upd (upd ρ "spot" (.d (iD i))) "kind" (I' kind)) "aim" (I' (am : Nat))) _
    rw [← hρ]
    have E1 : WE' a many σ1.length i ρ1 σ4 := by subst hρ; exact ⟨E.e1, E.e2, E.e3, ⟨ns3, q3, Nat.le_trans hns3 (Nat.le_trans hns2 hns)⟩, rows, x3 _ _ hne (x2 _ _ hne R), hl, ht⟩
    have k1 : ρ1 "kind" = some (I' kind) := by subst hρ; rfl
    have k2 : ρ1 "aim" = some (I' (am : Nat)) := by subst hρ; rfl
    have k3 : ρ1 "spot" = some (I' i) := by subst hρ; rfl
    have il : ∃ (m : Nat) (es : List D), AV.loc σ1.length = .loc m ∧ σ4[m]? = some (.list es) := let ⟨_, R, _⟩ := E1.e5; isList R
    have fin : ∀ σ', WE' a many σ1.length (i + 1) ρ1 σ' → L .next ρ1 σ' := fun σ' E => hn _ _ ⟨hi', E⟩
    clear hρ E R ht h4 hns q2 q3 x2 x3 hk0 hk1 hm0 hm1
    (refine wB_cons ?_; dsimp only [wE_int, wE_str, wE_bool, wE_none, wE_name, wE_tuple, wE_list, wE_dict, wE_bin, wE_not, wE_neg, wE_cmp, wE_if, wE_call, wE_meth, wE_attr, wE_to, wE_from, wE_subC, wE_subN, wE_subB, wE_subU, wE_comp, wE_comp2, wT_not, wT_bool, wT_cmp, wT_name, wT_call, wT_sub, wTs_and0, wTs_or0, wTs_and, wTs_or, wEs_nil, wEs_cons, wS_asg, wS_asgT, wS_asgS, wS_asgA, wS_aug, wS_expr, wS_if, wS_while, wS_for, wS_ret, wS_cont, seq_next, seq_ret, seq_cont, ret_ret, ret_next, loop_next, loop_cont, loop_ret])
    refine ⟨_, k1, _, .lt, ite_both (fun _ => ?_) fun _ => ?_⟩
    · (refine wB_cons ?_; dsimp only [wE_int, wE_str, wE_bool, wE_none, wE_name, wE_tuple, wE_list, wE_dict, wE_bin, wE_not, wE_neg, wE_cmp, wE_if, wE_call, wE_meth, wE_attr, wE_to, wE_from, wE_subC, wE_subN, wE_subB, wE_subU, wE_comp, wE_comp2, wT_not, wT_bool, wT_cmp, wT_name, wT_call, wT_sub, wTs_and0, wTs_or0, wTs_and, wTs_or, wEs_nil, wEs_cons, wS_asg, wS_asgT, wS_asgS, wS_asgA, wS_aug, wS_expr, wS_if, wS_while, wS_for, wS_ret, wS_cont, seq_next, seq_ret, seq_cont, ret_ret, ret_next, loop_next, loop_cont, loop_ret])
      exact ⟨_, E1.e3, il, _, k2, .modI (by decide) ⟨small rfl, _, rfl, E1.push hne hi1 (x := .const ((am : Int).fmod 2)) (tg_no rfl) rfl fun σ' E => ⟨rfl, fin _ E⟩⟩⟩
    (refine wB_cons ?_; dsimp only [wE_int, wE_str, wE_bool, wE_none, wE_name, wE_tuple, wE_list, wE_dict, wE_bin, wE_not, wE_neg, wE_cmp, wE_if, wE_call, wE_meth, wE_attr, wE_to, wE_from, wE_subC, wE_subN, wE_subB, wE_subU, wE_comp, wE_comp2, wT_not, wT_bool, wT_cmp, wT_name, wT_call, wT_sub, wTs_and0, wTs_or0, wTs_and, wTs_or, wEs_nil, wEs_cons, wS_asg, wS_asgT, wS_asgS, wS_asgA, wS_aug, wS_expr, wS_if, wS_while, wS_for, wS_ret, wS_cont, seq_next, seq_ret, seq_cont, ret_ret, ret_next, loop_next, loop_cont, loop_ret])
    refine ⟨_, k1, _, cmp_eq_int _ _ _, ite_both (fun _ => ?_) fun _ => ?_⟩
    · (refine wB_cons ?_; dsimp only [wE_int, wE_str, wE_bool, wE_none, wE_name, wE_tuple, wE_list, wE_dict, wE_bin, wE_not, wE_neg, wE_cmp, wE_if, wE_call, wE_meth, wE_attr, wE_to, wE_from, wE_subC, wE_subN, wE_subB, wE_subU, wE_comp, wE_comp2, wT_not, wT_bool, wT_cmp, wT_name, wT_call, wT_sub, wTs_and0, wTs_or0, wTs_and, wTs_or, wEs_nil, wEs_cons, wS_asg, wS_asgT, wS_asgS, wS_asgA, wS_aug, wS_expr, wS_if, wS_while, wS_for, wS_ret, wS_cont, seq_next, seq_ret, seq_cont, ret_ret, ret_next, loop_next, loop_cont, loop_ret])
      exact ⟨_, E1.e3, il, small rfl, _, rfl, E1.push hne hi1 (x := .drop) (tg_no rfl) rfl fun σ' E => ⟨rfl, fin _ E⟩⟩
    (refine wB_cons ?_; dsimp only [wE_int, wE_str, wE_bool, wE_none, wE_name, wE_tuple, wE_list, wE_dict, wE_bin, wE_not, wE_neg, wE_cmp, wE_if, wE_call, wE_meth, wE_attr, wE_to, wE_from, wE_subC, wE_subN, wE_subB, wE_subU, wE_comp, wE_comp2, wT_not, wT_bool, wT_cmp, wT_name, wT_call, wT_sub, wTs_and0, wTs_or0, wTs_and, wTs_or, wEs_nil, wEs_cons, wS_asg, wS_asgT, wS_asgS, wS_asgA, wS_aug, wS_expr, wS_if, wS_while, wS_for, wS_ret, wS_cont, seq_next, seq_ret, seq_cont, ret_ret, ret_next, loop_next, loop_cont, loop_ret])
    refine ⟨_, k1, _, .lt, ite_both (fun _ => ?_) fun _ => ?_⟩
    · (refine wB_cons ?_; dsimp only [wE_int, wE_str, wE_bool, wE_none, wE_name, wE_tuple, wE_list, wE_dict, wE_bin, wE_not, wE_neg, wE_cmp, wE_if, wE_call, wE_meth, wE_attr, wE_to, wE_from, wE_subC, wE_subN, wE_subB, wE_subU, wE_comp, wE_comp2, wT_not, wT_bool, wT_cmp, wT_name, wT_call, wT_sub, wTs_and0, wTs_or0, wTs_and, wTs_or, wEs_nil, wEs_cons, wS_asg, wS_asgT, wS_asgS, wS_asgA, wS_aug, wS_expr, wS_if, wS_while, wS_for, wS_ret, wS_cont, seq_next, seq_ret, seq_cont, ret_ret, ret_next, loop_next, loop_cont, loop_ret])
      exact ⟨_, E1.e3, il, _, k2, small rfl, _, rfl, E1.push hne hi1 (x := .jump am) (tg_le rfl am1) rfl fun σ' E => ⟨rfl, fin _ E⟩⟩
    (refine wB_cons ?_; dsimp only [wE_int, wE_str, wE_bool, wE_none, wE_name, wE_tuple, wE_list, wE_dict, wE_bin, wE_not, wE_neg, wE_cmp, wE_if, wE_call, wE_meth, wE_attr, wE_to, wE_from, wE_subC, wE_subN, wE_subB, wE_subU, wE_comp, wE_comp2, wT_not, wT_bool, wT_cmp, wT_name, wT_call, wT_sub, wTs_and0, wTs_or0, wTs_and, wTs_or, wEs_nil, wEs_cons, wS_asg, wS_asgT, wS_asgS, wS_asgA, wS_aug, wS_expr, wS_if, wS_while, wS_for, wS_ret, wS_cont, seq_next, seq_ret, seq_cont, ret_ret, ret_next, loop_next, loop_cont, loop_ret])
    refine ⟨_, k1, _, cmp_eq_int _ _ _, ite_both (fun _ => ?_) fun _ => ?_⟩
    · (refine wB_cons ?_; dsimp only [wE_int, wE_str, wE_bool, wE_none, wE_name, wE_tuple, wE_list, wE_dict, wE_bin, wE_not, wE_neg, wE_cmp, wE_if, wE_call, wE_meth, wE_attr, wE_to, wE_from, wE_subC, wE_subN, wE_subB, wE_subU, wE_comp, wE_comp2, wT_not, wT_bool, wT_cmp, wT_name, wT_call, wT_sub, wTs_and0, wTs_or0, wTs_and, wTs_or, wEs_nil, wEs_cons, wS_asg, wS_asgT, wS_asgS, wS_asgA, wS_aug, wS_expr, wS_if, wS_while, wS_for, wS_ret, wS_cont, seq_next, seq_ret, seq_cont, ret_ret, ret_next, loop_next, loop_cont, loop_ret])
      exact ⟨_, E1.e3, il, _, k2, small rfl, _, rfl, E1.push hne hi1 (x := .unless am) (tg_le rfl am1) rfl fun σ' E => ⟨rfl, fin _ E⟩⟩
    (refine wB_cons ?_; dsimp only [wE_int, wE_str, wE_bool, wE_none, wE_name, wE_tuple, wE_list, wE_dict, wE_bin, wE_not, wE_neg, wE_cmp, wE_if, wE_call, wE_meth, wE_attr, wE_to, wE_from, wE_subC, wE_subN, wE_subB, wE_subU, wE_comp, wE_comp2, wT_not, wT_bool, wT_cmp, wT_name, wT_call, wT_sub, wTs_and0, wTs_or0, wTs_and, wTs_or, wEs_nil, wEs_cons, wS_asg, wS_asgT, wS_asgS, wS_asgA, wS_aug, wS_expr, wS_if, wS_while, wS_for, wS_ret, wS_cont, seq_next, seq_ret, seq_cont, ret_ret, ret_next, loop_next, loop_cont, loop_ret])
    refine ⟨_, k1, _, cmp_eq_int _ _ _, ite_both (fun _ => ?_) fun _ => ?_⟩
    · (refine wB_cons ?_; dsimp only [wE_int, wE_str, wE_bool, wE_none, wE_name, wE_tuple, wE_list, wE_dict, wE_bin, wE_not, wE_neg, wE_cmp, wE_if, wE_call, wE_meth, wE_attr, wE_to, wE_from, wE_subC, wE_subN, wE_subB, wE_subU, wE_comp, wE_comp2, wT_not, wT_bool, wT_cmp, wT_name, wT_call, wT_sub, wTs_and0, wTs_or0, wTs_and, wTs_or, wEs_nil, wEs_cons, wS_asg, wS_asgT, wS_asgS, wS_asgA, wS_aug, wS_expr, wS_if, wS_while, wS_for, wS_ret, wS_cont, seq_next, seq_ret, seq_cont, ret_ret, ret_next, loop_next, loop_cont, loop_ret])
      exact ⟨_, E1.e3, il, _, k2, small rfl, _, rfl, E1.push hne hi1 (x := .guard am) (tg_le rfl am1) rfl fun σ' E => ⟨rfl, fin _ E⟩⟩
    (refine wB_cons ?_; dsimp only [wE_int, wE_str, wE_bool, wE_none, wE_name, wE_tuple, wE_list, wE_dict, wE_bin, wE_not, wE_neg, wE_cmp, wE_if, wE_call, wE_meth, wE_attr, wE_to, wE_from, wE_subC, wE_subN, wE_subB, wE_subU, wE_comp, wE_comp2, wT_not, wT_bool, wT_cmp, wT_name, wT_call, wT_sub, wTs_and0, wTs_or0, wTs_and, wTs_or, wEs_nil, wEs_cons, wS_asg, wS_asgT, wS_asgS, wS_asgA, wS_aug, wS_expr, wS_if, wS_while, wS_for, wS_ret, wS_cont, seq_next, seq_ret, seq_cont, ret_ret, ret_next, loop_next, loop_cont, loop_ret])
    refine ⟨_, k1, _, cmp_eq_int _ _ _, ite_both (fun _ => ?_) fun _ => ?_⟩
    · (refine wB_cons ?_; dsimp only [wE_int, wE_str, wE_bool, wE_none, wE_name, wE_tuple, wE_list, wE_dict, wE_bin, wE_not, wE_neg, wE_cmp, wE_if, wE_call, wE_meth, wE_attr, wE_to, wE_from, wE_subC, wE_subN, wE_subB, wE_subU, wE_comp, wE_comp2, wT_not, wT_bool, wT_cmp, wT_name, wT_call, wT_sub, wTs_and0, wTs_or0, wTs_and, wTs_or, wEs_nil, wEs_cons, wS_asg, wS_asgT, wS_asgS, wS_asgA, wS_aug, wS_expr, wS_if, wS_while, wS_for, wS_ret, wS_cont, seq_next, seq_ret, seq_cont, ret_ret, ret_next, loop_next, loop_cont, loop_ret])
      exact ⟨_, E1.e3, il, small rfl, _, rfl, E1.push hne hi1 (x := .vis) (tg_no rfl) rfl fun σ' E => ⟨rfl, fin _ E⟩⟩
    (refine wB_cons ?_; dsimp only [wE_int, wE_str, wE_bool, wE_none, wE_name, wE_tuple, wE_list, wE_dict, wE_bin, wE_not, wE_neg, wE_cmp, wE_if, wE_call, wE_meth, wE_attr, wE_to, wE_from, wE_subC, wE_subN, wE_subB, wE_subU, wE_comp, wE_comp2, wT_not, wT_bool, wT_cmp, wT_name, wT_call, wT_sub, wTs_and0, wTs_or0, wTs_and, wTs_or, wEs_nil, wEs_cons, wS_asg, wS_asgT, wS_asgS, wS_asgA, wS_aug, wS_expr, wS_if, wS_while, wS_for, wS_ret, wS_cont, seq_next, seq_ret, seq_cont, ret_ret, ret_next, loop_next, loop_cont, loop_ret])
    refine ⟨_, k1, _, cmp_eq_int _ _ _, ite_both (fun _ => ?_) fun _ => ?_⟩
    · (refine wB_cons ?_; dsimp only [wE_int, wE_str, wE_bool, wE_none, wE_name, wE_tuple, wE_list, wE_dict, wE_bin, wE_not, wE_neg, wE_cmp, wE_if, wE_call, wE_meth, wE_attr, wE_to, wE_from, wE_subC, wE_subN, wE_subB, wE_subU, wE_comp, wE_comp2, wT_not, wT_bool, wT_cmp, wT_name, wT_call, wT_sub, wTs_and0, wTs_or0, wTs_and, wTs_or, wEs_nil, wEs_cons, wS_asg, wS_asgT, wS_asgS, wS_asgA, wS_aug, wS_expr, wS_if, wS_while, wS_for, wS_ret, wS_cont, seq_next, seq_ret, seq_cont, ret_ret, ret_next, loop_next, loop_cont, loop_ret])
      exact ⟨_, E1.e3, il, small rfl, _, rfl, E1.push hne hi1 (x := .invis) (tg_no rfl) rfl fun σ' E => ⟨rfl, fin _ E⟩⟩
    (refine wB_cons ?_; dsimp only [wE_int, wE_str, wE_bool, wE_none, wE_name, wE_tuple, wE_list, wE_dict, wE_bin, wE_not, wE_neg, wE_cmp, wE_if, wE_call, wE_meth, wE_attr, wE_to, wE_from, wE_subC, wE_subN, wE_subB, wE_subU, wE_comp, wE_comp2, wT_not, wT_bool, wT_cmp, wT_name, wT_call, wT_sub, wTs_and0, wTs_or0, wTs_and, wTs_or, wEs_nil, wEs_cons, wS_asg, wS_asgT, wS_asgS, wS_asgA, wS_aug, wS_expr, wS_if, wS_while, wS_for, wS_ret, wS_cont, seq_next, seq_ret, seq_cont, ret_ret, ret_next, loop_next, loop_cont, loop_ret])
    refine ⟨_, k1, _, cmp_eq_int _ _ _, ite_both (fun _ => ?_) fun _ => ?_⟩
    · (refine wB_cons ?_; dsimp only [wE_int, wE_str, wE_bool, wE_none, wE_name, wE_tuple, wE_list, wE_dict, wE_bin, wE_not, wE_neg, wE_cmp, wE_if, wE_call, wE_meth, wE_attr, wE_to, wE_from, wE_subC, wE_subN, wE_subB, wE_subU, wE_comp, wE_comp2, wT_not, wT_bool, wT_cmp, wT_name, wT_call, wT_sub, wTs_and0, wTs_or0, wTs_and, wTs_or, wEs_nil, wEs_cons, wS_asg, wS_asgT, wS_asgS, wS_asgA, wS_aug, wS_expr, wS_if, wS_while, wS_for, wS_ret, wS_cont, seq_next, seq_ret, seq_cont, ret_ret, ret_next, loop_next, loop_cont, loop_ret])
      exact ⟨_, E1.e3, il, _, k3, small rfl, _, rfl, E1.push hne hi1 (x := .set (i : Int)) (tg_no rfl) rfl fun σ' E => ⟨rfl, fin _ E⟩⟩
    (refine wB_cons ?_; dsimp only [wE_int, wE_str, wE_bool, wE_none, wE_name, wE_tuple, wE_list, wE_dict, wE_bin, wE_not, wE_neg, wE_cmp, wE_if, wE_call, wE_meth, wE_attr, wE_to, wE_from, wE_subC, wE_subN, wE_subB, wE_subU, wE_comp, wE_comp2, wT_not, wT_bool, wT_cmp, wT_name, wT_call, wT_sub, wTs_and0, wTs_or0, wTs_and, wTs_or, wEs_nil, wEs_cons, wS_asg, wS_asgT, wS_asgS, wS_asgA, wS_aug, wS_expr, wS_if, wS_while, wS_for, wS_ret, wS_cont, seq_next, seq_ret, seq_cont, ret_ret, ret_next, loop_next, loop_cont, loop_ret])
    exact ⟨_, E1.e3, il, small rfl, _, rfl, E1.push hne hi1 (x := .ret) (tg_no rfl) rfl fun σ' E => ⟨rfl, fin _ E⟩⟩
  · rintro ρ σ2 ⟨hi, E⟩
    rw [rngD_len] at E
    obtain ⟨rows, R, hl, ht⟩ := E.e5
    refine wB_cons ?_
    dsimp only [wE_int, wE_str, wE_bool, wE_none, wE_name, wE_tuple, wE_list, wE_dict, wE_bin, wE_not, wE_neg, wE_cmp, wE_if, wE_call, wE_meth, wE_attr, wE_to, wE_from, wE_subC, wE_subN, wE_subB, wE_subU, wE_comp, wE_comp2, wT_not, wT_bool, wT_cmp, wT_name, wT_call, wT_sub, wTs_and0, wTs_or0, wTs_and, wTs_or, wEs_nil, wEs_cons, wS_asg, wS_asgT, wS_asgS, wS_asgA, wS_aug, wS_expr, wS_if, wS_while, wS_for, wS_ret, wS_cont, seq_next, seq_ret, seq_cont, ret_ret, ret_next, loop_next, loop_cont, loop_ret]
    refine ⟨_, E.e3, isList R, small rfl, _, rfl, meth_append R (by rw [List.length_map, hl]; exact hmil) ⟨rfl, ?_⟩⟩
    (refine wB_cons ?_; dsimp only [wE_int, wE_str, wE_bool, wE_none, wE_name, wE_tuple, wE_list, wE_dict, wE_bin, wE_not, wE_neg, wE_cmp, wE_if, wE_call, wE_meth, wE_attr, wE_to, wE_from, wE_subC, wE_subN, wE_subB, wE_subU, wE_comp, wE_comp2, wT_not, wT_bool, wT_cmp, wT_name, wT_call, wT_sub, wTs_and0, wTs_or0, wTs_and, wTs_or, wEs_nil, wEs_cons, wS_asg, wS_asgT, wS_asgS, wS_asgA, wS_aug, wS_expr, wS_if, wS_while, wS_for, wS_ret, wS_cont, seq_next, seq_ret, seq_cont, ret_ret, ret_next, loop_next, loop_cont, loop_ret])
    refine ⟨_, E.e3, h _ (rows ++ [.fin]) _ ?_ (law_vd hl ht) (by rw [List.length_append, hl]; exact hm15)⟩
    unfold RL
    rw [get_set R, ← map_snoc]; rfl
end
end Mine

/-! W28 -/
namespace Mine

/-- the rows that can be reached, in order -/
noncomputable def RS (rows : Rows) : List Nat := (List.range rows.length).filter fun n => @decide (Reach rows n) (Classical.propDecidable _)
theorem mem_RS {rows : Rows} {n : Nat} : n ∈ RS rows ↔ n < rows.length ∧ Reach rows n := by simp [RS]
theorem RS_pair (rows : Rows) : (RS rows).Pairwise (· < ·) := List.Pairwise.filter _ List.pairwise_lt_range
theorem RS_len (rows : Rows) : (RS rows).length ≤ rows.length := by
  unfold RS
  exact Nat.le_trans (List.length_filter_le _ _) (by simp)
theorem iD_inj {a b : Int} : iD a = iD b ↔ a = b := by simp [iD]
theorem mem_iDs {t : Nat} {l : List Nat} : iD (t : Int) ∈ iDs l ↔ t ∈ l := by
  unfold iDs
  simp only [List.mem_map, iD_inj]
  constructor
  · rintro ⟨a, h, e⟩
    obtain rfl : a = t := by omega
    exact h
  · exact fun h => ⟨t, h, rfl⟩
theorem iDs_nb (l : List Nat) : (iDs l).all D.nb = true := by simp [iDs, iD, D.nb, S.nb]
theorem RS_KR {rows : Rows} (hv : Vd rows) : (RS rows).filterMap (fun n => (rows[n]?).bind tagD) = KR rows := by
  have hz : rows.zip (reachB rows) = (List.range rows.length).map fun n => ((rows[n]?).getD .fin, @decide (Reach rows n) (Classical.propDecidable _)) := by
    apply List.ext_getElem?
    intro n
    rcases Nat.lt_or_ge n rows.length with q | q
    · obtain ⟨i, hi⟩ := getE q
      rw [List.getElem?_map, List.getElem?_range q]
      simp only [Option.map_some]
      rw [List.getElem?_zip_eq_some]
      refine ⟨by rw [hi]; rfl, ?_⟩
      unfold reachB
      rw [List.getElem?_map, List.getElem?_range q]; rfl
    · rw [List.getElem?_eq_none (by simp [reachB_len]; omega), List.getElem?_eq_none (by simp; omega)]
  unfold KR RS
  rw [hz, List.filterMap_map, List.filterMap_filter]
  refine fm_congr rfl fun m n b ha hb => ?_
  rw [ha] at hb
  cases hb
  have hn := mem_of_get ha
  obtain ⟨i, hi⟩ := getE (List.mem_range.mp hn)
  by_cases hr : Reach rows n
  · simp [hr, hi]
  · simp [hr]
theorem sorted_eq {rs : List Nat} {S : List Nat} {ns' : List Int} (hn : rs.Nodup) (hS : S.Pairwise (· < ·)) (hm : ∀ x, x ∈ rs ↔ x ∈ S) (hp : ns'.Perm (rs.map fun (x : Nat) => (x : Int))) (ho : ns'.Pairwise (· ≤ ·)) : ns' = S.map fun (x : Nat) => (x : Int) := by
  have h1 : rs.Perm S := (List.perm_ext_iff_of_nodup hn (hS.imp fun h => Nat.ne_of_lt h)).mpr hm
  have h2 := hp.trans (h1.map fun (x : Nat) => (x : Int))
  refine List.Perm.eq_of_pairwise (le := (· ≤ ·)) (fun a b _ _ h1 h2 => Int.le_antisymm h1 h2) ho ?_ h2
  exact (List.pairwise_map).mpr (hS.imp fun h => by omega)

section
variable {C : Cx} {k : Nat} {σ : Store} {Q : EP} {Φ : CallT} {ρ : Rho}
theorem cmp_notin_list {n : Nat} {ds : List D} (d : D) (h : σ[n]? = some (.list ds)) (h1 : d.nb = true) (h2 : ds.all D.nb = true) : cmp .NotIn (.d d) (.loc n) σ (!decide (d ∈ ds)) := .niL h h1 h2
theorem cmp_in_list {n : Nat} {ds : List D} (d : D) (h : σ[n]? = some (.list ds)) (h1 : d.nb = true) (h2 : ds.all D.nb = true) : cmp .In (.d d) (.loc n) σ (decide (d ∈ ds)) := .inL h h1 h2
theorem nm_off {i : Ins} : decide (D.s (.str i.nm) ∈ [D.s (.str "jump"), D.s (.str "return"), D.s (.str "end")]) = !i.on := by cases i <;> rfl
theorem c_sorted {n : Nat} {ns : List Int} (hn : σ[n]? = some (.list (ns.map iD))) (hl : ns.length < 64) (h : ∀ ns' : List Int, ns'.Perm ns → ns'.Pairwise (· ≤ ·) → Q (.loc σ.length) (σ ++ [.list (ns'.map iD)])) : callP Φ "sorted" [.loc n] σ Q :=
  callP_bi rfl (show ∃ ns : List Int, σ[n]? = some (.list (ns.map iD)) ∧ ns.length < 64 ∧ _ from ⟨ns, hn, hl, h⟩)
theorem iDs_eq (l : List Nat) : iDs l = (l.map fun (x : Nat) => (x : Int)).map iD := by rw [List.map_map]; rfl

/-- the search of the law: those found, those looked at, all ways of the latter found -/
structure LR (rows : Rows) (rs : List Nat) (a : Nat) : Prop where
  nd : rs.Nodup
  ok : ∀ x ∈ rs, x < rows.length ∧ Reach rows x
  zero : 0 ∈ rs
  le : a ≤ rs.length
  cl : ∀ n ∈ rs.take a, ∀ i, rows[n]? = some i → ∀ m ∈ succs i n, m ∈ rs
theorem LR.len {rows : Rows} {rs : List Nat} {a : Nat} (x : LR rows rs a) : rs.length ≤ rows.length := nodup_bound rows.length x.nd fun y hy => (x.ok y hy).1
theorem LR.step {rows : Rows} (hv : Vd rows) {rs rs' : List Nat} {a sp : Nat} {i : Ins} (x : LR rows rs a) (hsp : rs[a]? = some sp) (hi : rows[sp]? = some i) (g5 : rs'.Nodup) (g6 : rs <+: rs') (g7 : ∀ y ∈ rs', y ∈ rs ∨ y ∈ succs i sp) (g8 : ∀ y ∈ succs i sp, y ∈ rs') : LR rows rs' (a + 1) := by
  obtain ⟨tl, rfl⟩ := g6
  have hlt := lt_of_get hsp
  refine ⟨g5, fun z hz => ?_, List.mem_append_left _ x.zero, by rw [List.length_append]; omega, fun n hn j hj m hm => ?_⟩
  · rcases g7 z hz with hz | hz
    · exact x.ok z hz
    · exact ⟨succs_lt hv hi hz, .step (x.ok sp (mem_of_get hsp)).2 hi hz⟩
  · rw [List.take_append_of_le_length hlt, take_next hsp] at hn
    rcases List.mem_append.mp hn with hn | hn
    · exact List.mem_append_left _ (x.cl n hn j hj m hm)
    · rw [List.mem_singleton.mp hn] at hj hm
      rw [hi] at hj; cases hj
      exact g8 m hm
theorem LR.done {rows : Rows} {rs : List Nat} (x : LR rows rs rs.length) (z : Nat) : z ∈ rs ↔ z ∈ RS rows := by
  rw [mem_RS]
  refine ⟨fun hz => x.ok z hz, fun hz => ?_⟩
  have : ∀ n, Reach rows n → n ∈ rs := fun n hn => by
    induction hn with
    | zero => exact x.zero
    | @step n m i hn hi hm ih => exact x.cl n (by rw [List.take_length]; exact ih) i hi m hm
  exact this z hz.2
structure RE (r R a : Nat) (ρ : Rho) : Prop where
  e1 : ρ "rows" = some (.loc r)
  e2 : ρ "reached" = some (.loc R)
  e3 : ρ "at" = some (I' a)

/-- the loop over the ways -/
theorem way_loop {σ0 σ1 : Store} {r R a w : Nat} {K : SP} {rs ws : List Nat} (hw : σ1[w]? = some (.list (iDs ws))) (hR : σ1[R]? = some (.list (iDs rs))) (hne : R ≠ w) (hR0 : σ0.length ≤ R) (x : Ext σ0 σ1) (hn : rs.Nodup) (hb : rs.length + ws.length ≤ 100000) (E : RE r R a ρ)
    (hK : ∀ ρ' σ' rs', RE r R a ρ' → σ'[R]? = some (.list (iDs rs')) → rs'.Nodup → rs <+: rs' → (∀ y ∈ rs', y ∈ rs ∨ y ∈ ws) → (∀ y ∈ ws, y ∈ rs') → Ext σ0 σ' → K .next ρ' σ') :
    forP "way" (wB C Φ (loopOf (((loopOf (((bodyOf (fnS 24))[2]?).getD (.Pass ⟨0, 0, 0, 0⟩)))[3]?).getD (.Pass ⟨0, 0, 0, 0⟩)))) K ρ (.loc w) σ1 := by
  refine for_of (ds := iDs ws) hw (fun j ρ' σ' => RE r R a ρ' ∧ ∃ rs', σ'[R]? = some (.list (iDs rs')) ∧ rs'.Nodup ∧ rs <+: rs' ∧ (∀ y ∈ rs', y ∈ rs ∨ y ∈ ws.take j) ∧ (∀ y ∈ ws.take j, y ∈ rs') ∧ Ext σ0 σ' ∧ σ'[w]? = some (.list (iDs ws)) ∧ rs'.length ≤ rs.length + j)
    ⟨E, rs, hR, hn, List.prefix_refl _, fun _ h => .inl h, fun _ h => (nomatch h), x, hw, Nat.le_refl _⟩ (fun j ρ' σ' hJ => let ⟨_, _, _, _, _, _, _, _, h, _⟩ := hJ; h) ?_ ?_
  · rintro j d ρ' σ' L hd ⟨E, rs', g4, g5, g6, g7, g8, y, g9, g10⟩ hn _ _
    obtain ⟨t, ht, rfl⟩ := iDs_get hd
    have hjl := lt_of_get ht
    refine wB_cons ?_
    dsimp only [wE_int, wE_str, wE_bool, wE_none, wE_name, wE_tuple, wE_list, wE_dict, wE_bin, wE_not, wE_neg, wE_cmp, wE_if, wE_call, wE_meth, wE_attr, wE_to, wE_from, wE_subC, wE_subN, wE_subB, wE_subU, wE_comp, wE_comp2, wT_not, wT_bool, wT_cmp, wT_name, wT_call, wT_sub, wTs_and0, wTs_or0, wTs_and, wTs_or, wEs_nil, wEs_cons, wS_asg, wS_asgT, wS_asgS, wS_asgA, wS_aug, wS_expr, wS_if, wS_while, wS_for, wS_ret, wS_cont, seq_next, seq_ret, seq_cont, ret_ret, ret_next, loop_next, loop_cont, loop_ret]
    refine ⟨_, rfl, _, E.e2, _, cmp_notin_list _ g4 rfl (iDs_nb _), ite_both (fun hc => ?_) fun hc => ?_⟩
    · have hc' : t ∉ rs' := fun h => not_t hc (mem_iDs.mpr h)
      (refine wB_cons ?_; dsimp only [wE_int, wE_str, wE_bool, wE_none, wE_name, wE_tuple, wE_list, wE_dict, wE_bin, wE_not, wE_neg, wE_cmp, wE_if, wE_call, wE_meth, wE_attr, wE_to, wE_from, wE_subC, wE_subN, wE_subB, wE_subU, wE_comp, wE_comp2, wT_not, wT_bool, wT_cmp, wT_name, wT_call, wT_sub, wTs_and0, wTs_or0, wTs_and, wTs_or, wEs_nil, wEs_cons, wS_asg, wS_asgT, wS_asgS, wS_asgA, wS_aug, wS_expr, wS_if, wS_while, wS_for, wS_ret, wS_cont, seq_next, seq_ret, seq_cont, ret_ret, ret_next, loop_next, loop_cont, loop_ret])
      refine ⟨_, E.e2, isList g4, _, rfl, app_iD g4 (by omega) ⟨rfl, hn _ _ ⟨⟨E.e1, E.e2, E.e3⟩, rs' ++ [t], get_set g4, ?_, g6.trans (List.prefix_append _ _), ?_, ?_, y.set hR0, get_set_ne g9 hne, by rw [List.length_append]; exact Nat.succ_le_succ g10⟩⟩⟩
      · rw [List.nodup_append]
        exact ⟨g5, by simp, fun a ha b hb => by rw [List.mem_singleton.mp hb]; rintro rfl; exact hc' ha⟩
      · intro z hz
        rw [take_next ht]
        rcases List.mem_append.mp hz with hz | hz
        · exact (g7 z hz).imp id fun h => List.mem_append_left _ h
        · exact .inr (List.mem_append_right _ hz)
      · intro z hz
        rw [take_next ht] at hz
        rcases List.mem_append.mp hz with hz | hz
        · exact List.mem_append_left _ (g8 z hz)
        · exact List.mem_append_right _ hz
    · have hc' : t ∈ rs' := mem_iDs.mp (not_f hc)
      refine hn _ _ ⟨⟨E.e1, E.e2, E.e3⟩, rs', g4, g5, g6, ?_, ?_, y, g9, Nat.le_succ_of_le g10⟩
      · intro z hz
        rw [take_next ht]
        exact (g7 z hz).imp id fun h => List.mem_append_left _ h
      · intro z hz
        rw [take_next ht] at hz
        rcases List.mem_append.mp hz with hz | hz
        · exact g8 z hz
        · rw [List.mem_singleton.mp hz]; exact hc'
  · rintro ρ' σ' ⟨E, rs', g4, g5, g6, g7, g8, y, _, _⟩
    rw [iDs_len, List.take_length] at g7 g8
    exact hK ρ' σ' rs' E g4 g5 g6 g7 g8 y

theorem c_law_reached (r : Nat) (rows : Rows) (hr : RL σ r rows) (hv : Vd rows) (hL : rows.length ≤ 60) (h : ∀ n σ', Ext σ σ' → σ'[n]? = some (.list (iDs (RS rows))) → Q (.loc n) σ') :
    callP (ΦN C (k + 2)) "_law_reached" [.loc r] σ Q := by
  refine callP_fn rfl (phi_call (i := 24) rfl rfl ?_)
  change wB C _ (bodyOf (fnS 24)) (retQ Q) (upd rho0 "rows" (.loc r)) σ
  have hL' : rows.length ≤ 1000 := Nat.le_trans hL (by decide)
  have hpos : 0 < rows.length := List.length_pos_iff.mpr hv.ne
  (refine wB_cons ?_; dsimp only [wE_int, wE_str, wE_bool, wE_none, wE_name, wE_tuple, wE_list, wE_dict, wE_bin, wE_not, wE_neg, wE_cmp, wE_if, wE_call, wE_meth, wE_attr, wE_to, wE_from, wE_subC, wE_subN, wE_subB, wE_subU, wE_comp, wE_comp2, wT_not, wT_bool, wT_cmp, wT_name, wT_call, wT_sub, wTs_and0, wTs_or0, wTs_and, wTs_or, wEs_nil, wEs_cons, wS_asg, wS_asgT, wS_asgS, wS_asgA, wS_aug, wS_expr, wS_if, wS_while, wS_for, wS_ret, wS_cont, seq_next, seq_ret, seq_cont, ret_ret, ret_next, loop_next, loop_cont, loop_ret])
  refine ⟨small rfl, [iD 0], rfl, ?_⟩
  (refine wB_cons ?_; dsimp only [wE_int, wE_str, wE_bool, wE_none, wE_name, wE_tuple, wE_list, wE_dict, wE_bin, wE_not, wE_neg, wE_cmp, wE_if, wE_call, wE_meth, wE_attr, wE_to, wE_from, wE_subC, wE_subN, wE_subB, wE_subU, wE_comp, wE_comp2, wT_not, wT_bool, wT_cmp, wT_name, wT_call, wT_sub, wTs_and0, wTs_or0, wTs_and, wTs_or, wEs_nil, wEs_cons, wS_asg, wS_asgT, wS_asgS, wS_asgA, wS_aug, wS_expr, wS_if, wS_while, wS_for, wS_ret, wS_cont, seq_next, seq_ret, seq_cont, ret_ret, ret_next, loop_next, loop_cont, loop_ret])
  (refine wB_cons ?_; dsimp only [wE_int, wE_str, wE_bool, wE_none, wE_name, wE_tuple, wE_list, wE_dict, wE_bin, wE_not, wE_neg, wE_cmp, wE_if, wE_call, wE_meth, wE_attr, wE_to, wE_from, wE_subC, wE_subN, wE_subB, wE_subU, wE_comp, wE_comp2, wT_not, wT_bool, wT_cmp, wT_name, wT_call, wT_sub, wTs_and0, wTs_or0, wTs_and, wTs_or, wEs_nil, wEs_cons, wS_asg, wS_asgT, wS_asgS, wS_asgA, wS_aug, wS_expr, wS_if, wS_while, wS_for, wS_ret, wS_cont, seq_next, seq_ret, seq_cont, ret_ret, ret_next, loop_next, loop_cont, loop_ret])
  refine while_of (fun m ρ σ' => ∃ (rs : List Nat) (a : Nat), m = rows.length - a ∧ RE r σ.length a ρ ∧ σ'[σ.length]? = some (.list (iDs rs)) ∧ Ext σ σ' ∧ LR rows rs a) _
    ⟨[0], 0, rfl, ⟨rfl, rfl, rfl⟩, get_new _ _, (Ext.refl σ).app _, by simp, fun x hx => by rw [List.mem_singleton.mp hx]; exact ⟨hpos, .zero⟩, List.mem_cons_self, Nat.zero_le _, fun _ h => (nomatch h)⟩ ?_
  rintro m ρ σ' L ⟨rs, a, rfl, E, f1, x, J⟩ hn _ _
  have hlen := J.len
  dsimp only [wE_int, wE_str, wE_bool, wE_none, wE_name, wE_tuple, wE_list, wE_dict, wE_bin, wE_not, wE_neg, wE_cmp, wE_if, wE_call, wE_meth, wE_attr, wE_to, wE_from, wE_subC, wE_subN, wE_subB, wE_subU, wE_comp, wE_comp2, wT_not, wT_bool, wT_cmp, wT_name, wT_call, wT_sub, wTs_and0, wTs_or0, wTs_and, wTs_or, wEs_nil, wEs_cons, wS_asg, wS_asgT, wS_asgS, wS_asgA, wS_aug, wS_expr, wS_if, wS_while, wS_for, wS_ret, wS_cont, seq_next, seq_ret, seq_cont, ret_ret, ret_next, loop_next, loop_cont, loop_ret]
  refine ⟨_, E.e3, _, E.e2, c_lenN f1 (by omega) ⟨_, .lt, ite_both (fun hc => ?_) fun hc => ?_⟩⟩
  · have hlt : a < rs.length := Int.ofNat_lt.mp (dec_t hc)
    obtain ⟨sp, hsp⟩ : ∃ sp, rs[a]? = some sp := ⟨_, List.getElem?_eq_getElem hlt⟩
    have hspl := J.ok sp (mem_of_get hsp)
    obtain ⟨i, hi⟩ := getE hspl.1
    have hsl := succs_len i sp
    have htl := tgs_len i
    refine wB_cons ?_
    dsimp only [wE_int, wE_str, wE_bool, wE_none, wE_name, wE_tuple, wE_list, wE_dict, wE_bin, wE_not, wE_neg, wE_cmp, wE_if, wE_call, wE_meth, wE_attr, wE_to, wE_from, wE_subC, wE_subN, wE_subB, wE_subU, wE_comp, wE_comp2, wT_not, wT_bool, wT_cmp, wT_name, wT_call, wT_sub, wTs_and0, wTs_or0, wTs_and, wTs_or, wEs_nil, wEs_cons, wS_asg, wS_asgT, wS_asgS, wS_asgA, wS_aug, wS_expr, wS_if, wS_while, wS_for, wS_ret, wS_cont, seq_next, seq_ret, seq_cont, ret_ret, ret_next, loop_next, loop_cont, loop_ret]
    refine ⟨_, E.e2, _, E.e3, _, item_list f1 (d := iD sp) (by rw [iDs, List.getElem?_map, hsp]; rfl) (by omega), ?_⟩
    (refine wB_cons ?_; dsimp only [wE_int, wE_str, wE_bool, wE_none, wE_name, wE_tuple, wE_list, wE_dict, wE_bin, wE_not, wE_neg, wE_cmp, wE_if, wE_call, wE_meth, wE_attr, wE_to, wE_from, wE_subC, wE_subN, wE_subB, wE_subU, wE_comp, wE_comp2, wT_not, wT_bool, wT_cmp, wT_name, wT_call, wT_sub, wTs_and0, wTs_or0, wTs_and, wTs_or, wEs_nil, wEs_cons, wS_asg, wS_asgT, wS_asgS, wS_asgA, wS_aug, wS_expr, wS_if, wS_while, wS_for, wS_ret, wS_cont, seq_next, seq_ret, seq_cont, ret_ret, ret_next, loop_next, loop_cont, loop_ret])
    refine ⟨_, E.e1, _, rfl, _, item_row (hr.ext x) hi hL', c_law_aims i ?_⟩
    obtain ⟨ρ1, hρ⟩ : ∃ ρ1, ρ1 = upd (upd ρ "spot" (.d (iD sp))) "ways" (.loc σ'.length) := ⟨_, rfl⟩
    change wB C _ _ _ (upd (upd ρ "spot" (.d (iD sp))) "ways" (.loc σ'.length)) _
    rw [← hρ]
    have E1 : RE r σ.length a ρ1 := by subst hρ; exact ⟨E.e1, E.e2, E.e3⟩
    have k1 : ρ1 "spot" = some (I' sp) := by subst hρ; rfl
    have k2 : ρ1 "ways" = some (.loc σ'.length) := by subst hρ; rfl
    have f2 := get_app (τ := [AO.list (iDs i.tgs)]) f1
    have w2 := get_new σ' (AO.list (iDs i.tgs))
    have x2 := x.app [AO.list (iDs i.tgs)]
    have hRw : σ.length ≠ σ'.length := Nat.ne_of_lt (lt_of_get f1)
    generalize σ' ++ [AO.list (iDs i.tgs)] = σ2 at f2 w2 x2
    generalize σ'.length = w at k2 w2 hRw
    clear hρ E f1 x
    -- behind the ways
    have fin : ∀ (ρ' : Rho) (σ3 : Store) (w' : Nat), RE r σ.length a ρ' → ρ' "ways" = some (.loc w') → σ3[w']? = some (.list (iDs (succs i sp))) → σ3[σ.length]? = some (.list (iDs rs)) → σ.length ≠ w' → Ext σ σ3 →
        wB C (ΦN C (k + 1)) ((loopOf (((bodyOf (fnS 24))[2]?).getD (.Pass ⟨0, 0, 0, 0⟩))).drop 3) L ρ' σ3 := fun ρ' σ3 w' E kw hw hR hne y => by
      refine wB_cons ?_
      dsimp only [wE_int, wE_str, wE_bool, wE_none, wE_name, wE_tuple, wE_list, wE_dict, wE_bin, wE_not, wE_neg, wE_cmp, wE_if, wE_call, wE_meth, wE_attr, wE_to, wE_from, wE_subC, wE_subN, wE_subB, wE_subU, wE_comp, wE_comp2, wT_not, wT_bool, wT_cmp, wT_name, wT_call, wT_sub, wTs_and0, wTs_or0, wTs_and, wTs_or, wEs_nil, wEs_cons, wS_asg, wS_asgT, wS_asgS, wS_asgA, wS_aug, wS_expr, wS_if, wS_while, wS_for, wS_ret, wS_cont, seq_next, seq_ret, seq_cont, ret_ret, ret_next, loop_next, loop_cont, loop_ret]
      refine ⟨_, kw, way_loop hw hR hne (Nat.le_refl _) y J.nd (by omega) E fun ρ4 σ4 rs' E4 g4 g5 g6 g7 g8 y4 => ?_⟩
      refine wB_cons ?_
      dsimp only [wE_int, wE_str, wE_bool, wE_none, wE_name, wE_tuple, wE_list, wE_dict, wE_bin, wE_not, wE_neg, wE_cmp, wE_if, wE_call, wE_meth, wE_attr, wE_to, wE_from, wE_subC, wE_subN, wE_subB, wE_subU, wE_comp, wE_comp2, wT_not, wT_bool, wT_cmp, wT_name, wT_call, wT_sub, wTs_and0, wTs_or0, wTs_and, wTs_or, wEs_nil, wEs_cons, wS_asg, wS_asgT, wS_asgS, wS_asgA, wS_aug, wS_expr, wS_if, wS_while, wS_for, wS_ret, wS_cont, seq_next, seq_ret, seq_cont, ret_ret, ret_next, loop_next, loop_cont, loop_ret]
      exact ⟨_, E4.e3, _, rfl, hn _ _ _ (by omega) ⟨rs', a + 1, rfl, ⟨E4.e1, E4.e2, rfl⟩, g4, y4, J.step hv hsp hi g5 g6 g7 g8⟩⟩
    (refine wB_cons ?_; dsimp only [wE_int, wE_str, wE_bool, wE_none, wE_name, wE_tuple, wE_list, wE_dict, wE_bin, wE_not, wE_neg, wE_cmp, wE_if, wE_call, wE_meth, wE_attr, wE_to, wE_from, wE_subC, wE_subN, wE_subB, wE_subU, wE_comp, wE_comp2, wT_not, wT_bool, wT_cmp, wT_name, wT_call, wT_sub, wTs_and0, wTs_or0, wTs_and, wTs_or, wEs_nil, wEs_cons, wS_asg, wS_asgT, wS_asgS, wS_asgA, wS_aug, wS_expr, wS_if, wS_while, wS_for, wS_ret, wS_cont, seq_next, seq_ret, seq_cont, ret_ret, ret_next, loop_next, loop_cont, loop_ret])
    refine ⟨_, E1.e1, _, k1, _, item_row (hr.ext x2) hi hL', _, item0 i _, small rfl, _, rfl, _, cmp_notin_list _ (get_new _ _) rfl rfl, ?_⟩
    have f3 := get_app (τ := [AO.list [D.s (.str "jump"), .s (.str "return"), .s (.str "end")]]) f2
    have w3 := get_app (τ := [AO.list [D.s (.str "jump"), .s (.str "return"), .s (.str "end")]]) w2
    have x3 := x2.app [AO.list [D.s (.str "jump"), .s (.str "return"), .s (.str "end")]]
    change if (!decide (D.s (.str i.nm) ∈ [D.s (.str "jump"), .s (.str "return"), .s (.str "end")])) = true then _ else _
    rw [nm_off, Bool.not_not]
    generalize σ2 ++ [AO.list [D.s (.str "jump"), .s (.str "return"), .s (.str "end")]] = σ3 at f3 w3 x3
    clear f2 w2 x2
    refine ite_both (fun ho => ?_) fun ho => wB_skip (fin ρ1 σ3 w E1 k2 (by rw [w3, succs_off ho]) f3 hRw x3)
    refine wB_cons ?_
    dsimp only [wE_int, wE_str, wE_bool, wE_none, wE_name, wE_tuple, wE_list, wE_dict, wE_bin, wE_not, wE_neg, wE_cmp, wE_if, wE_call, wE_meth, wE_attr, wE_to, wE_from, wE_subC, wE_subN, wE_subB, wE_subU, wE_comp, wE_comp2, wT_not, wT_bool, wT_cmp, wT_name, wT_call, wT_sub, wTs_and0, wTs_or0, wTs_and, wTs_or, wEs_nil, wEs_cons, wS_asg, wS_asgT, wS_asgS, wS_asgA, wS_aug, wS_expr, wS_if, wS_while, wS_for, wS_ret, wS_cont, seq_next, seq_ret, seq_cont, ret_ret, ret_next, loop_next, loop_cont, loop_ret]
    refine ⟨_, k2, _, k1, binop_succ ⟨small rfl, _, rfl, .addL (get_app w3) (get_new _ _) (by rw [iDs_len]; exact Nat.le_trans (Nat.succ_le_succ htl) (by decide)) ?_⟩⟩
    refine fin _ _ _ ⟨E1.e1, E1.e2, E1.e3⟩ rfl ?_ (get_app (get_app f3)) ?_ ((x3.app _).app _)
    · rw [get_new, succs_on ho, ← iDs_snoc]; rfl
    · rw [List.length_append]; exact Nat.ne_of_lt (Nat.lt_succ_of_lt (lt_of_get f3))
  · obtain rfl : a = rs.length := by
      have := dec_f hc
      have := J.le
      omega
    refine wB_cons ?_
    dsimp only [wE_int, wE_str, wE_bool, wE_none, wE_name, wE_tuple, wE_list, wE_dict, wE_bin, wE_not, wE_neg, wE_cmp, wE_if, wE_call, wE_meth, wE_attr, wE_to, wE_from, wE_subC, wE_subN, wE_subB, wE_subU, wE_comp, wE_comp2, wT_not, wT_bool, wT_cmp, wT_name, wT_call, wT_sub, wTs_and0, wTs_or0, wTs_and, wTs_or, wEs_nil, wEs_cons, wS_asg, wS_asgT, wS_asgS, wS_asgA, wS_aug, wS_expr, wS_if, wS_while, wS_for, wS_ret, wS_cont, seq_next, seq_ret, seq_cont, ret_ret, ret_next, loop_next, loop_cont, loop_ret]
    refine ⟨_, E.e2, c_sorted (ns := rs.map fun (x : Nat) => (x : Int)) (by rw [f1, iDs_eq]) (by rw [List.length_map]; omega) fun ns' hp ho => h _ _ (x.app _) ?_⟩
    rw [get_new, sorted_eq J.nd (RS_pair rows) J.done hp ho, ← iDs_eq]
end
end Mine

/-! W29 -/
namespace Mine

theorem ring_short {rows : Rows} {e : Nat} (h : Ring rows e) : ∃ k, 0 < k ∧ k ≤ rows.length ∧ it rows k e = e := by
  have ha := h.all
  obtain ⟨k, ⟨hk, hke⟩, hmin⟩ := least (P := fun k => 0 < k ∧ it rows k e = e) (by obtain ⟨k, h1, h2, _⟩ := h; exact ⟨k, h1, h2⟩)
  refine ⟨k, hk, ?_, hke⟩
  have nd : ∀ m, m ≤ k → (sl rows e m).Nodup := fun m => by
    induction m with
    | zero => intro _; exact List.nodup_nil
    | succ m ih =>
      intro hm
      rw [sl]
      refine List.nodup_cons.mpr ⟨fun h => ?_, ih (by omega)⟩
      obtain ⟨i, hi, he⟩ := mem_sl.mp h
      refine hmin (i + (k - m)) (by omega) ⟨by omega, ?_⟩
      rw [it_add, ← he, ← it_add, show m + (k - m) = k by omega, hke]
  have := nodup_bound rows.length (nd k (Nat.le_refl _)) (fun x hx => by
    obtain ⟨i, _, rfl⟩ := mem_sl.mp hx
    exact (ha i).lt)
  rwa [sl_len] at this

section
variable {C : Cx} {k : Nat} {σ : Store} {Q : EP} {Φ : CallT} {ρ : Rho}
theorem nm_guard {i : Ins} : D.s (.str i.nm) = D.s (.str "guard") ↔ ∃ u, i = .guard u := by
  cases i <;> first | exact ⟨fun _ => ⟨_, rfl⟩, fun _ => rfl⟩ | exact ⟨fun h => no (show decide _ = true from decide_eq_true h), fun ⟨_, h⟩ => by cases h⟩
theorem cmp_ne_str (x y : Str) (σ : Store) : cmp .NotEq (S' x) (S' y) σ (!decide (D.s (.str x) = D.s (.str y))) := .neD rfl rfl
/-- the pieces kept of the first rows found -/
noncomputable def KP (rows : Rows) (j : Nat) : List D := ((RS rows).take j).filterMap fun n => (rows[n]?).bind tagD
theorem KP_some {rows : Rows} {j n : Nat} {i : Ins} {d : D} (hn : (RS rows)[j]? = some n) (hi : rows[n]? = some i) (ht : tagD i = some d) : KP rows (j + 1) = KP rows j ++ [d] := by
  rw [KP, take_next hn, List.filterMap_append]
  exact congrArg _ (by rw [List.filterMap_cons, hi]; simp [ht])
theorem KP_none {rows : Rows} {j n : Nat} {i : Ins} (hn : (RS rows)[j]? = some n) (hi : rows[n]? = some i) (ht : tagD i = none) : KP rows (j + 1) = KP rows j := by
  rw [KP, take_next hn, List.filterMap_append]
  refine (congrArg _ (by rw [List.filterMap_cons, hi]; simp [ht])).trans (List.append_nil _)
theorem KP_len (rows : Rows) (j : Nat) : (KP rows j).length ≤ rows.length := Nat.le_trans (List.length_filterMap_le _ _) (take_small (RS_len rows))

theorem c_law_kept (r : Nat) (rows : Rows) (hr : RL σ r rows) (hv : Vd rows) (hL : rows.length ≤ 60) (h : ∀ n σ', Ext σ σ' → σ'[n]? = some (.list (KR rows)) → Q (.loc n) σ') :
    callP (ΦN C (k + 3)) "_law_kept" [.loc r] σ Q := by
  refine callP_fn rfl (phi_call (i := 25) rfl rfl ?_)
  change wB C _ (bodyOf (fnS 25)) (retQ Q) (upd rho0 "rows" (.loc r)) σ
  have hL' : rows.length ≤ 1000 := Nat.le_trans hL (by decide)
  (refine wB_cons ?_; dsimp only [wE_int, wE_str, wE_bool, wE_none, wE_name, wE_tuple, wE_list, wE_dict, wE_bin, wE_not, wE_neg, wE_cmp, wE_if, wE_call, wE_meth, wE_attr, wE_to, wE_from, wE_subC, wE_subN, wE_subB, wE_subU, wE_comp, wE_comp2, wT_not, wT_bool, wT_cmp, wT_name, wT_call, wT_sub, wTs_and0, wTs_or0, wTs_and, wTs_or, wEs_nil, wEs_cons, wS_asg, wS_asgT, wS_asgS, wS_asgA, wS_aug, wS_expr, wS_if, wS_while, wS_for, wS_ret, wS_cont, seq_next, seq_ret, seq_cont, ret_ret, ret_next, loop_next, loop_cont, loop_ret])
  refine ⟨small rfl, [], rfl, ?_⟩
  (refine wB_cons ?_; dsimp only [wE_int, wE_str, wE_bool, wE_none, wE_name, wE_tuple, wE_list, wE_dict, wE_bin, wE_not, wE_neg, wE_cmp, wE_if, wE_call, wE_meth, wE_attr, wE_to, wE_from, wE_subC, wE_subN, wE_subB, wE_subU, wE_comp, wE_comp2, wT_not, wT_bool, wT_cmp, wT_name, wT_call, wT_sub, wTs_and0, wTs_or0, wTs_and, wTs_or, wEs_nil, wEs_cons, wS_asg, wS_asgT, wS_asgS, wS_asgA, wS_aug, wS_expr, wS_if, wS_while, wS_for, wS_ret, wS_cont, seq_next, seq_ret, seq_cont, ret_ret, ret_next, loop_next, loop_cont, loop_ret])
  refine ⟨_, rfl, c_law_reached r rows (get_app hr) hv hL fun s σ1 x1 hs => ?_⟩
  have x1' : Ext σ σ1 := ((Ext.refl σ).app _).trans x1
  have hk1 := x1 _ _ (get_new σ (AO.list []))
  have hne : σ.length ≠ s := fun e => by
    subst e
    rw [hk1] at hs
    have h0 : 0 ∈ RS rows := mem_RS.mpr ⟨List.length_pos_iff.mpr hv.ne, .zero⟩
    have h1 := Option.some.inj hs
    injection h1 with h2
    cases hq : RS rows with
    | nil => rw [hq] at h0; cases h0
    | cons a b => rw [hq] at h2; cases h2
  clear x1
  refine for_of (ds := iDs (RS rows)) hs (fun i ρ σ' => ρ "rows" = some (.loc r) ∧ ρ "kept" = some (.loc σ.length) ∧ σ'[σ.length]? = some (.list (KP rows i)) ∧ Ext σ σ' ∧ σ'[s]? = some (.list (iDs (RS rows))))
    ⟨rfl, rfl, hk1, x1', hs⟩ (fun i ρ σ' hJ => hJ.2.2.2.2) ?_ ?_
  · rintro j d ρ σ' L hd ⟨e1, e2, e3, x, e4⟩ hn _ _
    obtain ⟨n, hnj, rfl⟩ := iDs_get hd
    obtain ⟨i, hi⟩ := getE (mem_RS.mp (mem_of_get hnj)).1
    have hkl : (KP rows j).length ≤ 1000000 := Nat.le_trans (KP_len rows j) (Nat.le_trans hL (by decide))
    have add : ∀ (d : D) (ρ' : Rho) (σ2 : Store), ρ' "rows" = some (.loc r) → ρ' "kept" = some (.loc σ.length) → tagD i = some d → σ2[σ.length]? = some (.list (KP rows j)) → Ext σ σ2 → σ2[s]? = some (.list (iDs (RS rows))) → meth "append" (.loc σ.length) [.d d] σ2 fun v σ3 => v = N' ∧ L .next ρ' σ3 := fun d ρ' σ2 e1 e2 ht e3 x e4 =>
      meth_append e3 hkl ⟨rfl, hn _ _ ⟨e1, e2, by rw [get_set e3, KP_some hnj hi ht], x.set (Nat.le_refl _), get_set_ne e4 hne⟩⟩
    (refine wB_cons ?_; dsimp only [wE_int, wE_str, wE_bool, wE_none, wE_name, wE_tuple, wE_list, wE_dict, wE_bin, wE_not, wE_neg, wE_cmp, wE_if, wE_call, wE_meth, wE_attr, wE_to, wE_from, wE_subC, wE_subN, wE_subB, wE_subU, wE_comp, wE_comp2, wT_not, wT_bool, wT_cmp, wT_name, wT_call, wT_sub, wTs_and0, wTs_or0, wTs_and, wTs_or, wEs_nil, wEs_cons, wS_asg, wS_asgT, wS_asgS, wS_asgA, wS_aug, wS_expr, wS_if, wS_while, wS_for, wS_ret, wS_cont, seq_next, seq_ret, seq_cont, ret_ret, ret_next, loop_next, loop_cont, loop_ret])
    refine ⟨_, e1, _, rfl, _, item_row (hr.ext x) hi hL', ?_⟩
    (refine wB_cons ?_; dsimp only [wE_int, wE_str, wE_bool, wE_none, wE_name, wE_tuple, wE_list, wE_dict, wE_bin, wE_not, wE_neg, wE_cmp, wE_if, wE_call, wE_meth, wE_attr, wE_to, wE_from, wE_subC, wE_subN, wE_subB, wE_subU, wE_comp, wE_comp2, wT_not, wT_bool, wT_cmp, wT_name, wT_call, wT_sub, wTs_and0, wTs_or0, wTs_and, wTs_or, wEs_nil, wEs_cons, wS_asg, wS_asgT, wS_asgS, wS_asgA, wS_aug, wS_expr, wS_if, wS_while, wS_for, wS_ret, wS_cont, seq_next, seq_ret, seq_cont, ret_ret, ret_next, loop_next, loop_cont, loop_ret])
    have two : ∀ h1 : ¬ decide (D.s (.str i.nm) = D.s (.str "unless")) = true, ¬ decide (D.s (.str i.nm) = D.s (.str "guard")) = true → wB C (ΦN C (k + 2)) (((loopOf (((bodyOf (fnS 25))[1]?).getD (.Pass ⟨0, 0, 0, 0⟩))).drop 1).head?.map (fun s => match s with | .If _ _ b _ => b | _ => []) |>.getD []) L (upd (upd ρ "spot" (.d (iD n))) "piece" (.d i.d)) σ' := fun h1 h2 => by
      refine wB_cons ?_
      dsimp only [wE_int, wE_str, wE_bool, wE_none, wE_name, wE_tuple, wE_list, wE_dict, wE_bin, wE_not, wE_neg, wE_cmp, wE_if, wE_call, wE_meth, wE_attr, wE_to, wE_from, wE_subC, wE_subN, wE_subB, wE_subU, wE_comp, wE_comp2, wT_not, wT_bool, wT_cmp, wT_name, wT_call, wT_sub, wTs_and0, wTs_or0, wTs_and, wTs_or, wEs_nil, wEs_cons, wS_asg, wS_asgT, wS_asgS, wS_asgA, wS_aug, wS_expr, wS_if, wS_while, wS_for, wS_ret, wS_cont, seq_next, seq_ret, seq_cont, ret_ret, ret_next, loop_next, loop_cont, loop_ret]
      refine ⟨_, rfl, _, item0 i _, small rfl, _, rfl, _, cmp_in_list _ (get_new _ _) rfl rfl, ite_both (fun hc3 => ?_) fun hc3 => ?_⟩
      · refine wB_cons ?_
        dsimp only [wE_int, wE_str, wE_bool, wE_none, wE_name, wE_tuple, wE_list, wE_dict, wE_bin, wE_not, wE_neg, wE_cmp, wE_if, wE_call, wE_meth, wE_attr, wE_to, wE_from, wE_subC, wE_subN, wE_subB, wE_subU, wE_comp, wE_comp2, wT_not, wT_bool, wT_cmp, wT_name, wT_call, wT_sub, wTs_and0, wTs_or0, wTs_and, wTs_or, wEs_nil, wEs_cons, wS_asg, wS_asgT, wS_asgS, wS_asgA, wS_aug, wS_expr, wS_if, wS_while, wS_for, wS_ret, wS_cont, seq_next, seq_ret, seq_cont, ret_ret, ret_next, loop_next, loop_cont, loop_ret]
        refine ⟨_, e2, isList (get_app e3), _, rfl, add i.d _ _ e1 e2 ?_ (get_app e3) (x.app _) (get_app e4)⟩
        cases i <;> first | rfl | exact no hc3
      · refine hn _ _ ⟨e1, e2, ?_, x.app _, get_app e4⟩
        rw [get_app e3, KP_none hnj hi]
        cases i <;> first | rfl | exact absurd rfl h1 | exact absurd rfl h2 | exact absurd rfl hc3
    refine ⟨_, rfl, _, item0 i _, _, cmp_eq_str _ _ _, ite_both (fun h1 => ite_t rfl ?_) fun h1 => ⟨_, rfl, _, item0 i _, _, cmp_eq_str _ _ _, ite_both (fun h2 => ite_t rfl ?_) fun h2 => ite_f rfl (two h1 h2)⟩⟩
    · obtain ⟨u, rfl⟩ := nm_unless.mp (dec_t h1)
      refine wB_cons ?_
      dsimp only [wE_int, wE_str, wE_bool, wE_none, wE_name, wE_tuple, wE_list, wE_dict, wE_bin, wE_not, wE_neg, wE_cmp, wE_if, wE_call, wE_meth, wE_attr, wE_to, wE_from, wE_subC, wE_subN, wE_subB, wE_subU, wE_comp, wE_comp2, wT_not, wT_bool, wT_cmp, wT_name, wT_call, wT_sub, wTs_and0, wTs_or0, wTs_and, wTs_or, wEs_nil, wEs_cons, wS_asg, wS_asgT, wS_asgS, wS_asgA, wS_aug, wS_expr, wS_if, wS_while, wS_for, wS_ret, wS_cont, seq_next, seq_ret, seq_cont, ret_ret, ret_next, loop_next, loop_cont, loop_ret]
      exact ⟨_, e2, isList e3, _, rfl, _, item0 _ _, add _ _ _ e1 e2 rfl e3 x e4⟩
    · obtain ⟨u, rfl⟩ := nm_guard.mp (dec_t h2)
      refine wB_cons ?_
      dsimp only [wE_int, wE_str, wE_bool, wE_none, wE_name, wE_tuple, wE_list, wE_dict, wE_bin, wE_not, wE_neg, wE_cmp, wE_if, wE_call, wE_meth, wE_attr, wE_to, wE_from, wE_subC, wE_subN, wE_subB, wE_subU, wE_comp, wE_comp2, wT_not, wT_bool, wT_cmp, wT_name, wT_call, wT_sub, wTs_and0, wTs_or0, wTs_and, wTs_or, wEs_nil, wEs_cons, wS_asg, wS_asgT, wS_asgS, wS_asgA, wS_aug, wS_expr, wS_if, wS_while, wS_for, wS_ret, wS_cont, seq_next, seq_ret, seq_cont, ret_ret, ret_next, loop_next, loop_cont, loop_ret]
      exact ⟨_, e2, isList e3, _, rfl, _, item0 _ _, add _ _ _ e1 e2 rfl e3 x e4⟩
  · rintro ρ σ' ⟨e1, e2, e3, x, e4⟩
    refine wB_cons ?_
    dsimp only [wE_int, wE_str, wE_bool, wE_none, wE_name, wE_tuple, wE_list, wE_dict, wE_bin, wE_not, wE_neg, wE_cmp, wE_if, wE_call, wE_meth, wE_attr, wE_to, wE_from, wE_subC, wE_subN, wE_subB, wE_subU, wE_comp, wE_comp2, wT_not, wT_bool, wT_cmp, wT_name, wT_call, wT_sub, wTs_and0, wTs_or0, wTs_and, wTs_or, wEs_nil, wEs_cons, wS_asg, wS_asgT, wS_asgS, wS_asgA, wS_aug, wS_expr, wS_if, wS_while, wS_for, wS_ret, wS_cont, seq_next, seq_ret, seq_cont, ret_ret, ret_next, loop_next, loop_cont, loop_ret]
    refine ⟨_, e2, h _ _ x ?_⟩
    rw [e3, KP, iDs_len, List.take_length, RS_KR hv]

theorem c_law_in_ring (r : Nat) (rows : Rows) (s : Nat) (hr : RL σ r rows) (hv : Vd rows) (hL : rows.length ≤ 60) (hs : Ring rows s) (h : Q (B' true) σ) :
    callP (ΦN C (k + 2)) "_law_in_ring" [.loc r, I' s] σ Q := by
  refine callP_fn rfl (phi_call (i := 26) rfl rfl ?_)
  change wB C _ (bodyOf (fnS 26)) (retQ Q) (upd (upd rho0 "rows" (.loc r)) "spot" (I' s)) σ
  have hL' : rows.length ≤ 1000 := Nat.le_trans hL (by decide)
  have hmil : rows.length ≤ 1000000 := Nat.le_trans hL (by decide)
  have hall := hs.all
  obtain ⟨kk, hk0, hkl, hke⟩ := ring_short hs
  obtain ⟨u, hu⟩ := hall 0
  have hu' : rows[s]? = some (.jump u) := hu
  (refine wB_cons ?_; dsimp only [wE_int, wE_str, wE_bool, wE_none, wE_name, wE_tuple, wE_list, wE_dict, wE_bin, wE_not, wE_neg, wE_cmp, wE_if, wE_call, wE_meth, wE_attr, wE_to, wE_from, wE_subC, wE_subN, wE_subB, wE_subU, wE_comp, wE_comp2, wT_not, wT_bool, wT_cmp, wT_name, wT_call, wT_sub, wTs_and0, wTs_or0, wTs_and, wTs_or, wEs_nil, wEs_cons, wS_asg, wS_asgT, wS_asgS, wS_asgA, wS_aug, wS_expr, wS_if, wS_while, wS_for, wS_ret, wS_cont, seq_next, seq_ret, seq_cont, ret_ret, ret_next, loop_next, loop_cont, loop_ret])
  refine ⟨_, rfl, _, rfl, _, item_row hr hu' hL', _, item1_jump u _, ?_⟩
  (refine wB_cons ?_; dsimp only [wE_int, wE_str, wE_bool, wE_none, wE_name, wE_tuple, wE_list, wE_dict, wE_bin, wE_not, wE_neg, wE_cmp, wE_if, wE_call, wE_meth, wE_attr, wE_to, wE_from, wE_subC, wE_subN, wE_subB, wE_subU, wE_comp, wE_comp2, wT_not, wT_bool, wT_cmp, wT_name, wT_call, wT_sub, wTs_and0, wTs_or0, wTs_and, wTs_or, wEs_nil, wEs_cons, wS_asg, wS_asgT, wS_asgS, wS_asgA, wS_aug, wS_expr, wS_if, wS_while, wS_for, wS_ret, wS_cont, seq_next, seq_ret, seq_cont, ret_ret, ret_next, loop_next, loop_cont, loop_ret])
  refine ⟨_, rfl, c_lenR hr hL' (c_range hmil ?_)⟩
  refine for_of (iter_rng hmil _) (fun j ρ σ' => ρ "rows" = some (.loc r) ∧ ρ "spot" = some (I' s) ∧ ρ "at" = some (I' (it rows (j + 1) s)) ∧ (∀ i, 0 < i → i ≤ j → it rows i s ≠ s) ∧ σ' = σ)
    ⟨rfl, rfl, by show some (I' u) = _; rw [it, it, nx_jump hu'], fun i h1 h2 => absurd h1 (Nat.not_lt.mpr h2), rfl⟩ (fun _ _ _ _ => iter_rng hmil _) ?_ ?_
  · rintro j d ρ σ' L hd ⟨e1, e2, e3, e4, rfl⟩ hn _ hret
    obtain ⟨hj, rfl⟩ := rng_get hd
    (refine wB_cons ?_; dsimp only [wE_int, wE_str, wE_bool, wE_none, wE_name, wE_tuple, wE_list, wE_dict, wE_bin, wE_not, wE_neg, wE_cmp, wE_if, wE_call, wE_meth, wE_attr, wE_to, wE_from, wE_subC, wE_subN, wE_subB, wE_subU, wE_comp, wE_comp2, wT_not, wT_bool, wT_cmp, wT_name, wT_call, wT_sub, wTs_and0, wTs_or0, wTs_and, wTs_or, wEs_nil, wEs_cons, wS_asg, wS_asgT, wS_asgS, wS_asgA, wS_aug, wS_expr, wS_if, wS_while, wS_for, wS_ret, wS_cont, seq_next, seq_ret, seq_cont, ret_ret, ret_next, loop_next, loop_cont, loop_ret])
    refine ⟨_, e3, _, e2, _, cmp_eq_int _ _ _, ite_both (fun hc => ?_) fun hc => wB_skip ?_⟩
    · (refine wB_cons ?_; dsimp only [wE_int, wE_str, wE_bool, wE_none, wE_name, wE_tuple, wE_list, wE_dict, wE_bin, wE_not, wE_neg, wE_cmp, wE_if, wE_call, wE_meth, wE_attr, wE_to, wE_from, wE_subC, wE_subN, wE_subB, wE_subU, wE_comp, wE_comp2, wT_not, wT_bool, wT_cmp, wT_name, wT_call, wT_sub, wTs_and0, wTs_or0, wTs_and, wTs_or, wEs_nil, wEs_cons, wS_asg, wS_asgT, wS_asgS, wS_asgA, wS_aug, wS_expr, wS_if, wS_while, wS_for, wS_ret, wS_cont, seq_next, seq_ret, seq_cont, ret_ret, ret_next, loop_next, loop_cont, loop_ret])
      exact hret _ _ _ h
    · have hc' : it rows (j + 1) s ≠ s := fun e => dec_f hc (by rw [e])
      obtain ⟨v, hv'⟩ := hall (j + 1)
      (refine wB_cons ?_; dsimp only [wE_int, wE_str, wE_bool, wE_none, wE_name, wE_tuple, wE_list, wE_dict, wE_bin, wE_not, wE_neg, wE_cmp, wE_if, wE_call, wE_meth, wE_attr, wE_to, wE_from, wE_subC, wE_subN, wE_subB, wE_subU, wE_comp, wE_comp2, wT_not, wT_bool, wT_cmp, wT_name, wT_call, wT_sub, wTs_and0, wTs_or0, wTs_and, wTs_or, wEs_nil, wEs_cons, wS_asg, wS_asgT, wS_asgS, wS_asgA, wS_aug, wS_expr, wS_if, wS_while, wS_for, wS_ret, wS_cont, seq_next, seq_ret, seq_cont, ret_ret, ret_next, loop_next, loop_cont, loop_ret])
      refine ⟨_, e1, _, e3, _, item_row hr hv' hL', _, item0 _ _, _, cmp_ne_str _ _ _, ite_f rfl (wB_skip ?_)⟩
      (refine wB_cons ?_; dsimp only [wE_int, wE_str, wE_bool, wE_none, wE_name, wE_tuple, wE_list, wE_dict, wE_bin, wE_not, wE_neg, wE_cmp, wE_if, wE_call, wE_meth, wE_attr, wE_to, wE_from, wE_subC, wE_subN, wE_subB, wE_subU, wE_comp, wE_comp2, wT_not, wT_bool, wT_cmp, wT_name, wT_call, wT_sub, wTs_and0, wTs_or0, wTs_and, wTs_or, wEs_nil, wEs_cons, wS_asg, wS_asgT, wS_asgS, wS_asgA, wS_aug, wS_expr, wS_if, wS_while, wS_for, wS_ret, wS_cont, seq_next, seq_ret, seq_cont, ret_ret, ret_next, loop_next, loop_cont, loop_ret])
      refine ⟨_, e1, _, e3, _, item_row hr hv' hL', _, item1_jump v _, hn _ _ ⟨e1, e2, ?_, fun i h1 h2 => ?_, rfl⟩⟩
      · show some (I' v) = _
        rw [it_succ rows (j + 1), nx_jump hv']
      · rcases Nat.lt_or_ge i (j + 1) with q | q
        · exact e4 i h1 (Nat.le_of_lt_succ q)
        · obtain rfl : i = j + 1 := Nat.le_antisymm h2 q
          exact hc'
  · rintro ρ σ' ⟨e1, e2, e3, e4, rfl⟩
    exact absurd hke (e4 kk hk0 (by rw [rngD_len]; exact hkl))
end
end Mine

/-! W30 -/
namespace Mine

section
variable {C : Cx} {k : Nat} {σ : Store} {Q : EP} {Φ : CallT} {ρ : Rho}
theorem aims_take {rows : Rows} {i : Nat} {row : Ins} (h : rows[i]? = some row) : aims (rows.take (i + 1)) = aims (rows.take i) ++ row.tgs := by
  unfold aims
  rw [take_next h, List.flatMap_append]; simp
theorem aims_len (rows : Rows) : (aims rows).length ≤ rows.length := by
  unfold aims
  induction rows with
  | nil => exact Nat.le_refl _
  | cons a r ih =>
    have := tgs_len a
    rw [List.flatMap_cons, List.length_append, List.length_cons]
    omega
theorem aims_small {rows : Rows} {i j : Nat} {row : Ins} (h : rows.length ≤ 60) : (iDs (aims (rows.take i) ++ row.tgs.take j)).length ≤ 1000000 := by
  rw [iDs_len, List.length_append]
  have h1 := aims_len (rows.take i)
  have h2 := tgs_len row
  have h3 : (row.tgs.take j).length ≤ 1 := take_small h2
  have h4 : (rows.take i).length ≤ 60 := take_small h
  omega
theorem nm_vi' {i : Ins} : decide (D.s (.str i.nm) ∈ [D.s (.str "visible"), D.s (.str "invisible")]) = vi i := by cases i <;> rfl
theorem nm_sv' {i : Ins} : decide (D.s (.str i.nm) ∈ [D.s (.str "visible"), D.s (.str "invisible"), D.s (.str "const")]) = sv i := by cases i <;> rfl

theorem c_law_idle (r : Nat) (rows : Rows) (hr : RL σ r rows) (hv : Vd rows) (hL : rows.length ≤ 60) (hid : ∀ x ∈ idleR rows, x = false) (h : ∀ σ', Ext σ σ' → Q (B' false) σ') :
    callP (ΦN C (k + 2)) "_law_idle" [.loc r] σ Q := by
  refine callP_fn rfl (phi_call (i := 27) rfl rfl ?_)
  change wB C _ (bodyOf (fnS 27)) (retQ Q) (upd rho0 "rows" (.loc r)) σ
  have hL' : rows.length ≤ 1000 := Nat.le_trans hL (by decide)
  have hpos : 0 < rows.length := List.length_pos_iff.mpr hv.ne
  have hmil : rows.length - 1 ≤ 1000000 := by omega
  (refine wB_cons ?_; dsimp only [wE_int, wE_str, wE_bool, wE_none, wE_name, wE_tuple, wE_list, wE_dict, wE_bin, wE_not, wE_neg, wE_cmp, wE_if, wE_call, wE_meth, wE_attr, wE_to, wE_from, wE_subC, wE_subN, wE_subB, wE_subU, wE_comp, wE_comp2, wT_not, wT_bool, wT_cmp, wT_name, wT_call, wT_sub, wTs_and0, wTs_or0, wTs_and, wTs_or, wEs_nil, wEs_cons, wS_asg, wS_asgT, wS_asgS, wS_asgA, wS_aug, wS_expr, wS_if, wS_while, wS_for, wS_ret, wS_cont, seq_next, seq_ret, seq_cont, ret_ret, ret_next, loop_next, loop_cont, loop_ret])
  refine ⟨_, rfl, r, rows.map Ins.d, rfl, hr, map_small hL (by decide), fun i acc σ' => acc = iDs (aims (rows.take i)) ∧ Ext σ σ', ⟨rfl, Ext.refl _⟩, fun i acc σ' hJ => hr.ext hJ.2, ?_, ?_⟩
  · rintro i d acc σ1 hd ⟨rfl, x⟩ ρ' hx hf
    obtain ⟨row, hi, rfl⟩ := RL.get hd
    dsimp only [wE_int, wE_str, wE_bool, wE_none, wE_name, wE_tuple, wE_list, wE_dict, wE_bin, wE_not, wE_neg, wE_cmp, wE_if, wE_call, wE_meth, wE_attr, wE_to, wE_from, wE_subC, wE_subN, wE_subB, wE_subU, wE_comp, wE_comp2, wT_not, wT_bool, wT_cmp, wT_name, wT_call, wT_sub, wTs_and0, wTs_or0, wTs_and, wTs_or, wEs_nil, wEs_cons, wS_asg, wS_asgT, wS_asgS, wS_asgA, wS_aug, wS_expr, wS_if, wS_while, wS_for, wS_ret, wS_cont, seq_next, seq_ret, seq_cont, ret_ret, ret_next, loop_next, loop_cont, loop_ret]
    refine ⟨_, hx, c_law_aims row ?_⟩
    refine ⟨σ1.length, iDs row.tgs, rfl, get_new _ _, fun j acc σ' => acc = iDs (aims (rows.take i) ++ row.tgs.take j) ∧ Ext (σ1 ++ [.list (iDs row.tgs)]) σ', ⟨by rw [List.take_zero, List.append_nil], Ext.refl _⟩, fun j acc σ' hJ => ⟨hJ.2 _ _ (get_new _ _), hJ.1 ▸ aims_small hL⟩, ?_, ?_⟩
    · rintro j d acc σ2 hd ⟨rfl, y⟩ ρ'' hx1 hx2 hf'
      obtain ⟨t, ht, rfl⟩ := iDs_get hd
      exact ⟨_, hx2, _, rfl, by rw [iDs_snoc, take_next ht, List.append_assoc], y⟩
    · rintro acc σ2 ⟨rfl, y⟩
      refine ⟨?_, x.trans (((Ext.refl σ1).app _).trans y)⟩
      rw [aims_take hi, iDs_len, List.take_length]
  rintro acc σ2 ⟨rfl, x⟩
  rw [List.length_map, List.take_length]
  (refine wB_cons ?_; dsimp only [wE_int, wE_str, wE_bool, wE_none, wE_name, wE_tuple, wE_list, wE_dict, wE_bin, wE_not, wE_neg, wE_cmp, wE_if, wE_call, wE_meth, wE_attr, wE_to, wE_from, wE_subC, wE_subN, wE_subB, wE_subU, wE_comp, wE_comp2, wT_not, wT_bool, wT_cmp, wT_name, wT_call, wT_sub, wTs_and0, wTs_or0, wTs_and, wTs_or, wEs_nil, wEs_cons, wS_asg, wS_asgT, wS_asgS, wS_asgA, wS_aug, wS_expr, wS_if, wS_while, wS_for, wS_ret, wS_cont, seq_next, seq_ret, seq_cont, ret_ret, ret_next, loop_next, loop_cont, loop_ret])
  refine ⟨_, rfl, c_lenR (RL.ext hr (x.app _)) hL' (.subI ?_)⟩
  rw [show ((rows.length : Int) - 1) = ((rows.length - 1 : Nat) : Int) by omega]
  refine c_range hmil ?_
  refine for_of (iter_rng hmil _) (fun j ρ σ' => ρ "rows" = some (.loc r) ∧ ρ "aimed" = some (.loc σ2.length) ∧ σ'[σ2.length]? = some (.list (iDs (aims rows))) ∧ Ext σ σ')
    ⟨rfl, rfl, get_new _ _, x.app _⟩ (fun _ _ _ _ => iter_rng hmil _) ?_ ?_
  · rintro j d ρ σ' L hd ⟨e1, e2, e3, y⟩ hn hc _
    obtain ⟨hj, rfl⟩ := rng_get hd
    obtain ⟨a, ha⟩ := getE (show j < rows.length by omega)
    obtain ⟨b, hb⟩ := getE (show j + 1 < rows.length by omega)
    obtain ⟨n1, n2⟩ := idleL_no (aims rows) 0 rows hid j a b ha hb
    rw [Nat.zero_add] at n1 n2
    (refine wB_cons ?_; dsimp only [wE_int, wE_str, wE_bool, wE_none, wE_name, wE_tuple, wE_list, wE_dict, wE_bin, wE_not, wE_neg, wE_cmp, wE_if, wE_call, wE_meth, wE_attr, wE_to, wE_from, wE_subC, wE_subN, wE_subB, wE_subU, wE_comp, wE_comp2, wT_not, wT_bool, wT_cmp, wT_name, wT_call, wT_sub, wTs_and0, wTs_or0, wTs_and, wTs_or, wEs_nil, wEs_cons, wS_asg, wS_asgT, wS_asgS, wS_asgA, wS_aug, wS_expr, wS_if, wS_while, wS_for, wS_ret, wS_cont, seq_next, seq_ret, seq_cont, ret_ret, ret_next, loop_next, loop_cont, loop_ret])
    refine ⟨_, e1, _, rfl, _, item_row (hr.ext y) ha hL', ?_⟩
    (refine wB_cons ?_; dsimp only [wE_int, wE_str, wE_bool, wE_none, wE_name, wE_tuple, wE_list, wE_dict, wE_bin, wE_not, wE_neg, wE_cmp, wE_if, wE_call, wE_meth, wE_attr, wE_to, wE_from, wE_subC, wE_subN, wE_subB, wE_subU, wE_comp, wE_comp2, wT_not, wT_bool, wT_cmp, wT_name, wT_call, wT_sub, wTs_and0, wTs_or0, wTs_and, wTs_or, wEs_nil, wEs_cons, wS_asg, wS_asgT, wS_asgS, wS_asgA, wS_aug, wS_expr, wS_if, wS_while, wS_for, wS_ret, wS_cont, seq_next, seq_ret, seq_cont, ret_ret, ret_next, loop_next, loop_cont, loop_ret])
    refine ⟨_, e1, _, rfl, binop_succ ⟨_, item_row (hr.ext y) hb hL', ?_⟩⟩
    obtain ⟨ρ1, hρ⟩ : ∃ ρ1, ρ1 = upd (upd (upd ρ "spot" (.d (iD j))) "first" (.d a.d)) "second" (.d b.d) := ⟨_, rfl⟩
    change wB C _ _ _ (upd (upd (upd ρ "spot" (.d (iD j))) "first" (.d a.d)) "second" (.d b.d)) _
    rw [← hρ]
    have f1 : ρ1 "rows" = some (.loc r) := by subst hρ; exact e1
    have f2 : ρ1 "aimed" = some (.loc σ2.length) := by subst hρ; exact e2
    have f3 : ρ1 "spot" = some (I' j) := by subst hρ; rfl
    have f4 : ρ1 "first" = some (.d a.d) := by subst hρ; rfl
    have f5 : ρ1 "second" = some (.d b.d) := by subst hρ; rfl
    clear hρ e1 e2
    (refine wB_cons ?_; dsimp only [wE_int, wE_str, wE_bool, wE_none, wE_name, wE_tuple, wE_list, wE_dict, wE_bin, wE_not, wE_neg, wE_cmp, wE_if, wE_call, wE_meth, wE_attr, wE_to, wE_from, wE_subC, wE_subN, wE_subB, wE_subU, wE_comp, wE_comp2, wT_not, wT_bool, wT_cmp, wT_name, wT_call, wT_sub, wTs_and0, wTs_or0, wTs_and, wTs_or, wEs_nil, wEs_cons, wS_asg, wS_asgT, wS_asgS, wS_asgA, wS_aug, wS_expr, wS_if, wS_while, wS_for, wS_ret, wS_cont, seq_next, seq_ret, seq_cont, ret_ret, ret_next, loop_next, loop_cont, loop_ret])
    refine ⟨_, f4, _, f3, binop_succ ⟨small rfl, _, rfl, _, cmp_eq_d a (.jump (j + 1)) σ', ite_f (decide_eq_false n1) (wB_skip ?_)⟩⟩
    (refine wB_cons ?_; dsimp only [wE_int, wE_str, wE_bool, wE_none, wE_name, wE_tuple, wE_list, wE_dict, wE_bin, wE_not, wE_neg, wE_cmp, wE_if, wE_call, wE_meth, wE_attr, wE_to, wE_from, wE_subC, wE_subN, wE_subB, wE_subU, wE_comp, wE_comp2, wT_not, wT_bool, wT_cmp, wT_name, wT_call, wT_sub, wTs_and0, wTs_or0, wTs_and, wTs_or, wEs_nil, wEs_cons, wS_asg, wS_asgT, wS_asgS, wS_asgA, wS_aug, wS_expr, wS_if, wS_while, wS_for, wS_ret, wS_cont, seq_next, seq_ret, seq_cont, ret_ret, ret_next, loop_next, loop_cont, loop_ret])
    refine ⟨_, f3, binop_succ ⟨_, f2, _, cmp_in_list _ e3 rfl (iDs_nb _), ite_both (fun _ => ?_) fun hm => wB_skip ?_⟩⟩
    · (refine wB_cons ?_; dsimp only [wE_int, wE_str, wE_bool, wE_none, wE_name, wE_tuple, wE_list, wE_dict, wE_bin, wE_not, wE_neg, wE_cmp, wE_if, wE_call, wE_meth, wE_attr, wE_to, wE_from, wE_subC, wE_subN, wE_subB, wE_subU, wE_comp, wE_comp2, wT_not, wT_bool, wT_cmp, wT_name, wT_call, wT_sub, wTs_and0, wTs_or0, wTs_and, wTs_or, wEs_nil, wEs_cons, wS_asg, wS_asgT, wS_asgS, wS_asgA, wS_aug, wS_expr, wS_if, wS_while, wS_for, wS_ret, wS_cont, seq_next, seq_ret, seq_cont, ret_ret, ret_next, loop_next, loop_cont, loop_ret])
      exact hc _ _ ⟨f1, f2, e3, y⟩
    obtain ⟨n3, n4⟩ := n2 fun h => dec_f hm (mem_iDs.mpr h)
    have last : wB C (ΦN C (k + 1)) ((loopOf (((bodyOf (fnS 27))[1]?).getD (.Pass ⟨0, 0, 0, 0⟩))).drop 5) L ρ1 σ' := by
      refine wB_cons ?_
      dsimp only [wE_int, wE_str, wE_bool, wE_none, wE_name, wE_tuple, wE_list, wE_dict, wE_bin, wE_not, wE_neg, wE_cmp, wE_if, wE_call, wE_meth, wE_attr, wE_to, wE_from, wE_subC, wE_subN, wE_subB, wE_subU, wE_comp, wE_comp2, wT_not, wT_bool, wT_cmp, wT_name, wT_call, wT_sub, wTs_and0, wTs_or0, wTs_and, wTs_or, wEs_nil, wEs_cons, wS_asg, wS_asgT, wS_asgS, wS_asgA, wS_aug, wS_expr, wS_if, wS_while, wS_for, wS_ret, wS_cont, seq_next, seq_ret, seq_cont, ret_ret, ret_next, loop_next, loop_cont, loop_ret]
      refine ⟨_, f4, _, item0 a _, small rfl, _, rfl, _, cmp_in_list _ (get_new _ _) rfl rfl, ite_both (fun h1 => ?_) fun _ => ite_f rfl (hn _ _ ⟨f1, f2, get_app e3, y.app _⟩)⟩
      refine ⟨_, f5, _, item0 b _, small rfl, _, rfl, _, cmp_in_list _ (get_new _ _) rfl rfl, ite_both (fun h2 => ?_) fun _ => ite_f rfl (hn _ _ ⟨f1, f2, get_app (get_app e3), (y.app _).app _⟩)⟩
      exact absurd ⟨nm_vi'.symm.trans h1, nm_sv'.symm.trans h2⟩ n4
    (refine wB_cons ?_; dsimp only [wE_int, wE_str, wE_bool, wE_none, wE_name, wE_tuple, wE_list, wE_dict, wE_bin, wE_not, wE_neg, wE_cmp, wE_if, wE_call, wE_meth, wE_attr, wE_to, wE_from, wE_subC, wE_subN, wE_subB, wE_subU, wE_comp, wE_comp2, wT_not, wT_bool, wT_cmp, wT_name, wT_call, wT_sub, wTs_and0, wTs_or0, wTs_and, wTs_or, wEs_nil, wEs_cons, wS_asg, wS_asgT, wS_asgS, wS_asgA, wS_aug, wS_expr, wS_if, wS_while, wS_for, wS_ret, wS_cont, seq_next, seq_ret, seq_cont, ret_ret, ret_next, loop_next, loop_cont, loop_ret])
    exact ⟨_, f4, _, item0 a _, _, cmp_eq_str _ _ _, ite_both (fun hc1 => ⟨_, f5, small rfl, _, rfl, _, cmp_eq_d b .drop _, ite_both (fun hc2 => absurd ⟨nm_const.mp (dec_t hc1), dec_t hc2⟩ n3) fun _ => ite_f rfl (wB_skip last)⟩) fun _ => ite_f rfl (wB_skip last)⟩
  · rintro ρ σ' ⟨e1, e2, e3, y⟩
    exact h _ y
end
end Mine

/-! W31 -/
namespace Mine

noncomputable def PQ : List D := [.s (.str "p"), .s (.str "q")]
structure LM (r c q b fr cs : Nat) (rows found : Rows) (σ : Store) : Prop where
  hr : RL σ r rows
  hv : Vd rows
  hL : rows.length ≤ 15
  hc : ∃ cv, Cod σ c q cv
  hq : RL σ q rows
  hb : Cod σ b fr (.loc cs)
  hs : σ[cs]? = some (.list PQ)
  hf : RL σ fr found
  fv : Vd found
  ff : improvedR found = found
  fk : KR found = KR rows
  fL : found.length ≤ 15
theorem LM.ext {r c q b fr cs : Nat} {rows found : Rows} {σ σ' : Store} (h : LM r c q b fr cs rows found σ) (x : Ext σ σ') : LM r c q b fr cs rows found σ' :=
  ⟨h.hr.ext x, h.hv, h.hL, let ⟨cv, hc⟩ := h.hc; ⟨cv, hc.ext x⟩, h.hq.ext x, h.hb.ext x, x _ _ h.hs, h.hf.ext x, h.fv, h.ff, h.fk, h.fL⟩
structure LE (r c b : Nat) (ρ : Rho) : Prop where
  e1 : ρ "rows" = some (.loc r)
  e2 : ρ "code" = some (.loc c)
  e3 : ρ "better" = some (.loc b)
noncomputable def M1 (ρ : Rho) (σ : Store) : Prop := ∃ r c q b fr cs rows found, LE r c b ρ ∧ LM r c q b fr cs rows found σ
noncomputable def M2 (ρ : Rho) (σ : Store) : Prop := ∃ r c q b fr cs rows found, LE r c b ρ ∧ ρ "found" = some (.loc fr) ∧ LM r c q b fr cs rows found σ

section
variable {k : Nat} {σ : Store} {Q : EP} {Φ : CallT} {ρ : Rho}
theorem cmp_eq_list {n m : Nat} {xs ys : List D} (h1 : σ[n]? = some (.list xs)) (h2 : σ[m]? = some (.list ys)) (n1 : xs.all D.nb = true) (n2 : ys.all D.nb = true) : cmp .Eq (.loc n) (.loc m) σ (decide (xs = ys)) := .eqL h1 h2 n1 n2
theorem RS_all {rows : Rows} (h : AllR rows) : RS rows = List.range rows.length := by
  unfold RS
  rw [List.filter_eq_self]
  exact fun n hn => by simpa using h n (List.mem_range.mp hn)
theorem item_last {r : Nat} {rows : Rows} {i : Ins} (hr : RL σ r rows) (hi : rows[rows.length - 1]? = some i) (hl : rows.length ≤ 1000) : item (.loc r) (I' (-1)) σ (.d i.d) :=
  .last hr (by rw [List.length_map]; omega) (by rw [List.getLast?_eq_getElem?, List.length_map]; exact RL.at hi)
theorem tag_nb {i : Ins} {d : D} (h : tagD i = some d) : d.nb = true := by cases i <;> simp [tagD] at h <;> subst h <;> rfl
theorem KR_nb (rows : Rows) : (KR rows).all D.nb = true := by
  rw [List.all_eq_true]
  intro d hd
  unfold KR at hd
  obtain ⟨p, _, hp⟩ := List.mem_filterMap.mp hd
  split at hp
  · exact tag_nb hp
  · cases hp
theorem not_ne {xs : List D} : (!decide (xs = xs)) = false := by rw [decide_eq_true rfl]; rfl

abbrev lawB (C : Cx) (n : Nat) : Rho → Store → Prop := wB C (ΦN C 7) ((bodyOf (fnS 28)).drop n) (retQ fun v _ => v = B' true)

theorem law_e (C : Cx) (h : M2 ρ σ) : lawB C 9 ρ σ := by
  obtain ⟨r, c, q, b, fr, cs, rows, found, e, ef, m⟩ := h
  have hfL : found.length ≤ 60 := Nat.le_trans m.fL (by decide)
  have hfL' : found.length ≤ 1000 := Nat.le_trans m.fL (by decide)
  have hmil : found.length ≤ 1000000 := Nat.le_trans m.fL (by decide)
  have hrL : rows.length ≤ 60 := Nat.le_trans m.hL (by decide)
  obtain ⟨ft, fa, fi⟩ := fix_facts m.fv m.ff
  have hpos : 0 < found.length := List.length_pos_iff.mpr m.fv.ne
  obtain ⟨la, hla⟩ := getE (Nat.sub_lt hpos Nat.one_pos)
  have hon : la.on = false := by
    cases ho : la.on with
    | false => rfl
    | true => have := m.fv.on _ _ hla ho; omega
  refine wB_cons ?_
  dsimp only [wE_int, wE_str, wE_bool, wE_none, wE_name, wE_tuple, wE_list, wE_dict, wE_bin, wE_not, wE_neg, wE_cmp, wE_if, wE_call, wE_meth, wE_attr, wE_to, wE_from, wE_subC, wE_subN, wE_subB, wE_subU, wE_comp, wE_comp2, wT_not, wT_bool, wT_cmp, wT_name, wT_call, wT_sub, wTs_and0, wTs_or0, wTs_and, wTs_or, wEs_nil, wEs_cons, wS_asg, wS_asgT, wS_asgS, wS_asgA, wS_aug, wS_expr, wS_if, wS_while, wS_for, wS_ret, wS_cont, seq_next, seq_ret, seq_cont, ret_ret, ret_next, loop_next, loop_cont, loop_ret]
  have x1 := (Ext.refl σ).app [AO.list [D.s (.str "jump"), D.s (.str "return"), D.s (.str "end")]]
  refine ⟨_, ef, 1, rfl, _, item_last m.hf hla hfL', _, item0 la _, small rfl, _, rfl, _, cmp_notin_list _ (get_new _ _) rfl rfl, ite_f (by show (!decide (D.s (.str la.nm) ∈ [D.s (.str "jump"), D.s (.str "return"), D.s (.str "end")])) = false; rw [nm_off, hon]; rfl) (wB_skip ?_)⟩
  change wB _ _ _ _ _ (σ ++ [AO.list [D.s (.str "jump"), D.s (.str "return"), D.s (.str "end")]])
  generalize σ ++ [AO.list [D.s (.str "jump"), D.s (.str "return"), D.s (.str "end")]] = σ0 at x1
  have m := m.ext x1
  clear x1
  (refine wB_cons ?_; dsimp only [wE_int, wE_str, wE_bool, wE_none, wE_name, wE_tuple, wE_list, wE_dict, wE_bin, wE_not, wE_neg, wE_cmp, wE_if, wE_call, wE_meth, wE_attr, wE_to, wE_from, wE_subC, wE_subN, wE_subB, wE_subU, wE_comp, wE_comp2, wT_not, wT_bool, wT_cmp, wT_name, wT_call, wT_sub, wTs_and0, wTs_or0, wTs_and, wTs_or, wEs_nil, wEs_cons, wS_asg, wS_asgT, wS_asgS, wS_asgA, wS_aug, wS_expr, wS_if, wS_while, wS_for, wS_ret, wS_cont, seq_next, seq_ret, seq_cont, ret_ret, ret_next, loop_next, loop_cont, loop_ret])
  refine ⟨_, ef, c_law_reached fr found m.hf m.fv hfL fun a σ1 y1 ha => ?_⟩
  have x2 := y1.app [AO.list (rngD found.length)]
  refine ⟨_, ef, c_lenR (m.hf.ext y1) hfL' (c_range hmil (c_list_rng hmil ⟨_, cmp_ne_list (get_app ha) (get_new _ _) (iDs_nb _) (iDs_nb (List.range found.length)), ite_f (by rw [RS_all fa]; exact not_ne) ⟨rfl, _, ef, c_law_idle fr found (m.hf.ext x2) m.fv hfL fi fun σ3 y3 => ⟨false, rfl, ite_f rfl (ite_f rfl (wB_skip ?_))⟩⟩⟩))⟩
  have m := (m.ext x2).ext y3
  clear x2 y3 ha y1
  (refine wB_cons ?_; dsimp only [wE_int, wE_str, wE_bool, wE_none, wE_name, wE_tuple, wE_list, wE_dict, wE_bin, wE_not, wE_neg, wE_cmp, wE_if, wE_call, wE_meth, wE_attr, wE_to, wE_from, wE_subC, wE_subN, wE_subB, wE_subU, wE_comp, wE_comp2, wT_not, wT_bool, wT_cmp, wT_name, wT_call, wT_sub, wTs_and0, wTs_or0, wTs_and, wTs_or, wEs_nil, wEs_cons, wS_asg, wS_asgT, wS_asgS, wS_asgA, wS_aug, wS_expr, wS_if, wS_while, wS_for, wS_ret, wS_cont, seq_next, seq_ret, seq_cont, ret_ret, ret_next, loop_next, loop_cont, loop_ret])
  refine ⟨_, ef, c_law_kept fr found m.hf m.fv hfL fun k1 σ4 y4 hk1 => ⟨_, e.e1, c_law_kept r rows (m.hr.ext y4) m.hv hrL fun k2 σ5 y5 hk2 => ⟨_, cmp_ne_list (y5 _ _ hk1) hk2 (KR_nb _) (KR_nb _), ite_f (by rw [m.fk]; exact not_ne) (wB_skip ?_)⟩⟩⟩
  have m := (m.ext y4).ext y5
  clear y4 y5 hk1 hk2
  (refine wB_cons ?_; dsimp only [wE_int, wE_str, wE_bool, wE_none, wE_name, wE_tuple, wE_list, wE_dict, wE_bin, wE_not, wE_neg, wE_cmp, wE_if, wE_call, wE_meth, wE_attr, wE_to, wE_from, wE_subC, wE_subN, wE_subB, wE_subU, wE_comp, wE_comp2, wT_not, wT_bool, wT_cmp, wT_name, wT_call, wT_sub, wTs_and0, wTs_or0, wTs_and, wTs_or, wEs_nil, wEs_cons, wS_asg, wS_asgT, wS_asgS, wS_asgA, wS_aug, wS_expr, wS_if, wS_while, wS_for, wS_ret, wS_cont, seq_next, seq_ret, seq_cont, ret_ret, ret_next, loop_next, loop_cont, loop_ret])
  refine ⟨_, e.e3, c_optimise b fr found (.loc cs) m.hb m.hf m.fv hfL' fun n r' found' σ6 y6 cb rf _ _ _ _ same => ?_⟩
  obtain rfl := same m.ff
  obtain ⟨am, kv, O, q3, _⟩ := cb.at_
  exact attr_get O q3 ⟨_, ef, _, cmp_eq_list rf (m.hf.ext y6) (ds_nb _) (ds_nb _), congrArg B' (decide_eq_true rfl)⟩

theorem law_d (C : Cx) (h : M2 ρ σ) : lawB C 8 ρ σ := by
  obtain ⟨r, c, q, b, fr, cs, rows, found, e, ef, m⟩ := h
  have hfL' : found.length ≤ 1000 := Nat.le_trans m.fL (by decide)
  refine wB_cons ?_
  dsimp only [wE_int, wE_str, wE_bool, wE_none, wE_name, wE_tuple, wE_list, wE_dict, wE_bin, wE_not, wE_neg, wE_cmp, wE_if, wE_call, wE_meth, wE_attr, wE_to, wE_from, wE_subC, wE_subN, wE_subB, wE_subU, wE_comp, wE_comp2, wT_not, wT_bool, wT_cmp, wT_name, wT_call, wT_sub, wTs_and0, wTs_or0, wTs_and, wTs_or, wEs_nil, wEs_cons, wS_asg, wS_asgT, wS_asgS, wS_asgA, wS_aug, wS_expr, wS_if, wS_while, wS_for, wS_ret, wS_cont, seq_next, seq_ret, seq_cont, ret_ret, ret_next, loop_next, loop_cont, loop_ret]
  refine ⟨_, ef, for_of (ds := found.map Ins.d) m.hf (fun i ρ σ' => LE r c b ρ ∧ ρ "found" = some (.loc fr) ∧ Ext σ σ') ⟨e, ef, Ext.refl σ⟩ (fun i ρ σ' hJ => m.hf.ext hJ.2.2) ?_ ?_⟩
  · rintro i d ρ σ1 L hd ⟨e, ef, x⟩ hn _ _
    obtain ⟨row, hi, rfl⟩ := RL.get hd
    (refine wB_cons ?_; dsimp only [wE_int, wE_str, wE_bool, wE_none, wE_name, wE_tuple, wE_list, wE_dict, wE_bin, wE_not, wE_neg, wE_cmp, wE_if, wE_call, wE_meth, wE_attr, wE_to, wE_from, wE_subC, wE_subN, wE_subB, wE_subU, wE_comp, wE_comp2, wT_not, wT_bool, wT_cmp, wT_name, wT_call, wT_sub, wTs_and0, wTs_or0, wTs_and, wTs_or, wEs_nil, wEs_cons, wS_asg, wS_asgT, wS_asgS, wS_asgA, wS_aug, wS_expr, wS_if, wS_while, wS_for, wS_ret, wS_cont, seq_next, seq_ret, seq_cont, ret_ret, ret_next, loop_next, loop_cont, loop_ret])
    refine ⟨_, rfl, c_law_aims row ?_⟩
    refine for_of (ds := iDs row.tgs) (get_new _ _) (fun j ρ σ' => LE r c b ρ ∧ ρ "found" = some (.loc fr) ∧ Ext σ σ' ∧ σ'[σ1.length]? = some (.list (iDs row.tgs))) ⟨⟨e.e1, e.e2, e.e3⟩, ef, x.app _, get_new _ _⟩ (fun j ρ σ' hJ => hJ.2.2.2) ?_ ?_
    · rintro j d ρ σ2 L2 hd ⟨e, ef, x, hw⟩ hn2 _ _
      obtain ⟨t, ht, rfl⟩ := iDs_get hd
      obtain ⟨i2, hi2⟩ := getE (m.fv.tg _ _ hi t (mem_of_get ht))
      have fin := hn2 (upd ρ "aim" (.d (iD t))) σ2 ⟨⟨e.e1, e.e2, e.e3⟩, ef, x, hw⟩
      (refine wB_cons ?_; dsimp only [wE_int, wE_str, wE_bool, wE_none, wE_name, wE_tuple, wE_list, wE_dict, wE_bin, wE_not, wE_neg, wE_cmp, wE_if, wE_call, wE_meth, wE_attr, wE_to, wE_from, wE_subC, wE_subN, wE_subB, wE_subU, wE_comp, wE_comp2, wT_not, wT_bool, wT_cmp, wT_name, wT_call, wT_sub, wTs_and0, wTs_or0, wTs_and, wTs_or, wEs_nil, wEs_cons, wS_asg, wS_asgT, wS_asgS, wS_asgA, wS_aug, wS_expr, wS_if, wS_while, wS_for, wS_ret, wS_cont, seq_next, seq_ret, seq_cont, ret_ret, ret_next, loop_next, loop_cont, loop_ret])
      refine ⟨_, ef, _, rfl, _, item_row (m.hf.ext x) hi2 hfL', _, item0 i2 _, _, cmp_eq_str _ _ _, ite_both (fun hc => ?_) fun _ => ite_f rfl fin⟩
      obtain ⟨u, rfl⟩ := nm_jump.mp (dec_t hc)
      have ring : Ring found t := fix_ring (fix_facts m.fv m.ff).1 hi (mem_tgs.mp (mem_of_get ht)) ⟨u, hi2⟩
      exact ⟨rfl, _, ef, _, rfl, c_law_in_ring fr found t (m.hf.ext x) m.fv (Nat.le_trans m.fL (by decide)) ring ⟨true, rfl, ite_f rfl (ite_f rfl fin)⟩⟩
    · rintro ρ σ2 ⟨e, ef, x, _⟩
      exact hn _ _ ⟨e, ef, x⟩
  · rintro ρ σ1 ⟨e, ef, x⟩
    exact law_e C ⟨r, c, q, b, fr, cs, rows, found, e, ef, m.ext x⟩

theorem law_c (C : Cx) (h : M2 ρ σ) : lawB C 7 ρ σ := by
  obtain ⟨r, c, q, b, fr, cs, rows, found, e, ef, m⟩ := h
  have hfL' : found.length ≤ 1000 := Nat.le_trans m.fL (by decide)
  refine wB_cons ?_
  dsimp only [wE_int, wE_str, wE_bool, wE_none, wE_name, wE_tuple, wE_list, wE_dict, wE_bin, wE_not, wE_neg, wE_cmp, wE_if, wE_call, wE_meth, wE_attr, wE_to, wE_from, wE_subC, wE_subN, wE_subB, wE_subU, wE_comp, wE_comp2, wT_not, wT_bool, wT_cmp, wT_name, wT_call, wT_sub, wTs_and0, wTs_or0, wTs_and, wTs_or, wEs_nil, wEs_cons, wS_asg, wS_asgT, wS_asgS, wS_asgA, wS_aug, wS_expr, wS_if, wS_while, wS_for, wS_ret, wS_cont, seq_next, seq_ret, seq_cont, ret_ret, ret_next, loop_next, loop_cont, loop_ret]
  refine ⟨_, ef, for_of (ds := found.map Ins.d) m.hf (fun i ρ σ' => LE r c b ρ ∧ ρ "found" = some (.loc fr) ∧ Ext σ σ') ⟨e, ef, Ext.refl σ⟩ (fun i ρ σ' hJ => m.hf.ext hJ.2.2) ?_ ?_⟩
  · rintro i d ρ σ1 L hd ⟨e, ef, x⟩ hn _ _
    obtain ⟨row, hi, rfl⟩ := RL.get hd
    (refine wB_cons ?_; dsimp only [wE_int, wE_str, wE_bool, wE_none, wE_name, wE_tuple, wE_list, wE_dict, wE_bin, wE_not, wE_neg, wE_cmp, wE_if, wE_call, wE_meth, wE_attr, wE_to, wE_from, wE_subC, wE_subN, wE_subB, wE_subU, wE_comp, wE_comp2, wT_not, wT_bool, wT_cmp, wT_name, wT_call, wT_sub, wTs_and0, wTs_or0, wTs_and, wTs_or, wEs_nil, wEs_cons, wS_asg, wS_asgT, wS_asgS, wS_asgA, wS_aug, wS_expr, wS_if, wS_while, wS_for, wS_ret, wS_cont, seq_next, seq_ret, seq_cont, ret_ret, ret_next, loop_next, loop_cont, loop_ret])
    refine ⟨_, rfl, c_law_aims row ?_⟩
    refine for_of (ds := iDs row.tgs) (get_new _ _) (fun j ρ σ' => LE r c b ρ ∧ ρ "found" = some (.loc fr) ∧ Ext σ σ' ∧ σ'[σ1.length]? = some (.list (iDs row.tgs))) ⟨⟨e.e1, e.e2, e.e3⟩, ef, x.app _, get_new _ _⟩ (fun j ρ σ' hJ => hJ.2.2.2) ?_ ?_
    · rintro j d ρ σ2 L2 hd ⟨e, ef, x, hw⟩ hn2 _ _
      obtain ⟨t, ht, rfl⟩ := iDs_get hd
      have htl := m.fv.tg _ _ hi t (mem_of_get ht)
      (refine wB_cons ?_; dsimp only [wE_int, wE_str, wE_bool, wE_none, wE_name, wE_tuple, wE_list, wE_dict, wE_bin, wE_not, wE_neg, wE_cmp, wE_if, wE_call, wE_meth, wE_attr, wE_to, wE_from, wE_subC, wE_subN, wE_subB, wE_subU, wE_comp, wE_comp2, wT_not, wT_bool, wT_cmp, wT_name, wT_call, wT_sub, wTs_and0, wTs_or0, wTs_and, wTs_or, wEs_nil, wEs_cons, wS_asg, wS_asgT, wS_asgS, wS_asgA, wS_aug, wS_expr, wS_if, wS_while, wS_for, wS_ret, wS_cont, seq_next, seq_ret, seq_cont, ret_ret, ret_next, loop_next, loop_cont, loop_ret])
      exact ⟨_, rfl, _, .lt, ite_f (decide_eq_false (Int.not_lt.mpr (Int.natCast_nonneg t))) ⟨_, rfl, _, ef, c_lenR (m.hf.ext x) hfL' ⟨_, .ge, ite_f (decide_eq_false (by omega)) (ite_f rfl (hn2 _ _ ⟨⟨e.e1, e.e2, e.e3⟩, ef, x, hw⟩))⟩⟩⟩
    · rintro ρ σ2 ⟨e, ef, x, _⟩
      exact hn _ _ ⟨e, ef, x⟩
  · rintro ρ σ1 ⟨e, ef, x⟩
    exact law_d C ⟨r, c, q, b, fr, cs, rows, found, e, ef, m.ext x⟩

theorem law_b (C : Cx) (h : M1 ρ σ) : lawB C 5 ρ σ := by
  obtain ⟨r, c, q, b, fr, cs, rows, found, e, m⟩ := h
  obtain ⟨cv, hc⟩ := m.hc
  obtain ⟨a1, kv1, O1, g3, g4, _⟩ := hc.at_
  obtain ⟨a2, kv2, O2, h3, h4, _⟩ := m.hb.at_
  have hne : found.map Ins.d ≠ [] := fun h => m.fv.ne (List.map_eq_nil_iff.mp h)
  refine wB_cons ?_
  dsimp only [wE_int, wE_str, wE_bool, wE_none, wE_name, wE_tuple, wE_list, wE_dict, wE_bin, wE_not, wE_neg, wE_cmp, wE_if, wE_call, wE_meth, wE_attr, wE_to, wE_from, wE_subC, wE_subN, wE_subB, wE_subU, wE_comp, wE_comp2, wT_not, wT_bool, wT_cmp, wT_name, wT_call, wT_sub, wTs_and0, wTs_or0, wTs_and, wTs_or, wEs_nil, wEs_cons, wS_asg, wS_asgT, wS_asgS, wS_asgA, wS_aug, wS_expr, wS_if, wS_while, wS_for, wS_ret, wS_cont, seq_next, seq_ret, seq_cont, ret_ret, ret_next, loop_next, loop_cont, loop_ret]
  refine ⟨_, e.e2, attr_get O1 g3 ⟨_, e.e1, _, cmp_ne_list m.hq m.hr (ds_nb _) (ds_nb _), ite_f not_ne ?_⟩⟩
  refine ⟨_, e.e3, attr_get O2 h4 ⟨small rfl, PQ, rfl, _, cmp_ne_list (get_app m.hs) (get_new _ _) rfl rfl, ite_f not_ne ?_⟩⟩
  refine ⟨_, e.e3, attr_get (O2.app _) h3 ⟨small rfl, [], rfl, _, cmp_eq_list (get_app (get_app m.hf)) (get_new _ _) (ds_nb _) rfl, ite_f (decide_eq_false hne) (ite_f rfl (wB_skip ?_))⟩⟩
  (refine wB_cons ?_; dsimp only [wE_int, wE_str, wE_bool, wE_none, wE_name, wE_tuple, wE_list, wE_dict, wE_bin, wE_not, wE_neg, wE_cmp, wE_if, wE_call, wE_meth, wE_attr, wE_to, wE_from, wE_subC, wE_subN, wE_subB, wE_subU, wE_comp, wE_comp2, wT_not, wT_bool, wT_cmp, wT_name, wT_call, wT_sub, wTs_and0, wTs_or0, wTs_and, wTs_or, wEs_nil, wEs_cons, wS_asg, wS_asgT, wS_asgS, wS_asgA, wS_aug, wS_expr, wS_if, wS_while, wS_for, wS_ret, wS_cont, seq_next, seq_ret, seq_cont, ret_ret, ret_next, loop_next, loop_cont, loop_ret])
  exact ⟨_, e.e3, attr_get ((O2.app _).app _) h3 (law_c C ⟨r, c, q, b, fr, cs, rows, found, ⟨e.e1, e.e2, e.e3⟩, rfl, (m.ext ((Ext.refl σ).app _)).ext ((Ext.refl _).app _)⟩)⟩

theorem law_wp (C : Cx) : wB C (ΦN C 7) (bodyOf (fnS 28)) (retQ fun v _ => v = B' true) (bindRho (argsOf (fnS 28)) [.scr] rho0) [] := by
  change wB C (ΦN C 7) (bodyOf (fnS 28)) (retQ fun v _ => v = B' true) (upd rho0 "script" .scr) []
  refine wB_cons ?_
  dsimp only [wE_int, wE_str, wE_bool, wE_none, wE_name, wE_tuple, wE_list, wE_dict, wE_bin, wE_not, wE_neg, wE_cmp, wE_if, wE_call, wE_meth, wE_attr, wE_to, wE_from, wE_subC, wE_subN, wE_subB, wE_subU, wE_comp, wE_comp2, wT_not, wT_bool, wT_cmp, wT_name, wT_call, wT_sub, wTs_and0, wTs_or0, wTs_and, wTs_or, wEs_nil, wEs_cons, wS_asg, wS_asgT, wS_asgS, wS_asgA, wS_aug, wS_expr, wS_if, wS_while, wS_for, wS_ret, wS_cont, seq_next, seq_ret, seq_cont, ret_ret, ret_next, loop_next, loop_cont, loop_ret]
  refine ⟨_, rfl, c_law_digits fun n ns σ1 hn hnl => c_law_rows n ns hn hnl fun r rows σ2 hr hv hL => ?_⟩
  (refine wB_cons ?_; dsimp only [wE_int, wE_str, wE_bool, wE_none, wE_name, wE_tuple, wE_list, wE_dict, wE_bin, wE_not, wE_neg, wE_cmp, wE_if, wE_call, wE_meth, wE_attr, wE_to, wE_from, wE_subC, wE_subN, wE_subB, wE_subU, wE_comp, wE_comp2, wT_not, wT_bool, wT_cmp, wT_name, wT_call, wT_sub, wTs_and0, wTs_or0, wTs_and, wTs_or, wEs_nil, wEs_cons, wS_asg, wS_asgT, wS_asgS, wS_asgA, wS_aug, wS_expr, wS_if, wS_while, wS_for, wS_ret, wS_cont, seq_next, seq_ret, seq_cont, ret_ret, ret_next, loop_next, loop_cont, loop_ret])
  refine c_code N' fun σ3 kvs x3 O n3 n4 => ?_
  have hr3 := hr.ext x3
  have hrl : r ≠ σ2.length + 1 := Nat.ne_of_lt (Nat.lt_succ_of_lt (lt_of_get hr))
  generalize σ2.length = c at O hrl
  clear hr x3
  (refine wB_cons ?_; dsimp only [wE_int, wE_str, wE_bool, wE_none, wE_name, wE_tuple, wE_list, wE_dict, wE_bin, wE_not, wE_neg, wE_cmp, wE_if, wE_call, wE_meth, wE_attr, wE_to, wE_from, wE_subC, wE_subN, wE_subB, wE_subU, wE_comp, wE_comp2, wT_not, wT_bool, wT_cmp, wT_name, wT_call, wT_sub, wTs_and0, wTs_or0, wTs_and, wTs_or, wEs_nil, wEs_cons, wS_asg, wS_asgT, wS_asgS, wS_asgA, wS_aug, wS_expr, wS_if, wS_while, wS_for, wS_ret, wS_cont, seq_next, seq_ret, seq_cont, ret_ret, ret_next, loop_next, loop_cont, loop_ret])
  refine ⟨_, rfl, c_list hr3 (map_small hL (by decide)) ⟨_, rfl, attr_put (O.app _) (by omega) fun O1 => ?_⟩⟩
  have hq1 : RL ((σ3 ++ [AO.list (rows.map Ins.d)]).set (c + 1) (.attrs ((Str.ofString "rows", AV.loc σ3.length) :: kvs))) σ3.length rows := get_set_ne (get_new _ _) (Nat.ne_of_lt (lt_of_get O.b))
  have hr4 : RL ((σ3 ++ [AO.list (rows.map Ins.d)]).set (c + 1) (.attrs ((Str.ofString "rows", AV.loc σ3.length) :: kvs))) r rows := get_set_ne (get_app hr3) (Ne.symm hrl)
  generalize (σ3 ++ [AO.list (rows.map Ins.d)]).set (c + 1) (.attrs ((Str.ofString "rows", AV.loc σ3.length) :: kvs)) = σ4 at O1 hq1 hr4
  generalize σ3.length = q at O1 hq1
  clear O hr3
  (refine wB_cons ?_; dsimp only [wE_int, wE_str, wE_bool, wE_none, wE_name, wE_tuple, wE_list, wE_dict, wE_bin, wE_not, wE_neg, wE_cmp, wE_if, wE_call, wE_meth, wE_attr, wE_to, wE_from, wE_subC, wE_subN, wE_subB, wE_subU, wE_comp, wE_comp2, wT_not, wT_bool, wT_cmp, wT_name, wT_call, wT_sub, wTs_and0, wTs_or0, wTs_and, wTs_or, wEs_nil, wEs_cons, wS_asg, wS_asgT, wS_asgS, wS_asgA, wS_aug, wS_expr, wS_if, wS_while, wS_for, wS_ret, wS_cont, seq_next, seq_ret, seq_cont, ret_ret, ret_next, loop_next, loop_cont, loop_ret])
  refine ⟨small rfl, PQ, rfl, _, rfl, attr_put (O1.app _) (by rw [List.length_cons]; omega) fun O2 => ?_⟩
  have hcs : c + 1 < σ4.length := lt_of_get O1.b
  have hs2 : ((σ4 ++ [AO.list PQ]).set (c + 1) (.attrs ((Str.ofString "consts", AV.loc σ4.length) :: (Str.ofString "rows", AV.loc q) :: kvs)))[σ4.length]? = some (.list PQ) := get_set_ne (get_new _ _) (Nat.ne_of_lt hcs)
  have hq2 : RL ((σ4 ++ [AO.list PQ]).set (c + 1) (.attrs ((Str.ofString "consts", AV.loc σ4.length) :: (Str.ofString "rows", AV.loc q) :: kvs))) q rows := get_set_ne (get_app hq1) fun h => by
    rw [← h, RL, O1.b] at hq1; cases hq1
  have hr5 : RL ((σ4 ++ [AO.list PQ]).set (c + 1) (.attrs ((Str.ofString "consts", AV.loc σ4.length) :: (Str.ofString "rows", AV.loc q) :: kvs))) r rows := get_set_ne (get_app hr4) (Ne.symm hrl)
  generalize (σ4 ++ [AO.list PQ]).set (c + 1) (.attrs ((Str.ofString "consts", AV.loc σ4.length) :: (Str.ofString "rows", AV.loc q) :: kvs)) = σ5 at O2 hs2 hq2 hr5
  generalize σ4.length = cs at O2 hs2
  clear O1 hq1 hr4 hcs
  have cod : Cod σ5 c q (.loc cs) := ⟨_, _, O2, rfl, rfl, _, n4⟩
  (refine wB_cons ?_; dsimp only [wE_int, wE_str, wE_bool, wE_none, wE_name, wE_tuple, wE_list, wE_dict, wE_bin, wE_not, wE_neg, wE_cmp, wE_if, wE_call, wE_meth, wE_attr, wE_to, wE_from, wE_subC, wE_subN, wE_subB, wE_subU, wE_comp, wE_comp2, wT_not, wT_bool, wT_cmp, wT_name, wT_call, wT_sub, wTs_and0, wTs_or0, wTs_and, wTs_or, wEs_nil, wEs_cons, wS_asg, wS_asgT, wS_asgS, wS_asgA, wS_aug, wS_expr, wS_if, wS_while, wS_for, wS_ret, wS_cont, seq_next, seq_ret, seq_cont, ret_ret, ret_next, loop_next, loop_cont, loop_ret])
  exact ⟨_, rfl, c_optimise c q rows (.loc cs) cod hq2 hv (Nat.le_trans hL (by decide)) fun b fr found σ6 x6 cb rf fv ff fk fl _ => law_b C ⟨r, c, q, b, fr, cs, rows, found, ⟨rfl, rfl, rfl⟩, ⟨hr5.ext x6, hv, hL, ⟨_, cod.ext x6⟩, hq2.ext x6, cb, x6 _ _ hs2, rf, fv, ff, fk, Nat.le_trans fl hL⟩⟩⟩
end
end Mine

theorem PySem.Challenge.cw_nz0472_01_holds : PySem.Challenge.rw_nz0472_01.Holds :=
  Mine.head (Mine.link fun C _ => Mine.law_wp C)
