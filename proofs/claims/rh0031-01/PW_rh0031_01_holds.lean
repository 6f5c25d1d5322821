import PyProof.Rows.All
import Wide.All
import OpenK.AllK
import Wide.FinOn
import PySem.Challenge.RW_rh0031_01
open PySem PySem.W PySem.Calls PyProof.Rows
set_option Elab.async false
set_option linter.unusedSimpArgs false
set_option linter.unusedVariables false
section
namespace Mine

inductive V where
  | none | bool (b : Bool) | int (i : Int) | str (x : Str) | tup (l : List V) | base (l : List V) | loc (n : Nat)

inductive O where
  | list (l : List V)
  | dict (l : List (List Int × V)) (ep : Nat)

noncomputable abbrev MH := List O
noncomputable abbrev Rho := List (Str × V)

noncomputable def lim : Nat := 1000
theorem lim_le : lim ≤ sizeLine := by decide

mutual
noncomputable def VR (hb : Heap) (μ : List Addr) (h : Heap) : V → Value → Prop
  | .none, v => v = .none
  | .bool b, v => v = .bool b
  | .int i, v => ∃ t, v = .int i t
  | .str x, v => ∃ t, v = .str x t
  | .tup l, v => ∃ a vs n, v = .ref a ∧ IsT h a vs n ∧ l.length ≤ lim ∧ VRs hb μ h l vs.toList
  | .base l, v => ∃ a vs, v = .ref a ∧ hb.IsList a vs ∧ l.length ≤ lim ∧ VRs hb μ h l vs.toList
  | .loc n, v => ∃ a, v = .ref a ∧ μ[n]? = some a
noncomputable def VRs (hb : Heap) (μ : List Addr) (h : Heap) : List V → List Value → Prop
  | [], vs => vs = []
  | u :: l, vs => ∃ v r, vs = v :: r ∧ VR hb μ h u v ∧ VRs hb μ h l r
end

-- tuples stay, and what the base holds
noncomputable def TKeep (h h' : Heap) : Prop := ∀ a vs n, IsT h a vs n → IsT h' a vs n

mutual
theorem VR.mono {hb : Heap} {μ μ' : List Addr} {h h' : Heap} (hk : TKeep h h') (hm : μ <+: μ') : ∀ {u : V} {v : Value}, VR hb μ h u v → VR hb μ' h' u v
  | .none, _, x => x
  | .bool _, _, x => x
  | .int _, _, x => x
  | .str _, _, x => x
  | .tup _, _, x => by
    rw [VR] at x ⊢
    obtain ⟨a, vs, n, e, t, hl, r⟩ := x
    exact ⟨a, vs, n, e, hk _ _ _ t, hl, VRs.mono hk hm r⟩
  | .base _, _, x => by
    rw [VR] at x ⊢
    obtain ⟨a, vs, e, t, hl, r⟩ := x
    exact ⟨a, vs, e, t, hl, VRs.mono hk hm r⟩
  | .loc n, _, x => by
    rw [VR] at x ⊢
    obtain ⟨a, e, t⟩ := x
    refine ⟨a, e, ?_⟩
    obtain ⟨r, rfl⟩ := hm
    rw [List.getElem?_append_left]
    · exact t
    · exact (List.getElem?_eq_some_iff.mp t).1
theorem VRs.mono {hb : Heap} {μ μ' : List Addr} {h h' : Heap} (hk : TKeep h h') (hm : μ <+: μ') : ∀ {l : List V} {vs : List Value}, VRs hb μ h l vs → VRs hb μ' h' l vs
  | [], _, x => x
  | _ :: _, _, x => by
    rw [VRs] at x ⊢
    obtain ⟨v, r, e, a, b⟩ := x
    exact ⟨v, r, e, VR.mono hk hm a, VRs.mono hk hm b⟩
end

theorem VRs.length {hb : Heap} {μ : List Addr} {h : Heap} : ∀ {l : List V} {vs : List Value}, VRs hb μ h l vs → vs.length = l.length
  | [], _, x => by rw [VRs] at x; subst x; rfl
  | _ :: _, _, x => by
    rw [VRs] at x
    obtain ⟨v, r, rfl, _, b⟩ := x
    simp [VRs.length b]
theorem VRs.get {hb : Heap} {μ : List Addr} {h : Heap} : ∀ {l : List V} {vs : List Value}, VRs hb μ h l vs → ∀ {i : Nat} {u : V}, l[i]? = some u → ∃ v, vs[i]? = some v ∧ VR hb μ h u v
  | [], _, _, i, u, e => by simp at e
  | _ :: _, _, x, i, u, e => by
    rw [VRs] at x
    obtain ⟨v, r, rfl, a, b⟩ := x
    cases i with
    | zero => simp at e; subst e; exact ⟨v, by simp, a⟩
    | succ i => simp at e; obtain ⟨w, hw, y⟩ := VRs.get b e; exact ⟨w, by simpa using hw, y⟩
theorem VRs.append {hb : Heap} {μ : List Addr} {h : Heap} : ∀ {l : List V} {vs : List Value} {l' : List V} {vs' : List Value}, VRs hb μ h l vs → VRs hb μ h l' vs' → VRs hb μ h (l ++ l') (vs ++ vs')
  | [], _, _, _, x, y => by rw [VRs] at x; subst x; exact y
  | _ :: _, _, _, _, x, y => by
    rw [VRs] at x
    obtain ⟨v, r, rfl, a, b⟩ := x
    rw [List.cons_append, List.cons_append, VRs]
    exact ⟨v, _, rfl, a, VRs.append b y⟩
theorem VRs.take {hb : Heap} {μ : List Addr} {h : Heap} : ∀ {l : List V} {vs : List Value} (k : Nat), VRs hb μ h l vs → VRs hb μ h (l.take k) (vs.take k)
  | _, _, 0, _ => by simp [VRs]
  | [], _, k + 1, x => by rw [VRs] at x; subst x; simp [VRs]
  | _ :: _, _, k + 1, x => by
    rw [VRs] at x
    obtain ⟨v, r, rfl, a, b⟩ := x
    rw [List.take_succ_cons, List.take_succ_cons, VRs]
    exact ⟨v, _, rfl, a, VRs.take k b⟩
theorem VRs.drop {hb : Heap} {μ : List Addr} {h : Heap} : ∀ {l : List V} {vs : List Value} (k : Nat), VRs hb μ h l vs → VRs hb μ h (l.drop k) (vs.drop k)
  | _, _, 0, x => by simpa using x
  | [], _, k + 1, x => by rw [VRs] at x; subst x; simp [VRs]
  | _ :: _, _, k + 1, x => by
    rw [VRs] at x
    obtain ⟨v, r, rfl, a, b⟩ := x
    simpa using VRs.drop k b
theorem VRs.one {hb : Heap} {μ : List Addr} {h : Heap} {u : V} {v : Value} (x : VR hb μ h u v) : VRs hb μ h [u] [v] := by
  rw [VRs]; exact ⟨v, [], rfl, x, by rw [VRs]⟩
theorem VRs.nil {hb : Heap} {μ : List Addr} {h : Heap} : VRs hb μ h [] [] := by rw [VRs]
theorem VRs.cons {hb : Heap} {μ : List Addr} {h : Heap} {u : V} {v : Value} {l : List V} {vs : List Value} (x : VR hb μ h u v) (y : VRs hb μ h l vs) : VRs hb μ h (u :: l) (v :: vs) := by
  rw [VRs]; exact ⟨v, vs, rfl, x, y⟩
theorem VRs.set {hb : Heap} {μ : List Addr} {h : Heap} : ∀ {l : List V} {vs : List Value} (k : Nat) {u : V} {v : Value}, VRs hb μ h l vs → VR hb μ h u v → VRs hb μ h (l.set k u) (vs.set k v)
  | [], _, _, _, _, x, _ => by rw [VRs] at x; subst x; simp [VRs]
  | _ :: _, _, 0, _, _, x, y => by
    rw [VRs] at x
    obtain ⟨v, r, rfl, a, b⟩ := x
    exact VRs.cons y b
  | _ :: _, _, k + 1, _, _, x, y => by
    rw [VRs] at x
    obtain ⟨v, r, rfl, a, b⟩ := x
    exact VRs.cons a (VRs.set k b y)


theorem vInt {hb : Heap} {μ : List Addr} {h : Heap} {i : Int} {t : Tok} : VR hb μ h (.int i) (.int i t) := by rw [VR]; exact ⟨_, rfl⟩
theorem vStr {hb : Heap} {μ : List Addr} {h : Heap} {x : Str} {t : Tok} : VR hb μ h (.str x) (.str x t) := by rw [VR]; exact ⟨_, rfl⟩
theorem vBool {hb : Heap} {μ : List Addr} {h : Heap} {b : Bool} : VR hb μ h (.bool b) (.bool b) := by rw [VR]
theorem vNone {hb : Heap} {μ : List Addr} {h : Heap} : VR hb μ h .none .none := by rw [VR]

structure Gh where
  prog : Program
  w : World
  hb : Heap
  mg : Str → Option Value
  mb : Str → Option Value

noncomputable abbrev Gh.M (G : Gh) : Model := model G.prog G.w
noncomputable abbrev Gh.tk (G : Gh) : HeapKind G.prog G.w (List Int) := tupleKind (intKind G.prog G.w)

section
variable (G : Gh)

noncomputable def ER (μ : List Addr) (h : Heap) : List (List Int × V) → List (List Int × Addr × Value) → Prop
  | [], xs => xs = []
  | e :: l, xs => ∃ a v r, xs = (e.1, a, v) :: r ∧ VR G.hb μ h e.2 v ∧ ER μ h l r

-- a tuple of ints, as a key
noncomputable def KeyAt (h : Heap) (ks : List Int) (a : Addr) : Prop := ∃ vs n, IsT h a vs n ∧ ks.length ≤ lim ∧ ItemsAre (intKind G.prog G.w) ks vs.toList
variable {G} in
theorem KeyAt.key {h : Heap} {ks : List Int} {a : Addr} (x : KeyAt G h ks a) : IsTupleKey (intKind G.prog G.w) h ks a := let ⟨vs, n, t, _, i⟩ := x; ⟨_, vs, n, t, rfl, rfl, i⟩
-- a dict with its epoch
noncomputable def DictE (h : Heap) (a : Addr) (xs : List (List Int × Addr × Value)) (ep : Nat) : Prop :=
  ∃ o es, h.get? a = some o ∧ o.ExactDict ∧ o.data = .dict es ep ∧ es.toList = xs.map (entryOfKey G.tk) ∧ (∀ x ∈ xs, KeyAt G h x.1 x.2.1) ∧ (xs.map (·.1)).Nodup
variable {G} in
theorem DictE.dict {h : Heap} {a : Addr} {xs : List (List Int × Addr × Value)} {ep : Nat} (x : DictE G h a xs ep) : h.DictOfH G.tk a xs :=
  let ⟨o, es, ho, hd, hdat, he, hi, hn⟩ := x; ⟨o, es, ep, ho, hd, hdat, he, fun y hy => (hi y hy).key, hn⟩

noncomputable def OR (μ : List Addr) (h : Heap) : O → Addr → Prop
  | .list l, a => ∃ vs n, IsL h a vs n ∧ l.length ≤ lim ∧ VRs G.hb μ h l vs.toList
  | .dict es ep, a => ∃ xs, DictE G h a xs ep ∧ es.length ≤ lim ∧ ER G μ h es xs

structure HRel (H : MH) (μ : List Addr) (h : Heap) : Prop where
  base : ∀ (a : Addr) (o : Obj), G.hb.get? a = some o → h.get? a = some o
  len : μ.length = H.length
  nodup : μ.Nodup
  new : ∀ a ∈ μ, G.hb.get? a = none ∧ (a == sysModules) = false
  obj : ∀ (n : Nat) (o : O), H[n]? = some o → ∃ a, μ[n]? = some a ∧ OR G μ h o a
  low : ∃ o, G.hb.get? cStatics = some o

-- from s to s': what is no mini object stays
structure Ext (μ : List Addr) (s : Shared) (μ' : List Addr) (s' : Shared) : Prop where
  same : ∃ h tk, s' = { s with heap := h, toks := tk }
  pre : μ <+: μ'
  new : ∀ a ∈ μ', a ∈ μ ∨ s.heap.get? a = none
  keep : ∀ a o, s.heap.get? a = some o → a ∉ μ → s'.heap.get? a = some o

theorem Ext.refl (μ : List Addr) (s : Shared) : Ext μ s μ s := ⟨⟨s.heap, s.toks, rfl⟩, List.prefix_refl _, fun _ h => .inl h, fun _ _ e _ => e⟩
theorem Ext.tok (μ : List Addr) (s : Shared) (n : Nat) : Ext μ s μ { s with toks := n } := ⟨⟨s.heap, n, rfl⟩, List.prefix_refl _, fun _ h => .inl h, fun _ _ e _ => e⟩
theorem Ext.trans {μ₁ μ₂ μ₃ : List Addr} {s₁ s₂ s₃ : Shared} (x : Ext μ₁ s₁ μ₂ s₂) (y : Ext μ₂ s₂ μ₃ s₃) : Ext μ₁ s₁ μ₃ s₃ := by
  refine ⟨?_, x.pre.trans y.pre, fun a ha => ?_, fun a o e n => ?_⟩
  · obtain ⟨h, t, rfl⟩ := x.same
    obtain ⟨h', t', rfl⟩ := y.same
    exact ⟨h', t', rfl⟩
  · rcases y.new a ha with h | h
    · exact x.new a h
    · cases q : s₁.heap.get? a with
      | none => exact .inr rfl
      | some o =>
        by_cases m : a ∈ μ₁
        · exact .inl m
        · rw [x.keep a o q m] at h; cases h
  · refine y.keep a o (x.keep a o e n) fun m => ?_
    rcases x.new a m with h | h
    · exact n h
    · rw [e] at h; cases h

variable {G}
theorem OR.noTuple {μ : List Addr} {h : Heap} {o : O} {a : Addr} (x : OR G μ h o a) {vs : Array Value} {n : Nat} (t : IsT h a vs n) : False := by
  cases o with
  | list l =>
    obtain ⟨us, k, e, _⟩ := x
    rw [IsL, t] at e
    injection e with e; injection e with e; injection e with e; exact absurd e (by decide)
  | dict l ep =>
    obtain ⟨xs, ⟨o, es, e, hd, _⟩, _⟩ := x
    rw [t] at e
    injection e with e; subst e
    have := hd.1
    injection this with e; exact absurd e (by decide)
theorem HRel.at {H : MH} {μ : List Addr} {h : Heap} (R : HRel G H μ h) {a : Addr} (ha : a ∈ μ) : ∃ (n : Nat) (o : O), H[n]? = some o ∧ μ[n]? = some a ∧ OR G μ h o a := by
  obtain ⟨n, hn⟩ := List.getElem?_of_mem ha
  have hl := (List.getElem?_eq_some_iff.mp hn).1
  rw [R.len] at hl
  obtain ⟨b, hb, ho⟩ := R.obj n H[n] (by simp [hl])
  rw [hn] at hb; cases hb
  exact ⟨n, H[n], by simp [hl], hn, ho⟩
theorem HRel.notTuple {H : MH} {μ : List Addr} {h : Heap} (R : HRel G H μ h) {a : Addr} {vs : Array Value} {n : Nat} (t : IsT h a vs n) : a ∉ μ := fun ha => by
  obtain ⟨n, o, _, _, x⟩ := R.at ha
  exact x.noTuple t
theorem Ext.tkeep {H : MH} {μ μ' : List Addr} {s s' : Shared} (X : Ext μ s μ' s') (R : HRel G H μ s.heap) : TKeep s.heap s'.heap :=
  fun _ _ _ t => X.keep _ _ t (R.notTuple t)
theorem Ext.vr {H : MH} {μ μ' : List Addr} {s s' : Shared} (X : Ext μ s μ' s') (R : HRel G H μ s.heap) {u : V} {v : Value} (x : VR G.hb μ s.heap u v) : VR G.hb μ' s'.heap u v := VR.mono (X.tkeep R) X.pre x
theorem Ext.vrs {H : MH} {μ μ' : List Addr} {s s' : Shared} (X : Ext μ s μ' s') (R : HRel G H μ s.heap) {u : List V} {v : List Value} (x : VRs G.hb μ s.heap u v) : VRs G.hb μ' s'.heap u v := VRs.mono (X.tkeep R) X.pre x
theorem HRel.lowA {H : MH} {μ : List Addr} {h : Heap} (R : HRel G H μ h) : (h.objs.size == sysModules) = false := by
  obtain ⟨o, e⟩ := R.low
  have : (2 : Nat) < h.objs.size := Heap.lt_size (R.base _ _ e)
  simp only [sysModules, beq_eq_false_iff_ne, ne_eq]
  intro q
  have q' : h.objs.size = (1 : Nat) := q
  (first | lia | omega)
theorem ER.mono {μ μ' : List Addr} {h h' : Heap} (hk : TKeep h h') (hm : μ <+: μ') : ∀ {l : List (List Int × V)} {xs}, ER G μ h l xs → ER G μ' h' l xs
  | [], _, x => x
  | _ :: _, _, x => by
    obtain ⟨a, v, r, e, p, q⟩ := x
    exact ⟨a, v, r, e, VR.mono hk hm p, ER.mono hk hm q⟩
theorem ER.length {μ : List Addr} {h : Heap} : ∀ {l : List (List Int × V)} {xs}, ER G μ h l xs → xs.length = l.length
  | [], _, x => by rw [ER] at x; subst x; rfl
  | _ :: _, _, x => by
    obtain ⟨a, v, r, rfl, p, q⟩ := x
    simp [ER.length q]
theorem ER.keys {μ : List Addr} {h : Heap} : ∀ {l : List (List Int × V)} {xs}, ER G μ h l xs → xs.map (·.1) = l.map (·.1)
  | [], _, x => by rw [ER] at x; subst x; rfl
  | _ :: _, _, x => by
    obtain ⟨a, v, r, rfl, p, q⟩ := x
    simp [ER.keys q]

theorem DictE.keep {h h' : Heap} {d : Addr} {xs : List (List Int × Addr × Value)} {ep : Nat} (x : DictE G h d xs ep) (hk : ∀ o, h.get? d = some o → h'.get? d = some o) (ht : TKeep h h') : DictE G h' d xs ep := by
  obtain ⟨o, es, ho, hd, hdat, he, hi, hn⟩ := x
  refine ⟨o, es, hk _ ho, hd, hdat, he, fun y hy => ?_, hn⟩
  obtain ⟨vs, n, t, r⟩ := hi y hy
  exact ⟨vs, n, ht _ _ _ t, r⟩
theorem items_of {μ : List Addr} {hb h : Heap} : ∀ {ks : List Int} {vs : List Value}, VRs hb μ h (ks.map .int) vs → ItemsAre (intKind G.prog G.w) ks vs
  | [], _, x => by rw [List.map_nil, VRs] at x; subst x; exact .nil
  | k :: ks, _, x => by
    rw [List.map_cons, VRs] at x
    obtain ⟨v, r, rfl, a, b⟩ := x
    rw [VR] at a
    obtain ⟨t, rfl⟩ := a
    exact .cons (intKind_is _ _ _ _) (items_of b)
theorem of_items {μ : List Addr} {hb h : Heap} : ∀ {ks : List Int} {vs : List Value}, ItemsAre (intKind G.prog G.w) ks vs → VRs hb μ h (ks.map .int) vs
  | [], _, x => by cases x; rw [List.map_nil, VRs]
  | k :: ks, _, x => by
    cases x with
    | @cons _ v _ vs h1 h2 =>
      rw [List.map_cons, VRs]
      refine ⟨v, vs, rfl, ?_, of_items h2⟩
      rw [VR]
      cases v with
      | int i t =>
        have : i = k := by simpa [intKind, Value.isInt] using h1
        exact ⟨t, by rw [this]⟩
      | _ => simp [intKind, Value.isInt] at h1
theorem KeyAt.vr {μ : List Addr} {hb h : Heap} {ks : List Int} {a : Addr} (x : KeyAt G h ks a) : VR hb μ h (.tup (ks.map .int)) (.ref a) := by
  obtain ⟨vs, n, t, hl, i⟩ := x
  rw [VR]
  exact ⟨a, vs, n, rfl, t, by simpa using hl, of_items i⟩
theorem VR.key {μ : List Addr} {hb h : Heap} {ks : List Int} {v : Value} (x : VR hb μ h (.tup (ks.map .int)) v) : ∃ a, v = .ref a ∧ KeyAt G h ks a := by
  rw [VR] at x
  obtain ⟨a, vs, n, rfl, t, hl, i⟩ := x
  exact ⟨a, rfl, vs, n, t, by simpa using hl, items_of i⟩
end

structure EnvRel (G : Gh) (env : Env) (ρ : Rho) (μ : List Addr) (h : Heap) : Prop where
  kind : env.scope.kind = .function
  glob : env.globals = mainGlobals
  bui : env.builtins = builtinsNs
  ns : ∃ m, h.Ns env.locals m ∧ ∀ x u, ρ.lookup x = some u → env.kindOf x = some .local → ∃ v, m x = some v ∧ VR G.hb μ h u v
  cell : ∀ x u, ρ.lookup x = some u → (env.kindOf x = some .cell ∨ env.kindOf x = some .free) → ∃ c v, env.cells.lookup x = some c ∧ h.IsCell c (some v) ∧ VR G.hb μ h u v
  cells : ∀ x c, env.cells.lookup x = some c → (∃ ov, h.IsCell c ov) ∧ G.hb.get? c = none
  has : ∀ x, env.kindOf x = some .cell ∨ env.kindOf x = some .free → (env.cells.lookup x).isSome = true
  lnew : G.hb.get? env.locals = none
  lout : env.locals ∉ μ
  apart : ∀ x y c, env.cells.lookup x = some c → env.cells.lookup y = some c → x = y

noncomputable def AOk (k : Nat) (A : Around) : Prop := A.handled = none ∧ A.depth + k ≤ 600 ∧ A.units + 20 * k ≤ 5000
theorem AOk.in1 {k : Nat} {A : Around} (h : AOk (k + 1) A) : AOk k A.in1 := ⟨h.1, by have := h.2.1; simp only [Around.in1_depth]; (first | lia | omega), by have := h.2.2; simp only [Around.in1_units]; (first | lia | omega)⟩
theorem AOk.mono {k k' : Nat} {A : Around} (h : AOk k A) (hk : k' ≤ k) : AOk k' A := ⟨h.1, by have := h.2.1; (first | lia | omega), by have := h.2.2; (first | lia | omega)⟩
theorem AOk.deeper {k : Nat} {A : Around} (h : AOk (k + 1) A) (env : Env) : AOk k (A.deeper env) := ⟨h.1, by have := h.2.1; simp only [Around.deeper]; (first | lia | omega), by have := h.2.2; simp only [Around.deeper]; (first | lia | omega)⟩
theorem AOk.units {k : Nat} {A : Around} (h : AOk k A) : A.units < cLine := by have := h.2.2; simp only [cLine]; (first | lia | omega)
theorem AOk.units1 {k : Nat} {A : Around} (h : AOk k A) : A.units + 1 < cLine := by have := h.2.2; simp only [cLine]; (first | lia | omega)
theorem AOk.room {k : Nat} {A : Around} (h : AOk k A) : A.depth < recursionLimit := by have := h.2.1; simp only [recursionLimit]; (first | lia | omega)

section
variable (G : Gh)

-- what a value's tree hands on
noncomputable def Ret (μ : List Addr) (s : Shared) (Q : V → MH → Prop) : Value → Shared → Prop :=
  fun v s' => ∃ u H' μ', Ext μ s μ' s' ∧ HRel G H' μ' s'.heap ∧ VR G.hb μ' s'.heap u v ∧ Q u H'

variable {G}
theorem Ret.up {μ μ₁ : List Addr} {s s₁ : Shared} {Q : V → MH → Prop} (X : Ext μ s μ₁ s₁) : ∀ v s', Ret G μ₁ s₁ Q v s' → Ret G μ s Q v s' :=
  fun _ _ ⟨u, H', μ', X', R, x, q⟩ => ⟨u, H', μ', X.trans X', R, x, q⟩
theorem Ret.here {μ : List Addr} {s : Shared} {H : MH} {Q : V → MH → Prop} {u : V} {v : Value} (R : HRel G H μ s.heap) (x : VR G.hb μ s.heap u v) (q : Q u H) : Ret G μ s Q v s := ⟨u, H, μ, Ext.refl _ _, R, x, q⟩
theorem Ret.tok {μ : List Addr} {s : Shared} {H : MH} {Q : V → MH → Prop} {u : V} {v : Value} (n : Nat) (R : HRel G H μ s.heap) (x : VR G.hb μ s.heap u v) (q : Q u H) : Ret G μ s Q v { s with toks := n } := ⟨u, H, μ, Ext.tok _ _ _, R, x, q⟩
theorem wpRet {α : Type} {A : Around} {E : Value → Shared → Prop} {t : Sem Value} {f : Value → Sem α} {P : α → Shared → Prop} {μ : List Addr} {s : Shared} {Q : V → MH → Prop}
    (h : wpAny G.M A t (Ret G μ s Q) E s) (k : ∀ u H' μ' v s', Ext μ s μ' s' → HRel G H' μ' s'.heap → VR G.hb μ' s'.heap u v → Q u H' → wpAny G.M A (f v) P E s') :
    wpAny G.M A t (fun v s' => wpAny G.M A (f v) P E s') E s :=
  wpAny_mono h (fun v s' ⟨u, H', μ', X, R, x, q⟩ => k u H' μ' v s' X R x q) fun _ _ e => e

theorem EnvRel.ext {env : Env} {ρ : Rho} {H : MH} {μ μ' : List Addr} {s s' : Shared} (V : EnvRel G env ρ μ s.heap) (X : Ext μ s μ' s') (R : HRel G H μ s.heap) : EnvRel G env ρ μ' s'.heap := by
  obtain ⟨m, hn, hm⟩ := V.ns
  have cellOut : ∀ {c : Addr} {ov : Option Value}, s.heap.IsCell c ov → c ∉ μ := fun {c ov} hc hcm => by
    obtain ⟨n, o, _, _, x⟩ := R.at hcm
    obtain ⟨oc, e, hd⟩ := hc
    cases o with
    | list l => obtain ⟨us, k, e', _⟩ := x; rw [e'] at e; cases e; cases hd
    | dict l ep => obtain ⟨xs, ⟨o', es, e', _, hdd, _⟩, _⟩ := x; rw [e'] at e; cases e; rw [hdd] at hd; cases hd
  have cellKeep : ∀ {c : Addr} {ov : Option Value}, s.heap.IsCell c ov → s'.heap.IsCell c ov := fun {c ov} hc => by
    have := cellOut hc
    obtain ⟨oc, e, hd⟩ := hc
    exact ⟨oc, X.keep _ _ e this, hd⟩
  refine ⟨V.kind, V.glob, V.bui, ⟨m, hn.at' fun o e => X.keep _ _ e V.lout, fun x u hu hk => ?_⟩, fun x u hu hk => ?_, fun x c hx => ?_, V.has, V.lnew, fun hl => ?_, V.apart⟩
  · obtain ⟨v, a, b⟩ := hm x u hu hk
    exact ⟨v, a, X.vr R b⟩
  · obtain ⟨c, v, a, b, d⟩ := V.cell x u hu hk
    exact ⟨c, v, a, cellKeep b, X.vr R d⟩
  · obtain ⟨⟨ov, a⟩, b⟩ := V.cells x c hx
    exact ⟨⟨ov, cellKeep a⟩, b⟩
  · rcases X.new _ hl with q | q
    · exact V.lout q
    · obtain ⟨o, _, _, e, _⟩ := hn
      rw [e] at q; cases q

-- an expression's triple
noncomputable def TE (G : Gh) (k : Nat) (sc : Scope) (e : Expr) (ρ : Rho) (H : MH) (Q : V → MH → Prop) : Prop :=
  ∀ (env : Env) (A : Around) (E : Value → Shared → Prop) (s : Shared) (μ : List Addr), env.scope = sc → AOk k A → EnvRel G env ρ μ s.heap → HRel G H μ s.heap → wpAny G.M A (eval e env) (Ret G μ s Q) E s

noncomputable def RetB (G : Gh) (μ : List Addr) (s : Shared) (Q : Bool → MH → Prop) : Bool → Shared → Prop :=
  fun b s' => ∃ H' μ', Ext μ s μ' s' ∧ HRel G H' μ' s'.heap ∧ Q b H'
-- a test's triple
noncomputable def TB (G : Gh) (k : Nat) (sc : Scope) (e : Expr) (ρ : Rho) (H : MH) (Q : Bool → MH → Prop) : Prop :=
  ∀ (env : Env) (A : Around) (E : Value → Shared → Prop) (s : Shared) (μ : List Addr), env.scope = sc → AOk k A → EnvRel G env ρ μ s.heap → HRel G H μ s.heap → wpAny G.M A (isTrue e env (eval e env)) (RetB G μ s Q) E s
end
end Mine

end

section
namespace Mine
section
variable {G : Gh} {k : Nat} {sc : Scope} {ρ : Rho} {H : MH} {Q : V → MH → Prop}

theorem TE.mono {e : Expr} {Q' : V → MH → Prop} (h : TE G k sc e ρ H Q) (hq : ∀ u H', Q u H' → Q' u H') : TE G k sc e ρ H Q' :=
  fun env A E s μ hs hA V R => wpAny_mono (h env A E s μ hs hA V R) (fun v s' ⟨u, H', μ', X, R', x, q⟩ => ⟨u, H', μ', X, R', x, hq _ _ q⟩) fun _ _ e => e

theorem TE_int {i : Int} {kk pos} (h : Q (.int i) H) : TE G k sc (.Constant (.int i) kk pos) ρ H Q :=
  fun env A E s μ hs hA V R => wpAny_Constant_int (Ret.tok _ R vInt h)
theorem TE_str {x : Str} {kk pos} (h : Q (.str x) H) : TE G k sc (.Constant (.str x) kk pos) ρ H Q :=
  fun env A E s μ hs hA V R => wpAny_Constant_str (Ret.tok _ R vStr h)
theorem TE_none {kk pos} (h : Q .none H) : TE G k sc (.Constant .none kk pos) ρ H Q :=
  fun env A E s μ hs hA V R => wpAny_Constant_none (Ret.here R vNone h)
theorem TE_bool {b : Bool} {kk pos} (h : Q (.bool b) H) : TE G k sc (.Constant (.bool b) kk pos) ρ H Q :=
  fun env A E s μ hs hA V R => wpAny_Constant_bool (Ret.here R vBool h)

theorem TE_local {x : Str} {pos : Pos} {u : V} (hl : ρ.lookup x = some u) (h : Q u H) (hk : sc.names.lookup x = some .local) (hd : (x == ("__debug__" : Str)) = false := by decide +kernel) :
    TE G k sc (.Name x pos) ρ H Q := by
  intro env A E s μ hs hA V R
  subst hs
  obtain ⟨m, hn, hm⟩ := V.ns
  obtain ⟨v, a, b⟩ := hm x u hl hk
  exact wpAny_Name (wpAny_loadName_local V.kind hk hn a (Ret.here R b h)) hd
theorem TE_cell {x : Str} {pos : Pos} {u : V} (hl : ρ.lookup x = some u) (h : Q u H) (hk : sc.names.lookup x = some .cell) (hd : (x == ("__debug__" : Str)) = false := by decide +kernel) :
    TE G k sc (.Name x pos) ρ H Q := by
  intro env A E s μ hs hA V R
  subst hs
  obtain ⟨c, v, a, b, d⟩ := V.cell x u hl (.inl hk)
  exact wpAny_Name (wpAny_loadName_cell V.kind hk a b (Ret.here R d h)) hd
theorem TE_free {x : Str} {pos : Pos} {u : V} (hl : ρ.lookup x = some u) (h : Q u H) (hk : sc.names.lookup x = some .free) (hd : (x == ("__debug__" : Str)) = false := by decide +kernel)
    (hc : (x == ("__classdict__" : Str)) = false := by decide +kernel) : TE G k sc (.Name x pos) ρ H Q := by
  intro env A E s μ hs hA V R
  subst hs
  obtain ⟨c, v, a, b, d⟩ := V.cell x u hl (.inr hk)
  exact wpAny_Name (wpAny_loadName_free V.kind hk a b (Ret.here R d h) hc) hd

-- an operation on two values
noncomputable def PBin (G : Gh) (k : Nat) (f : Value → Value → Sem Value) (a b : V) (H : MH) (Q : V → MH → Prop) : Prop :=
  ∀ (A : Around) (E : Value → Shared → Prop) (s : Shared) (μ : List Addr) (v1 v2 : Value), AOk k A → HRel G H μ s.heap → VR G.hb μ s.heap a v1 → VR G.hb μ s.heap b v2 → wpAny G.M A (f v1 v2) (Ret G μ s Q) E s
noncomputable def PUn (G : Gh) (k : Nat) (f : Value → Sem Value) (a : V) (H : MH) (Q : V → MH → Prop) : Prop :=
  ∀ (A : Around) (E : Value → Shared → Prop) (s : Shared) (μ : List Addr) (v1 : Value), AOk k A → HRel G H μ s.heap → VR G.hb μ s.heap a v1 → wpAny G.M A (f v1) (Ret G μ s Q) E s
noncomputable def PTru (G : Gh) (k : Nat) (a : V) (H : MH) (Q : Bool → MH → Prop) : Prop :=
  ∀ (A : Around) (E : Value → Shared → Prop) (s : Shared) (μ : List Addr) (v1 : Value), AOk k A → HRel G H μ s.heap → VR G.hb μ s.heap a v1 → wpAny G.M A (truthy v1) (RetB G μ s Q) E s

theorem RetB.up {μ μ₁ : List Addr} {s s₁ : Shared} {Q : Bool → MH → Prop} (X : Ext μ s μ₁ s₁) : ∀ v s', RetB G μ₁ s₁ Q v s' → RetB G μ s Q v s' :=
  fun _ _ ⟨H', μ', X', R, q⟩ => ⟨H', μ', X.trans X', R, q⟩

-- two expressions, one behind the other
theorem two {α : Type} {l r : Expr} {P : α → Shared → Prop} {f : Value → Value → Sem α} {env : Env} {A : Around} {E : Value → Shared → Prop} {s : Shared} {μ : List Addr} {Qm : V → V → MH → Prop}
    (hs : env.scope = sc) (hA : AOk k A) (V : EnvRel G env ρ μ s.heap) (R : HRel G H μ s.heap)
    (h : TE G k sc l ρ H fun a H₁ => TE G k sc r ρ H₁ fun b H₂ => Qm a b H₂)
    (fin : ∀ a b H' μ' v1 v2 s', Ext μ s μ' s' → HRel G H' μ' s'.heap → VR G.hb μ' s'.heap a v1 → VR G.hb μ' s'.heap b v2 → Qm a b H' → EnvRel G env ρ μ' s'.heap → wpAny G.M A (f v1 v2) P E s') :
    wpAny G.M A (eval l env) (fun v1 s₁ => wpAny G.M A (eval r env) (fun v2 s₂ => wpAny G.M A (f v1 v2) P E s₂) E s₁) E s := by
  refine wpAny_mono (h env A E s μ hs hA V R) ?_ fun _ _ e => e
  rintro v1 s₁ ⟨a, H₁, μ₁, X₁, R₁, x₁, q₁⟩
  have V₁ := V.ext X₁ R
  refine wpAny_mono (q₁ env A E s₁ μ₁ hs hA V₁ R₁) ?_ fun _ _ e => e
  rintro v2 s₂ ⟨b, H₂, μ₂, X₂, R₂, x₂, q₂⟩
  exact fin a b H₂ μ₂ v1 v2 s₂ (X₁.trans X₂) R₂ (X₂.vr R₁ x₁) x₂ q₂ (V₁.ext X₂ R₁)

theorem TE_BinOp {l r : Expr} {op : Operator} {pos : Pos} (h : TE G k sc l ρ H fun a H₁ => TE G k sc r ρ H₁ fun b H₂ => PBin G k (binaryOp op) a b H₂ Q) : TE G k sc (.BinOp l op r pos) ρ H Q :=
  fun env A E s μ hs hA V R => wpAny_BinOp (two (Qm := fun a b H₂ => PBin G k (binaryOp op) a b H₂ Q) hs hA V R h fun a b H' μ' v1 v2 s' X R' x1 x2 q _ => wpAny_mono (q A E s' μ' v1 v2 hA R' x1 x2) (fun v s'' => Ret.up X v s'') fun _ _ e => e)
theorem TE_Cmp {l r : Expr} {op : CmpOp} {pos : Pos} (h : TE G k sc l ρ H fun a H₁ => TE G k sc r ρ H₁ fun b H₂ => PBin G k (compareOp op) a b H₂ Q) (hm : behindInMarks op r = false := by with_unfolding_all rfl) :
    TE G k sc (.Compare l [op] [r] pos) ρ H Q :=
  fun env A E s μ hs hA V R => wpAny_Compare1 (two (Qm := fun a b H₂ => PBin G k (compareOp op) a b H₂ Q) hs hA V R h fun a b H' μ' v1 v2 s' X R' x1 x2 q _ => wpAny_mono (q A E s' μ' v1 v2 hA R' x1 x2) (fun v s'' => Ret.up X v s'') fun _ _ e => e) hm
theorem TB_Cmp {l r : Expr} {op : CmpOp} {pos : Pos} {Q : Bool → MH → Prop} (h : TE G k sc l ρ H fun a H₁ => TE G k sc r ρ H₁ fun b H₂ => PBin G k (compareOp op) a b H₂ fun u H₃ => ∃ t, u = .bool t ∧ Q t H₃)
    (hm : behindInMarks op r = false := by with_unfolding_all rfl) : TB G k sc (.Compare l [op] [r] pos) ρ H Q := by
  intro env A E s μ hs hA V R
  refine wpAny_isTrue_Compare1 (two (Qm := fun a b H₂ => PBin G k (compareOp op) a b H₂ fun u H₃ => ∃ t, u = .bool t ∧ Q t H₃) (f := fun v1 v2 => compareOp op v1 v2) hs hA V R h fun a b H' μ' v1 v2 s' X R' x1 x2 q _ => wpAny_mono (q A E s' μ' v1 v2 hA R' x1 x2) (fun v s'' hr => ?_) fun _ _ e => e) hm
  obtain ⟨u, H'', μ'', X', R'', x, t, rfl, q'⟩ := hr
  rw [VR] at x; subst x
  exact wpAny_truthy_bool ⟨H'', μ'', X.trans X', R'', q'⟩

theorem TE_IfExp {t b o : Expr} {pos : Pos} (h : TB G k sc t ρ H fun c H₁ => if c then TE G k sc b ρ H₁ Q else TE G k sc o ρ H₁ Q) : TE G k sc (.IfExp t b o pos) ρ H Q := by
  intro env A E s μ hs hA V R
  refine wpAny_IfExp (wpAny_mono (h env A E s μ hs hA V R) ?_ fun _ _ e => e)
  rintro c s₁ ⟨H₁, μ₁, X, R₁, q⟩
  have V₁ := V.ext X R
  cases c with
  | true => exact wpAny_mono (q env A E s₁ μ₁ hs hA V₁ R₁) (fun v s'' => Ret.up X v s'') fun _ _ e => e
  | false => exact wpAny_mono (q env A E s₁ μ₁ hs hA V₁ R₁) (fun v s'' => Ret.up X v s'') fun _ _ e => e
-- a test that is a plain value
theorem TB_val {e : Expr} {Q : Bool → MH → Prop} (h : TE G k sc e ρ H fun u H₁ => PTru G k u H₁ Q) (he : ∀ env whole, isTrue e env whole = (do let v ← whole; standAt e.pos; holding [v] (truthy v)) := by intro _ _; rfl) : TB G k sc e ρ H Q := by
  intro env A E s μ hs hA V R
  refine wpAny_isTrue_value (wpAny_mono (h env A E s μ hs hA V R) ?_ fun _ _ e => e) (he _ _)
  rintro v s₁ ⟨u, H₁, μ₁, X, R₁, x, q⟩
  exact wpAny_mono (q A E s₁ μ₁ v hA R₁ x) (fun b s'' => RetB.up X b s'') fun _ _ e => e
theorem PTru_bool {b : Bool} {Q : Bool → MH → Prop} (h : Q b H) : PTru G k (.bool b) H Q := fun A E s μ v1 hA R x => by
  rw [VR] at x; subst x; exact wpAny_truthy_bool ⟨H, μ, Ext.refl _ _, R, h⟩

noncomputable def TAll (G : Gh) (k : Nat) (sc : Scope) (op : BoolOp) (es : List Expr) (ρ : Rho) (H : MH) (Q : Bool → MH → Prop) : Prop :=
  ∀ (env : Env) (A : Around) (E : Value → Shared → Prop) (s : Shared) (μ : List Addr), env.scope = sc → AOk k A → EnvRel G env ρ μ s.heap → HRel G H μ s.heap → wpAny G.M A (allTrue op es env) (RetB G μ s Q) E s
theorem TB_BoolOp {op : BoolOp} {es : List Expr} {pos : Pos} {Q : Bool → MH → Prop} (h : TAll G k sc op es ρ H Q) : TB G k sc (.BoolOp op es pos) ρ H Q :=
  fun env A E s μ hs hA V R => wpAny_isTrue_BoolOp (h env A E s μ hs hA V R)
theorem TAll_Or_nil {Q : Bool → MH → Prop} (h : Q false H) : TAll G k sc .Or [] ρ H Q := fun env A E s μ hs hA V R => wpAny_allTrue_Or_nil ⟨H, μ, Ext.refl _ _, R, h⟩
theorem TAll_And_nil {Q : Bool → MH → Prop} (h : Q true H) : TAll G k sc .And [] ρ H Q := fun env A E s μ hs hA V R => wpAny_allTrue_And_nil ⟨H, μ, Ext.refl _ _, R, h⟩
theorem TAll_Or_cons {e : Expr} {es : List Expr} {Q : Bool → MH → Prop} (h : TB G k sc e ρ H fun b H₁ => if b then Q true H₁ else TAll G k sc .Or es ρ H₁ Q) : TAll G k sc .Or (e :: es) ρ H Q := by
  intro env A E s μ hs hA V R
  refine wpAny_allTrue_Or_cons (wpAny_mono (h env A E s μ hs hA V R) ?_ fun _ _ e => e)
  rintro c s₁ ⟨H₁, μ₁, X, R₁, q⟩
  cases c with
  | true => exact ⟨H₁, μ₁, X, R₁, q⟩
  | false => exact wpAny_mono (q env A E s₁ μ₁ hs hA (V.ext X R) R₁) (fun v s'' => RetB.up X v s'') fun _ _ e => e
theorem TAll_And_cons {e : Expr} {es : List Expr} {Q : Bool → MH → Prop} (h : TB G k sc e ρ H fun b H₁ => if b then TAll G k sc .And es ρ H₁ Q else Q false H₁) : TAll G k sc .And (e :: es) ρ H Q := by
  intro env A E s μ hs hA V R
  refine wpAny_allTrue_And_cons (wpAny_mono (h env A E s μ hs hA V R) ?_ fun _ _ e => e)
  rintro c s₁ ⟨H₁, μ₁, X, R₁, q⟩
  cases c with
  | true => exact wpAny_mono (q env A E s₁ μ₁ hs hA (V.ext X R) R₁) (fun v s'' => RetB.up X v s'') fun _ _ e => e
  | false => exact ⟨H₁, μ₁, X, R₁, q⟩
-- x and y as a value
theorem TE_And2 {a b : Expr} {pos : Pos} (h : TE G k sc a ρ H fun u H₁ => ∃ t, u = .bool t ∧ if t then TE G k sc b ρ H₁ Q else Q (.bool false) H₁) : TE G k sc (.BoolOp .And [a, b] pos) ρ H Q := by
  intro env A E s μ hs hA V R
  refine wpAny_And2 (wpAny_mono (h env A E s μ hs hA V R) ?_ fun _ _ e => e)
  rintro v s₁ ⟨u, H₁, μ₁, X, R₁, x, t, rfl, q⟩
  rw [VR] at x; subst x
  refine wpAny_truthy_bool ?_
  cases t with
  | true => exact wpAny_mono (q env A E s₁ μ₁ hs hA (V.ext X R) R₁) (fun v s'' => Ret.up X v s'') fun _ _ e => e
  | false => exact ⟨_, H₁, μ₁, X, R₁, vBool, q⟩
theorem TE_UnaryOp {e : Expr} {op : UnaryOp} {pos : Pos} (h : TE G k sc e ρ H fun u H₁ => PUn G k (unaryOp op) u H₁ Q) : TE G k sc (.UnaryOp op e pos) ρ H Q := by
  intro env A E s μ hs hA V R
  refine wpAny_UnaryOp (wpAny_mono (h env A E s μ hs hA V R) ?_ fun _ _ e => e)
  rintro v s₁ ⟨u, H₁, μ₁, X, R₁, x, q⟩
  exact wpAny_mono (q A E s₁ μ₁ v hA R₁ x) (fun v s'' => Ret.up X v s'') fun _ _ e => e

-- several expressions in their order
noncomputable def RetL (G : Gh) (μ : List Addr) (s : Shared) (Q : List V → MH → Prop) : List Value → Shared → Prop :=
  fun vs s' => ∃ us H' μ', Ext μ s μ' s' ∧ HRel G H' μ' s'.heap ∧ VRs G.hb μ' s'.heap us vs ∧ Q us H'
noncomputable def TEs (G : Gh) (k : Nat) (sc : Scope) (es : List Expr) (ρ : Rho) (H : MH) (Q : List V → MH → Prop) : Prop :=
  ∀ (env : Env) (A : Around) (E : Value → Shared → Prop) (s : Shared) (μ : List Addr) (pos : Pos), env.scope = sc → AOk k A → EnvRel G env ρ μ s.heap → HRel G H μ s.heap → wpAny G.M A (spliced (backTo pos (starEach es env))) (RetL G μ s Q) E s
theorem TEs_nil {Q : List V → MH → Prop} (h : Q [] H) : TEs G k sc [] ρ H Q := fun env A E s μ pos hs hA V R => wpAny_items_nil ⟨[], H, μ, Ext.refl _ _, R, VRs.nil, h⟩
theorem TEs_cons {e : Expr} {es : List Expr} {Q : List V → MH → Prop} (h : TE G k sc e ρ H fun u H₁ => TEs G k sc es ρ H₁ fun us H₂ => Q (u :: us) H₂)
    (he : ∀ env, starEach (e :: es) env = (false, eval e env) :: starEach es env := by intro _; rfl) : TEs G k sc (e :: es) ρ H Q := by
  intro env A E s μ pos hs hA V R
  refine wpAny_items_cons (wpAny_mono (h env A E s μ hs hA V R) ?_ fun _ _ e => e) (he env)
  rintro v s₁ ⟨u, H₁, μ₁, X, R₁, x, q⟩
  refine wpAny_mono (q env A E s₁ μ₁ pos hs hA (V.ext X R) R₁) ?_ fun _ _ e => e
  rintro vs s₂ ⟨us, H₂, μ₂, X₂, R₂, xs, q₂⟩
  exact ⟨u :: us, H₂, μ₂, X.trans X₂, R₂, VRs.cons (X₂.vr R₁ x) xs, q₂⟩

-- a new mini object
theorem HRel.alloc {μ : List Addr} {h h' : Heap} {o : O} {a : Addr} (R : HRel G H μ h) (ha : h.get? a = none) (hs : (a == sysModules) = false) (hk : ∀ b ob, h.get? b = some ob → h'.get? b = some ob) (ho : OR G (μ ++ [a]) h' o a) : HRel G (H ++ [o]) (μ ++ [a]) h' := by
  have hn : a ∉ μ := fun hm => by
    obtain ⟨n, o, _, _, x⟩ := R.at hm
    cases o with
    | list l => obtain ⟨vs, n, e, _⟩ := x; rw [IsL, ha] at e; cases e
    | dict l ep => obtain ⟨xs, ⟨o', es, e, _⟩, _⟩ := x; rw [ha] at e; cases e
  refine ⟨fun b ob e => hk _ _ (R.base _ _ e), by simp [R.len], ?_, ?_, ?_, R.low⟩
  · rw [List.nodup_append]; refine ⟨R.nodup, by simp, fun x hx y hy => ?_⟩
    rw [List.mem_singleton] at hy; subst hy; rintro rfl; exact hn hx
  · intro b hb
    rcases List.mem_append.mp hb with hb | hb
    · exact R.new b hb
    · rw [List.mem_singleton] at hb; subst hb
      refine ⟨?_, hs⟩
      cases q : G.hb.get? b with
      | none => rfl
      | some ob => rw [R.base _ _ q] at ha; cases ha
  · intro n p hp
    rw [List.getElem?_append] at hp
    by_cases hlt : n < H.length
    · rw [if_pos hlt] at hp
      obtain ⟨b, hb, x⟩ := R.obj n p hp
      refine ⟨b, by rw [List.getElem?_append_left (by rw [R.len]; exact hlt)]; exact hb, ?_⟩
      have tk : TKeep h h' := fun c vs m t => hk _ _ t
      cases p with
      | list l => obtain ⟨vs, m, e, hl, r⟩ := x; exact ⟨vs, m, hk _ _ e, hl, VRs.mono tk (List.prefix_append _ _) r⟩
      | dict l ep => obtain ⟨xs, d, hl, r⟩ := x; exact ⟨xs, d.keep (fun ob e => hk _ _ e) tk, hl, ER.mono tk (List.prefix_append _ _) r⟩
    · rw [if_neg hlt] at hp
      have : n = H.length := by
        have := (List.getElem?_eq_some_iff.mp hp).1; simp at this; (first | lia | omega)
      subst this
      simp at hp; subst hp
      exact ⟨a, by rw [← R.len]; simp, ho⟩
theorem Ext.alloc {μ : List Addr} {s : Shared} {h' : Heap} {tk : Nat} {a : Addr} (ha : s.heap.get? a = none) (hk : ∀ b ob, s.heap.get? b = some ob → h'.get? b = some ob) : Ext μ s (μ ++ [a]) { s with heap := h', toks := tk } :=
  ⟨⟨h', tk, rfl⟩, List.prefix_append _ _, fun b hb => (List.mem_append.mp hb).imp id fun e => by rw [List.mem_singleton] at e; rw [e]; exact ha, fun b ob e _ => hk b ob e⟩
theorem Ext.grow {μ : List Addr} {s : Shared} {h' : Heap} {tk : Nat} (hk : ∀ b ob, s.heap.get? b = some ob → h'.get? b = some ob) : Ext μ s μ { s with heap := h', toks := tk } :=
  ⟨⟨h', tk, rfl⟩, List.prefix_refl _, fun b hb => .inl hb, fun b ob e _ => hk b ob e⟩
theorem HRel.grow {μ : List Addr} {h h' : Heap} (R : HRel G H μ h) (hk : ∀ b ob, h.get? b = some ob → h'.get? b = some ob) : HRel G H μ h' := by
  have tk : TKeep h h' := fun c vs m t => hk _ _ t
  refine ⟨fun b ob e => hk _ _ (R.base _ _ e), R.len, R.nodup, R.new, fun n p hp => ?_, R.low⟩
  obtain ⟨b, hb, x⟩ := R.obj n p hp
  refine ⟨b, hb, ?_⟩
  cases p with
  | list l => obtain ⟨vs, m, e, hl, r⟩ := x; exact ⟨vs, m, hk _ _ e, hl, VRs.mono tk (List.prefix_refl _) r⟩
  | dict l ep => obtain ⟨xs, d, hl, r⟩ := x; exact ⟨xs, d.keep (fun ob e => hk _ _ e) tk, hl, ER.mono tk (List.prefix_refl _) r⟩
theorem get_size_none (h : Heap) : h.get? h.objs.size = none := by
  cases q : h.get? h.objs.size with
  | none => rfl
  | some o => exact absurd (Heap.lt_size q) (Nat.lt_irrefl _)
theorem push_keep (h : Heap) (o : Obj) : ∀ b ob, h.get? b = some ob → (h.push o).get? b = some ob := fun b ob e => Heap.get?_push_of_some o e

-- a new tuple
theorem Ret.tuple {μ : List Addr} {s : Shared} {us : List V} {vs : List Value} (R : HRel G H μ s.heap) (x : VRs G.hb μ s.heap us vs) (hl : us.length ≤ lim) (q : Q (.tup us) H) :
    Ret G μ s Q (.ref s.heap.objs.size) { s with heap := s.heap.push { cls := .type "tuple", data := .seq vs.toArray } } := by
  have hk := push_keep s.heap { cls := .type "tuple", data := .seq vs.toArray }
  refine ⟨_, H, μ, Ext.grow (tk := s.toks) hk, R.grow hk, ?_, q⟩
  rw [VR]
  exact ⟨_, vs.toArray, 0, rfl, Heap.get?_push_size _ rfl, hl, VRs.mono (fun c vs m t => hk _ _ t) (List.prefix_refl _) x⟩
theorem Ret.list {μ : List Addr} {s : Shared} {us : List V} {vs : List Value} (R : HRel G H μ s.heap) (x : VRs G.hb μ s.heap us vs) (hl : us.length ≤ lim) (q : Q (.loc H.length) (H ++ [.list us])) :
    Ret G μ s Q (.ref s.heap.objs.size) { s with heap := s.heap.push { cls := .type "list", data := .seq vs.toArray } } := by
  have hk := push_keep s.heap { cls := .type "list", data := .seq vs.toArray }
  refine ⟨_, _, μ ++ [s.heap.objs.size], Ext.alloc (tk := s.toks) (get_size_none _) hk, R.alloc (get_size_none _) R.lowA hk ?_, ?_, q⟩
  · exact ⟨vs.toArray, 0, Heap.get?_push_size _ rfl, hl, VRs.mono (fun c vs m t => hk _ _ t) (List.prefix_append _ _) x⟩
  · rw [VR, ← R.len]; exact ⟨_, rfl, by simp⟩
theorem Ret.dict0 {μ : List Addr} {s : Shared} (R : HRel G H μ s.heap) (q : Q (.loc H.length) (H ++ [.dict [] 0])) :
    Ret G μ s Q (.ref s.heap.objs.size) { s with heap := s.heap.push { cls := .type "dict", data := .dict #[] } } := by
  have hk := push_keep s.heap { cls := .type "dict", data := .dict #[] }
  refine ⟨_, _, μ ++ [s.heap.objs.size], Ext.alloc (tk := s.toks) (get_size_none _) hk, R.alloc (get_size_none _) R.lowA hk ?_, ?_, q⟩
  · exact ⟨[], ⟨_, _, Heap.get?_push_size _ rfl, ⟨rfl, rfl, rfl⟩, rfl, rfl, fun x hx => (nomatch hx), List.nodup_nil⟩, by simp [lim], rfl⟩
  · rw [VR, ← R.len]; exact ⟨_, rfl, by simp⟩

theorem TE_Tuple {es : List Expr} {kk : Nat} {pos : Pos} (h : TEs G k sc es ρ H fun us H' => us.length ≤ lim ∧ Q (.tup us) H') : TE G k sc (.Tuple es kk pos) ρ H Q := by
  intro env A E s μ hs hA V R
  refine wpAny_Tuple (wpAny_mono (h env A E s μ pos hs hA V R) ?_ fun _ _ e => e)
  rintro vs s₁ ⟨us, H₁, μ₁, X, R₁, x, hl, q⟩
  exact ⟨by rw [x.length]; exact Nat.le_trans hl lim_le, Ret.up X _ _ (Ret.tuple R₁ x hl q)⟩
theorem TE_List {es : List Expr} {pos : Pos} (h : TEs G k sc es ρ H fun us H' => us.length ≤ lim ∧ Q (.loc H'.length) (H' ++ [.list us])) : TE G k sc (.List es pos) ρ H Q := by
  intro env A E s μ hs hA V R
  refine wpAny_List (wpAny_mono (h env A E s μ pos hs hA V R) ?_ fun _ _ e => e)
  rintro vs s₁ ⟨us, H₁, μ₁, X, R₁, x, hl, q⟩
  exact ⟨by rw [x.length]; exact Nat.le_trans hl lim_le, Ret.up X _ _ (Ret.list R₁ x hl q)⟩
theorem TE_Dict0 {pos : Pos} (h : Q (.loc H.length) (H ++ [.dict [] 0])) : TE G k sc (.Dict [] [] pos) ρ H Q :=
  fun env A E s μ hs hA V R => wpAny_Dict_empty (Ret.dict0 R h)
end
end Mine

end

section
namespace Mine

structure Gh.Ok (G : Gh) : Prop where
  g : G.hb.Ns mainGlobals G.mg
  b : G.hb.Ns builtinsNs G.mb
  nolimit : G.hb.NoLimit
  builtins : ∀ x : Str, x ≠ "__name__" → G.mb x = bootBuiltins x

structure FnAt (G : Gh) (name : Str) (params : Arguments) (body : List Stmt) (scope : Scope) : Prop where
  ex : ∃ (a : Addr) (o : Obj) (pm code doc : Value), G.mg name = some (.ref a) ∧ G.hb.get? a = some o ∧ o.data = .func (docDef name params body scope pm code doc) ∧ G.hb.CodeRec code name

section
variable {G : Gh} {k : Nat} {sc : Scope} {ρ : Rho} {H : MH} {Q : V → MH → Prop}

noncomputable def CT (G : Gh) (k : Nat) (name : Str) (us : List V) (H : MH) (Q : V → MH → Prop) : Prop :=
  ∀ (a : Addr), G.mg name = some (.ref a) → ∀ (A : Around) (E : Value → Shared → Prop) (s : Shared) (μ : List Addr) (vs : List Value), AOk k A → HRel G H μ s.heap → VRs G.hb μ s.heap us vs →
    wpAny G.M A (call (.ref a) vs) (Ret G μ s Q) E s
-- a built-in's call
noncomputable def CB (G : Gh) (k : Nat) (f : Value) (us : List V) (H : MH) (Q : V → MH → Prop) : Prop :=
  ∀ (A : Around) (E : Value → Shared → Prop) (s : Shared) (μ : List Addr) (vs : List Value), AOk k A → HRel G H μ s.heap → VRs G.hb μ s.heap us vs → wpAny G.M A (call f vs) (Ret G μ s Q) E s

theorem CT.mono {name : Str} {us : List V} {Q' : V → MH → Prop} (h : CT G k name us H Q) (hq : ∀ u H', Q u H' → Q' u H') : CT G k name us H Q' :=
  fun a ha A E s μ vs hA R x => wpAny_mono (h a ha A E s μ vs hA R x) (fun v s' ⟨u, H', μ', X, R', x, q⟩ => ⟨u, H', μ', X, R', x, hq _ _ q⟩) fun _ _ e => e

theorem wpAny_globalName {env : Env} {A : Around} {E : Value → Shared → Prop} {s : Shared} {μ : List Addr} (B : G.Ok) (V : EnvRel G env ρ μ s.heap) (R : HRel G H μ s.heap) {x : Str} {pos : Pos} {v : Value} {P : Value → Shared → Prop}
    (hx : env.kindOf x = some .globalImplicit) (hv : G.mg x = some v) (h : P v s) (hd : (x == ("__debug__" : Str)) = false := by decide +kernel) : wpAny G.M A (eval (.Name x pos) env) P E s :=
  Name_function_global V.kind hx (loadGlobal_global (V.glob ▸ B.g.keeps R.base) hv h) hd
theorem wpAny_builtinName {env : Env} {A : Around} {E : Value → Shared → Prop} {s : Shared} {μ : List Addr} (B : G.Ok) (V : EnvRel G env ρ μ s.heap) (R : HRel G H μ s.heap) {x : Str} {pos : Pos} {v : Value} {P : Value → Shared → Prop}
    (hx : env.kindOf x = some .globalImplicit) (hn : G.mg x = none) (hv : bootBuiltins x = some v) (h : P v s) (hd : (x == ("__debug__" : Str)) = false := by decide +kernel) (hne : x ≠ "__name__" := by decide +kernel) : wpAny G.M A (eval (.Name x pos) env) P E s :=
  Name_function_global V.kind hx (loadGlobal_builtin (V.glob ▸ B.g.keeps R.base) hn (V.bui ▸ B.b.keeps R.base) ((B.builtins x hne).trans hv) h) hd

-- a global that is data
theorem TE_global (B : G.Ok) {x : Str} {pos : Pos} {u : V} {v : Value} (hv : G.mg x = some v) (hu : ∀ μ h, (∀ (a : Addr) (o : Obj), G.hb.get? a = some o → h.get? a = some o) → VR G.hb μ h u v) (hk : sc.names.lookup x = some .globalImplicit) (h : Q u H)
    (hd : (x == ("__debug__" : Str)) = false := by decide +kernel) : TE G k sc (.Name x pos) ρ H Q := by
  intro env A E s μ hs hA V R
  subst hs
  exact wpAny_globalName B V R hk hv (Ret.here R (hu μ _ R.base) h) hd

theorem args_of {e : Expr} {es : List Expr} {pos : Pos} {env : Env} {A : Around} {E : Value → Shared → Prop} {s : Shared} {f : Value} {P : Args → Shared → Prop}
    (he : starEach (e :: es) env = (false, eval e env) :: starEach es env)
    (h : wpAny G.M A (spliced (backTo pos (starEach (e :: es) env))) (fun vs s' => P ⟨vs, []⟩ s') E s) : wpAny G.M A (evalArgs f true (backTo pos (starEach (e :: es) env)) []) P E s := by
  rw [he] at h ⊢
  exact evalArgs_plain h

theorem TE_Call (B : G.Ok) {f : Str} {params : Arguments} {body : List Stmt} {scope : Scope} (F : FnAt G f params body scope) {p pos : Pos} {e : Expr} {es : List Expr} (hk : sc.names.lookup f = some .globalImplicit)
    (h : TEs G k sc (e :: es) ρ H fun us H' => CT G k f us H' Q) (he : ∀ env, starEach (e :: es) env = (false, eval e env) :: starEach es env := by intro _; rfl) (hd : (f == ("__debug__" : Str)) = false := by decide +kernel) :
    TE G k sc (.Call (.Name f p) (e :: es) [] pos) ρ H Q := by
  intro env A E s μ hs hA V R
  obtain ⟨a, o, pm, code, doc, ha, ho, hdat, hcd⟩ := F.ex
  refine Call_Name rfl (wpAny_globalName B V R (by rw [Env.kindOf, hs]; exact hk) ha ?_ hd)
  refine callWith_function (o := o) (fd := docDef f params body scope pm code doc) (args_of (he env) (wpAny_mono (h env A E s μ pos hs hA V R) ?_ fun _ _ e => e))
  rintro vs s₁ ⟨us, H₁, μ₁, X, R₁, x, q⟩
  exact ⟨⟨R₁.base _ _ ho, hdat⟩, wpAny_mono (q a ha A E s₁ μ₁ vs hA R₁ x) (fun v s'' => Ret.up X v s'') fun _ _ e => e⟩

theorem TE_CallB (B : G.Ok) {f : Str} {id : String} {p pos : Pos} {e : Expr} {es : List Expr} (hk : sc.names.lookup f = some .globalImplicit) (hn : G.mg f = none) (hv : bootBuiltins f = some (.builtin id))
    (h : TEs G k sc (e :: es) ρ H fun us H' => CB G k (.builtin id) us H' Q) (he : ∀ env, starEach (e :: es) env = (false, eval e env) :: starEach es env := by intro _; rfl)
    (hp : ∀ env, (backTo pos (starEach (e :: es) env)).any (·.1) = false := by intro _; rfl)
    (hd : (f == ("__debug__" : Str)) = false := by decide +kernel) (hne : f ≠ "__name__" := by decide +kernel) :
    TE G k sc (.Call (.Name f p) (e :: es) [] pos) ρ H Q := by
  intro env A E s μ hs hA V R
  refine Call_Name rfl (wpAny_builtinName B V R (by rw [Env.kindOf, hs]; exact hk) hn hv ?_ hd hne)
  refine callWith_builtin (hp env) (args_of (he env) (wpAny_mono (h env A E s μ pos hs hA V R) ?_ fun _ _ e => e))
  rintro vs s₁ ⟨us, H₁, μ₁, X, R₁, x, q⟩
  exact wpAny_mono (q A E s₁ μ₁ vs hA R₁ x) (fun v s'' => Ret.up X v s'') fun _ _ e => e
theorem TE_CallT (B : G.Ok) {f : Str} {id : String} {p pos : Pos} {e : Expr} {es : List Expr} (hk : sc.names.lookup f = some .globalImplicit) (hn : G.mg f = none) (hv : bootBuiltins f = some (.type id))
    (h : TEs G k sc (e :: es) ρ H fun us H' => CB G k (.type id) us H' Q) (he : ∀ env, starEach (e :: es) env = (false, eval e env) :: starEach es env := by intro _; rfl)
    (hp : ∀ env, (backTo pos (starEach (e :: es) env)).any (·.1) = false := by intro _; rfl)
    (hd : (f == ("__debug__" : Str)) = false := by decide +kernel) (hne : f ≠ "__name__" := by decide +kernel) :
    TE G k sc (.Call (.Name f p) (e :: es) [] pos) ρ H Q := by
  intro env A E s μ hs hA V R
  refine Call_Name rfl (wpAny_builtinName B V R (by rw [Env.kindOf, hs]; exact hk) hn hv ?_ hd hne)
  refine PySem.callWith_type (hp env) (args_of (he env) (wpAny_mono (h env A E s μ pos hs hA V R) ?_ fun _ _ e => e))
  rintro vs s₁ ⟨us, H₁, μ₁, X, R₁, x, q⟩
  exact wpAny_mono (q A E s₁ μ₁ vs hA R₁ x) (fun v s'' => Ret.up X v s'') fun _ _ e => e
end

inductive Fl where
  | next | brk | cont | ret (u : V)

noncomputable def FlR (hb : Heap) (μ : List Addr) (h : Heap) : Fl → Flow → Prop
  | .next, f => f = .next
  | .brk, f => f = .brk
  | .cont, f => f = .cont
  | .ret u, f => ∃ v, f = .ret v ∧ VR hb μ h u v

noncomputable def Own (env : Env) (a : Addr) : Prop := a = env.locals ∨ ∃ x, env.cells.lookup x = some a

structure ExtW (W : Addr → Prop) (μ : List Addr) (s : Shared) (μ' : List Addr) (s' : Shared) : Prop where
  same : ∃ h tk, s' = { s with heap := h, toks := tk }
  pre : μ <+: μ'
  new : ∀ a ∈ μ', a ∈ μ ∨ s.heap.get? a = none
  keep : ∀ a o, s.heap.get? a = some o → a ∉ μ → ¬ W a → s'.heap.get? a = some o
  live : ∀ a o, s.heap.get? a = some o → W a → ∃ o', s'.heap.get? a = some o'
noncomputable abbrev ExtS (env : Env) := ExtW (Own env)

theorem Ext.toW {W : Addr → Prop} {μ μ' : List Addr} {s s' : Shared} (X : Ext μ s μ' s') (ho : ∀ a, W a → a ∉ μ) : ExtW W μ s μ' s' :=
  ⟨X.same, X.pre, X.new, fun a o e n _ => X.keep a o e n, fun a o e q => ⟨o, X.keep a o e (ho a q)⟩⟩
theorem Ext.toS {env : Env} {μ μ' : List Addr} {s s' : Shared} (X : Ext μ s μ' s') (ho : ∀ a, Own env a → a ∉ μ) : ExtS env μ s μ' s' := X.toW ho
theorem ExtW.refl (W : Addr → Prop) (μ : List Addr) (s : Shared) : ExtW W μ s μ s := ⟨⟨s.heap, s.toks, rfl⟩, List.prefix_refl _, fun _ h => .inl h, fun _ _ e _ _ => e, fun _ o e _ => ⟨o, e⟩⟩
theorem ExtS.refl (env : Env) (μ : List Addr) (s : Shared) : ExtS env μ s μ s := ExtW.refl _ _ _
theorem ExtW.trans {W : Addr → Prop} {μ₁ μ₂ μ₃ : List Addr} {s₁ s₂ s₃ : Shared} (x : ExtW W μ₁ s₁ μ₂ s₂) (y : ExtW W μ₂ s₂ μ₃ s₃) : ExtW W μ₁ s₁ μ₃ s₃ := by
  refine ⟨?_, x.pre.trans y.pre, fun a ha => ?_, fun a o e n w => ?_, fun a o e q => ?_⟩
  · obtain ⟨h, t, rfl⟩ := x.same
    obtain ⟨h', t', rfl⟩ := y.same
    exact ⟨h', t', rfl⟩
  · rcases y.new a ha with h | h
    · exact x.new a h
    · cases q : s₁.heap.get? a with
      | none => exact .inr rfl
      | some o =>
        by_cases m : a ∈ μ₁
        · exact .inl m
        · by_cases w : W a
          · obtain ⟨o', e'⟩ := x.live a o q w
            rw [e'] at h; cases h
          · rw [x.keep a o q m w] at h; cases h
  · refine y.keep a o (x.keep a o e n w) (fun m => ?_) w
    rcases x.new a m with h | h
    · exact n h
    · rw [e] at h; cases h
  · obtain ⟨o', e'⟩ := x.live a o e q
    exact y.live a o' e' q

-- what turns outside the mini objects
theorem HRel.chg {G : Gh} {H : MH} {μ : List Addr} {h h' : Heap} {W : Addr → Prop} (R : HRel G H μ h) (hk : ∀ b ob, h.get? b = some ob → ¬ W b → h'.get? b = some ob)
    (hW : ∀ b, W b → b ∉ μ ∧ G.hb.get? b = none ∧ ∀ xs n, ¬ IsT h b xs n) : HRel G H μ h' := by
  have tk : TKeep h h' := fun c vs m t => hk _ _ t fun w => (hW c w).2.2 _ _ t
  refine ⟨fun b ob e => hk _ _ (R.base _ _ e) fun w => (by rw [(hW b w).2.1] at e; cases e), R.len, R.nodup, R.new, fun n p hp => ?_, R.low⟩
  obtain ⟨b, hb, x⟩ := R.obj n p hp
  have hbw : ¬ W b := fun w => (hW b w).1 (List.mem_of_getElem? hb)
  refine ⟨b, hb, ?_⟩
  cases p with
  | list l => obtain ⟨vs, m, e, hl, r⟩ := x; exact ⟨vs, m, hk _ _ e hbw, hl, VRs.mono tk (List.prefix_refl _) r⟩
  | dict l ep =>
    obtain ⟨xs, d, hl, r⟩ := x
    exact ⟨xs, d.keep (fun o e => hk _ _ e hbw) tk, hl, ER.mono tk (List.prefix_refl _) r⟩

noncomputable def upd (x : Str) (u : V) : Rho → Rho
  | [] => [(x, u)]
  | (y, v) :: r => if x == y then (x, u) :: r else (y, v) :: upd x u r
theorem upd_lookup (x : Str) (u : V) : ∀ (ρ : Rho) (y : Str), (upd x u ρ).lookup y = if y = x then some u else ρ.lookup y
  | [], y => by
    by_cases h : y = x
    · subst h; simp [upd, List.lookup_cons]
    · have : (y == x) = false := by simpa using h
      simp [upd, List.lookup_cons, this, h]
  | (z, v) :: r, y => by
    unfold upd
    by_cases hz : (x == z) = true
    · rw [if_pos hz]
      have := eq_of_beq hz; subst this
      by_cases h : y = x
      · subst h; simp [List.lookup_cons]
      · have : (y == x) = false := by simpa using h
        simp [List.lookup_cons, this, h]
    · rw [if_neg hz, List.lookup_cons, List.lookup_cons, upd_lookup x u r y]
      by_cases h : y = x
      · subst h
        have : (y == z) = false := by simpa using hz
        simp [this]
      · by_cases h2 : (y == z) = true
        · rw [h2]; simp [h]
        · have : (y == z) = false := by simpa using h2
          rw [this]

section
variable {G : Gh} {k : Nat} {sc : Scope} {ρ : Rho} {H : MH}

theorem EnvRel.ownOut {env : Env} {μ : List Addr} {h : Heap} (V : EnvRel G env ρ μ h) (R : HRel G H μ h) : ∀ a, Own env a → a ∉ μ := by
  rintro a (rfl | ⟨x, hx⟩) hm
  · exact V.lout hm
  · obtain ⟨⟨ov, oc, e, hd⟩, _⟩ := V.cells x a hx
    obtain ⟨n, o, _, _, y⟩ := R.at hm
    cases o with
    | list l => obtain ⟨us, kk, e', _⟩ := y; rw [e'] at e; cases e; cases hd
    | dict l ep => obtain ⟨xs, ⟨o', es, e', _, hdd, _⟩, _⟩ := y; rw [e'] at e; cases e; rw [hdd] at hd; cases hd
theorem EnvRel.ownNew {env : Env} {μ : List Addr} {h : Heap} (V : EnvRel G env ρ μ h) : ∀ a, Own env a → G.hb.get? a = none := by
  rintro a (rfl | ⟨x, hx⟩)
  · exact V.lnew
  · exact (V.cells x a hx).2
theorem EnvRel.ownSeq {env : Env} {μ : List Addr} {h : Heap} (V : EnvRel G env ρ μ h) : ∀ a, Own env a → ∀ ob, h.get? a = some ob → ∀ xs n, ob.data ≠ .seq xs n := by
  rintro a (rfl | ⟨x, hx⟩) ob e xs n q
  · obtain ⟨m, ⟨o, es, ep, ho, hd, _⟩, _⟩ := V.ns
    rw [e] at ho; cases ho; rw [hd] at q; cases q
  · obtain ⟨⟨ov, oc, e', hd⟩, _⟩ := V.cells x a hx
    rw [e] at e'; cases e'; rw [hd] at q; cases q
theorem EnvRel.ownLive {env : Env} {μ : List Addr} {h : Heap} (V : EnvRel G env ρ μ h) : ∀ a, Own env a → ∃ ob, h.get? a = some ob := by
  rintro a (rfl | ⟨x, hx⟩)
  · obtain ⟨m, ⟨o, es, ep, ho, hd, _⟩, _⟩ := V.ns
    exact ⟨_, ho⟩
  · obtain ⟨⟨ov, oc, e', hd⟩, _⟩ := V.cells x a hx
    exact ⟨_, e'⟩

-- a name of the frame is stored
noncomputable def StOk (env : Env) (W : Addr → Prop) (x : Str) : Prop := (env.kindOf x = some .local ∧ W env.locals) ∨ (env.kindOf x = some .cell ∧ ∀ c, env.cells.lookup x = some c → W c)
theorem StOk.own {env : Env} {x : Str} (hk : env.kindOf x = some .local ∨ env.kindOf x = some .cell) : StOk env (Own env) x := hk.imp (fun e => ⟨e, .inl rfl⟩) fun e => ⟨e, fun c hc => .inr ⟨x, hc⟩⟩
theorem wpAny_store {env : Env} {W : Addr → Prop} {A : Around} {E : Value → Shared → Prop} {s : Shared} {μ : List Addr} {x : Str} {u : V} {v : Value} {P : Unit → Shared → Prop} (V : EnvRel G env ρ μ s.heap) (R : HRel G H μ s.heap) (hx : VR G.hb μ s.heap u v)
    (hk : StOk env W x)
    (h : ∀ s', ExtW W μ s μ s' → HRel G H μ s'.heap → EnvRel G env (upd x u ρ) μ s'.heap → P () s') : wpAny G.M A (storeName env x v) P E s := by
  obtain ⟨m, hn, hm⟩ := V.ns
  have hp : (env.scope.kind == .class || (env.scope.kind == .module && env.locals != env.globals)) = false := by rw [V.kind]; rfl
  rcases hk with ⟨hk, hWl⟩ | ⟨hk, hWc⟩
  · refine wpAny_storeName_local hk hn (fun h' hn' hs' => ?_) hp
    have hkp : ∀ b ob, s.heap.get? b = some ob → ¬ b = env.locals → h'.get? b = some ob := fun b ob e w => hs'.extBut b ob w e
    have R' : HRel G H μ h' := R.chg (W := fun b => b = env.locals) hkp fun b w => ⟨w ▸ V.lout, w ▸ V.lnew, fun xs n t => V.ownSeq b (.inl w) _ t _ _ rfl⟩
    have tk : TKeep s.heap h' := fun c vs mm t => hkp _ _ t fun w => V.ownSeq c (.inl w) _ t _ _ rfl
    refine h _ ⟨⟨h', s.toks + 1, rfl⟩, List.prefix_refl _, fun _ q => .inl q, fun a o e _ w => hkp a o e fun q => w (q ▸ hWl), fun a o e w => ?_⟩ R' ?_
    · by_cases q : a = env.locals
      · subst q; obtain ⟨o', _, _, e', _⟩ := hn'; exact ⟨o', e'⟩
      · exact ⟨o, hkp a o e q⟩
    · have cellNe : ∀ {c : Addr} {ov : Option Value}, s.heap.IsCell c ov → c ≠ env.locals := fun {c ov} hc q => by
        obtain ⟨oc, e, hd⟩ := hc
        obtain ⟨o, _, _, e', hd', _⟩ := hn
        rw [q, e'] at e; cases e; rw [hd'] at hd; cases hd
      refine ⟨V.kind, V.glob, V.bui, ⟨_, hn', fun y w hy hky => ?_⟩, fun y w hy hky => ?_, fun y c hy => ?_, V.has, V.lnew, V.lout, V.apart⟩
      · rw [upd_lookup] at hy
        by_cases hyx : y = x
        · subst hyx
          rw [if_pos rfl] at hy; cases hy
          exact ⟨v, by simp, VR.mono tk (List.prefix_refl _) hx⟩
        · rw [if_neg hyx] at hy
          obtain ⟨w', a, b⟩ := hm y w hy hky
          exact ⟨w', by simp [hyx, a], VR.mono tk (List.prefix_refl _) b⟩
      · rw [upd_lookup] at hy
        by_cases hyx : y = x
        · subst hyx; rw [hk] at hky; rcases hky with e | e <;> cases e
        · rw [if_neg hyx] at hy
          obtain ⟨c, w', a, b, d⟩ := V.cell y w hy hky
          exact ⟨c, w', a, b.sameBut hs' (cellNe b), VR.mono tk (List.prefix_refl _) d⟩
      · obtain ⟨⟨ov, b⟩, d⟩ := V.cells y c hy
        exact ⟨⟨ov, b.sameBut hs' (cellNe b)⟩, d⟩
  · obtain ⟨c, hc⟩ := Option.isSome_iff_exists.mp (V.has x (.inl hk))
    obtain ⟨⟨ov, hcell⟩, hcn⟩ := V.cells x c hc
    have cellNe : c ≠ env.locals := fun q => by
      obtain ⟨oc, e, hd⟩ := hcell
      obtain ⟨o, _, _, e', hd', _⟩ := hn
      rw [q, e'] at e; cases e; rw [hd'] at hd; cases hd
    refine wpAny_storeName_cell V.kind hk hc hcell fun h' hc' hs' => ?_
    have hkp : ∀ b ob, s.heap.get? b = some ob → ¬ b = c → h'.get? b = some ob := fun b ob e w => hs'.extBut b ob w e
    have hown : Own env c := .inr ⟨x, hc⟩
    have R' : HRel G H μ h' := R.chg (W := fun b => b = c) hkp fun b w => ⟨w ▸ V.ownOut R c hown, w ▸ hcn, fun xs n t => V.ownSeq b (w ▸ hown) _ t _ _ rfl⟩
    have tk : TKeep s.heap h' := fun d vs mm t => hkp _ _ t fun w => V.ownSeq d (w ▸ hown) _ t _ _ rfl
    refine h _ ⟨⟨h', s.toks, rfl⟩, List.prefix_refl _, fun _ q => .inl q, fun a o e _ w => hkp a o e fun q => w (q ▸ hWc c hc), fun a o e w => ?_⟩ R' ?_
    · by_cases q : a = c
      · subst q; obtain ⟨o', e', _⟩ := hc'; exact ⟨o', e'⟩
      · exact ⟨o, hkp a o e q⟩
    · refine ⟨V.kind, V.glob, V.bui, ⟨m, hn.sameBut hs' (Ne.symm cellNe), fun y w hy hky => ?_⟩, fun y w hy hky => ?_, fun y d hy => ?_, V.has, V.lnew, V.lout, V.apart⟩
      · rw [upd_lookup] at hy
        by_cases hyx : y = x
        · subst hyx; rw [hk] at hky; cases hky
        · rw [if_neg hyx] at hy
          obtain ⟨w', a, b⟩ := hm y w hy hky
          exact ⟨w', a, VR.mono tk (List.prefix_refl _) b⟩
      · rw [upd_lookup] at hy
        by_cases hyx : y = x
        · subst hyx
          rw [if_pos rfl] at hy; cases hy
          exact ⟨c, v, hc, hc', VR.mono tk (List.prefix_refl _) hx⟩
        · rw [if_neg hyx] at hy
          obtain ⟨d, w', a, b, r⟩ := V.cell y w hy hky
          exact ⟨d, w', a, b.sameBut hs' (fun q => hyx (V.apart y x c (q ▸ a) hc)), VR.mono tk (List.prefix_refl _) r⟩
      · obtain ⟨⟨ov', b⟩, r⟩ := V.cells y d hy
        by_cases q : d = c
        · subst q; exact ⟨⟨_, hc'⟩, r⟩
        · exact ⟨⟨ov', b.sameBut hs' q⟩, r⟩

noncomputable def RetS (G : Gh) (env : Env) (μ : List Addr) (s : Shared) (Q : Fl → Rho → MH → Prop) : Flow → Shared → Prop :=
  fun f s' => ∃ fl ρ' H' μ', ExtS env μ s μ' s' ∧ HRel G H' μ' s'.heap ∧ EnvRel G env ρ' μ' s'.heap ∧ FlR G.hb μ' s'.heap fl f ∧ Q fl ρ' H'
noncomputable def RetU (G : Gh) (env : Env) (μ : List Addr) (s : Shared) (Q : Rho → MH → Prop) : Unit → Shared → Prop :=
  fun _ s' => ∃ ρ' H' μ', ExtS env μ s μ' s' ∧ HRel G H' μ' s'.heap ∧ EnvRel G env ρ' μ' s'.heap ∧ Q ρ' H'
-- a statement's triple, a block's
noncomputable def TX (G : Gh) (k : Nat) (sc : Scope) (st : Stmt) (ρ : Rho) (H : MH) (Q : Fl → Rho → MH → Prop) : Prop :=
  ∀ (env : Env) (A : Around) (E : Value → Shared → Prop) (s : Shared) (μ : List Addr), env.scope = sc → AOk k A → EnvRel G env ρ μ s.heap → HRel G H μ s.heap → wpAny G.M A (exec st env) (RetS G env μ s Q) E s
noncomputable def TS (G : Gh) (k : Nat) (sc : Scope) (b : List Stmt) (ρ : Rho) (H : MH) (Q : Fl → Rho → MH → Prop) : Prop :=
  ∀ (env : Env) (A : Around) (E : Value → Shared → Prop) (s : Shared) (μ : List Addr), env.scope = sc → AOk k A → EnvRel G env ρ μ s.heap → HRel G H μ s.heap → wpAny G.M A (execs b env) (RetS G env μ s Q) E s

theorem RetS.up {env : Env} {μ μ₁ : List Addr} {s s₁ : Shared} {Q : Fl → Rho → MH → Prop} (X : ExtS env μ s μ₁ s₁) : ∀ v s', RetS G env μ₁ s₁ Q v s' → RetS G env μ s Q v s' :=
  fun _ _ ⟨fl, ρ', H', μ', X', r⟩ => ⟨fl, ρ', H', μ', X.trans X', r⟩

theorem TS_nil {Q : Fl → Rho → MH → Prop} (h : Q .next ρ H) : TS G k sc [] ρ H Q := fun env A E s μ hs hA V R => wpAny_execs_nil ⟨.next, ρ, H, μ, ExtS.refl _ _ _, R, V, rfl, h⟩
-- what is asked behind a statement of a block
noncomputable abbrev seqQ (G : Gh) (k : Nat) (sc : Scope) (b : List Stmt) (Q : Fl → Rho → MH → Prop) : Fl → Rho → MH → Prop := fun fl ρ' H' => match fl with | .next => TS G k sc b ρ' H' Q | fl => Q fl ρ' H'
theorem TS_cons {st : Stmt} {b : List Stmt} {Q : Fl → Rho → MH → Prop} (h : TX G k sc st ρ H (seqQ G k sc b Q)) : TS G k sc (st :: b) ρ H Q := by
  intro env A E s μ hs hA V R
  refine wpAny_execs_cons (wpAny_mono (h env A E s μ hs hA V R) ?_ fun _ _ e => e)
  rintro f s₁ ⟨fl, ρ₁, H₁, μ₁, X, R₁, V₁, hf, q⟩
  cases fl with
  | next => cases hf; exact wpAny_mono (q env A E s₁ μ₁ hs hA V₁ R₁) (fun v s'' => RetS.up X v s'') fun _ _ e => e
  | brk => cases hf; exact ⟨.brk, ρ₁, H₁, μ₁, X, R₁, V₁, rfl, q⟩
  | cont => cases hf; exact ⟨.cont, ρ₁, H₁, μ₁, X, R₁, V₁, rfl, q⟩
  | ret u => obtain ⟨v, rfl, x⟩ := hf; exact ⟨.ret u, ρ₁, H₁, μ₁, X, R₁, V₁, ⟨v, rfl, x⟩, q⟩

theorem TX_Return {e : Expr} {pos : Pos} {Q : Fl → Rho → MH → Prop} (h : TE G k sc e ρ H fun u H' => Q (.ret u) ρ H') : TX G k sc (.Return (some e) pos) ρ H Q := by
  intro env A E s μ hs hA V R
  refine wpAny_Return_some (wpAny_mono (h env A E s μ hs hA V R) ?_ fun _ _ e => e)
  rintro v s₁ ⟨u, H₁, μ₁, X, R₁, x, q⟩
  exact ⟨.ret u, ρ, H₁, μ₁, X.toS (V.ownOut R), R₁, V.ext X R, ⟨v, rfl, x⟩, q⟩
theorem TX_If {t : Expr} {b o : List Stmt} {pos : Pos} {Q : Fl → Rho → MH → Prop} (h : TB G k sc t ρ H fun c H₁ => if c then TS G k sc b ρ H₁ Q else TS G k sc o ρ H₁ Q) : TX G k sc (.If t b o pos) ρ H Q := by
  intro env A E s μ hs hA V R
  refine wpAny_If (wpAny_mono (h env A E s μ hs hA V R) ?_ fun _ _ e => e)
  rintro c s₁ ⟨H₁, μ₁, X, R₁, q⟩
  have V₁ := V.ext X R
  have XS := X.toS (V.ownOut R)
  cases c with
  | true => exact wpAny_mono (q env A E s₁ μ₁ hs hA V₁ R₁) (fun v s'' => RetS.up XS v s'') fun _ _ e => e
  | false => exact wpAny_mono (q env A E s₁ μ₁ hs hA V₁ R₁) (fun v s'' => RetS.up XS v s'') fun _ _ e => e
theorem TX_Assign {x : Str} {pos' pos : Pos} {e : Expr} {Q : Fl → Rho → MH → Prop} (h : TE G k sc e ρ H fun u H' => Q .next (upd x u ρ) H') (hk : sc.names.lookup x = some .local ∨ sc.names.lookup x = some .cell)
    (hs : ∀ env, env.scope = sc → swapsWith e (some (.Name x pos')) pos.line env = pure false := by intro _ _; rfl) : TX G k sc (.Assign [.Name x pos'] e pos) ρ H Q := by
  intro env A E s μ hsc hA V R
  refine wpAny_Assign_Name (wpAny_mono (h env A E s μ hsc hA V R) ?_ fun _ _ e => e) (hs env hsc)
  rintro v s₁ ⟨u, H₁, μ₁, X, R₁, y, q⟩
  have V₁ := V.ext X R
  have XS := X.toS (V.ownOut R)
  refine wpAny_store V₁ R₁ y (StOk.own (by rw [Env.kindOf, hsc]; exact hk)) fun s₂ X₂ R₂ V₂ => ?_
  exact ⟨.next, _, H₁, μ₁, XS.trans X₂, R₂, V₂, rfl, q⟩
theorem TX_Cont {pos : Pos} {Q : Fl → Rho → MH → Prop} (h : Q .cont ρ H) : TX G k sc (.Continue pos) ρ H Q := fun env A E s μ hs hA V R => wpAny_Continue ⟨.cont, ρ, H, μ, ExtS.refl _ _ _, R, V, rfl, h⟩

-- what is asked behind a turn of a while
noncomputable abbrev whileQ (I : Nat → Rho → MH → Prop) (n : Nat) (Q : Fl → Rho → MH → Prop) : Fl → Rho → MH → Prop := fun fl ρ₂ H₂ => match fl with
      | .next | .cont => ∃ m, m < n ∧ I m ρ₂ H₂
      | .brk => Q .next ρ₂ H₂
      | .ret u => Q (.ret u) ρ₂ H₂
-- while, by an invariant
theorem TX_While {t : Expr} {b : List Stmt} {pos : Pos} {Q : Fl → Rho → MH → Prop} (I : Nat → Rho → MH → Prop) (n : Nat) (h0 : I n ρ H)
    (turn : ∀ n ρ H, I n ρ H → TB G k sc t ρ H fun c H₁ => if c then TS G k sc b ρ H₁ (whileQ I n Q) else Q .next ρ H₁) : TX G k sc (.While t b [] pos) ρ H Q := by
  intro env A E s μ hs hA V R
  refine wpAny_While (codeAny_whileLoop (fun n s' => ∃ ρ' H' μ', ExtS env μ s μ' s' ∧ HRel G H' μ' s'.heap ∧ EnvRel G env ρ' μ' s'.heap ∧ I n ρ' H') ?_ n ⟨ρ, H, μ, ExtS.refl _ _ _, R, V, h0⟩)
  rintro n s₁ ⟨ρ₁, H₁, μ₁, X₁, R₁, V₁, hi⟩
  refine wpAny_mono (turn n ρ₁ H₁ hi env A _ s₁ μ₁ hs hA V₁ R₁) ?_ fun _ _ e => e
  rintro c s₂ ⟨H₂, μ₂, X₂, R₂, q⟩
  have V₂ := V₁.ext X₂ R₁
  have XS := X₁.trans (X₂.toS (V₁.ownOut R₁))
  cases c with
  | true =>
    refine wpAny_mono (q env A _ s₂ μ₂ hs hA V₂ R₂) ?_ fun _ _ e => e
    rintro f s₃ ⟨fl, ρ₃, H₃, μ₃, X₃, R₃, V₃, hf, q'⟩
    have XX := XS.trans X₃
    cases fl with
    | next => cases hf; obtain ⟨m, hm, hi'⟩ := q'; exact ⟨m, hm, ρ₃, H₃, μ₃, XX, R₃, V₃, hi'⟩
    | cont => cases hf; obtain ⟨m, hm, hi'⟩ := q'; exact ⟨m, hm, ρ₃, H₃, μ₃, XX, R₃, V₃, hi'⟩
    | brk => cases hf; exact ⟨.next, ρ₃, H₃, μ₃, XX, R₃, V₃, rfl, q'⟩
    | ret u => obtain ⟨v, rfl, x⟩ := hf; exact ⟨.ret u, ρ₃, H₃, μ₃, XX, R₃, V₃, ⟨v, rfl, x⟩, q'⟩
  | false => exact wpAny_execs_nil ⟨.next, ρ₁, H₂, μ₂, XS, R₂, V₂, rfl, q⟩
-- while: the turn speaks of a J that the invariant gives
theorem TX_WhileJ {t : Expr} {b : List Stmt} {pos : Pos} {Q : Fl → Rho → MH → Prop} (I : Nat → Rho → MH → Prop) (n : Nat) (h0 : I n ρ H)
    (turn : ∀ n ρ H, I n ρ H → ∀ J : Fl → Rho → MH → Prop, (∀ m ρ H, m < n → I m ρ H → J .next ρ H ∧ J .cont ρ H) → (∀ u ρ H, Q (.ret u) ρ H → J (.ret u) ρ H) → TB G k sc t ρ H fun c H₁ => if c then TS G k sc b ρ H₁ J else Q .next ρ H₁) : TX G k sc (.While t b [] pos) ρ H Q :=
  TX_While I n h0 fun n ρ H h => turn n ρ H h (whileQ I n Q) (fun m _ _ hm hi => ⟨⟨m, hm, hi⟩, ⟨m, hm, hi⟩⟩) fun _ _ _ q => q
end
end Mine

end

section
namespace Mine
section
variable {G : Gh} {k : Nat} {sc : Scope} {ρ : Rho} {H : MH}

-- binding parameters
theorem bindL_out (K : Str → Option NameKind) {μ : List Addr} {h : Heap} {hb : Heap} : ∀ (names : List Str) (vs : List Value) (m : Str → Option Value) (x : Str), x ∉ names → bindL K (names.zip vs) m x = m x
  | [], _, _, _, _ => rfl
  | _ :: _, [], _, _, _ => rfl
  | n :: ns, v :: vs, m, x, hx => by
    rw [List.zip_cons_cons, bindL, bindL_out (μ := μ) (h := h) (hb := hb) K ns vs _ x fun q => hx (.tail _ q)]
    split
    · show (if x = n then _ else _) = _
      rw [if_neg]; rintro rfl; exact hx (.head _)
    · rfl
theorem bindC_out (K : Str → Option NameKind) {μ : List Addr} {h : Heap} {hb : Heap} : ∀ (names : List Str) (vs : List Value) (m : Str → Option Value) (x : Str), x ∉ names → bindC K (names.zip vs) m x = m x
  | [], _, _, _, _ => rfl
  | _ :: _, [], _, _, _ => rfl
  | n :: ns, v :: vs, m, x, hx => by
    rw [List.zip_cons_cons, bindC, bindC_out (μ := μ) (h := h) (hb := hb) K ns vs _ x fun q => hx (.tail _ q)]
    split
    · rfl
    · show (if x = n then _ else _) = _
      rw [if_neg]; rintro rfl; exact hx (.head _)
theorem bind_look (K : Str → Option NameKind) {μ : List Addr} {h : Heap} {hb : Heap} : ∀ (names : List Str) (us : List V) (vs : List Value) (m cm : Str → Option Value), names.Nodup → VRs hb μ h us vs → ∀ (x : Str) (u : V), (names.zip us).lookup x = some u →
    ∃ v, VR hb μ h u v ∧ (K x = some .local → bindL K (names.zip vs) m x = some v) ∧ (K x ≠ some .local → bindC K (names.zip vs) cm x = some v)
  | [], _, _, _, _, _, _, _, _, e => by simp at e
  | _ :: _, [], _, _, _, _, _, _, _, e => by simp at e
  | n :: ns, w :: us, vs, m, cm, hn, hv, x, u, e => by
    rw [VRs] at hv
    obtain ⟨v, r, rfl, a, b⟩ := hv
    rw [List.zip_cons_cons, List.lookup_cons] at e
    rw [List.zip_cons_cons, bindL, bindC]
    by_cases hx : (x == n) = true
    · rw [hx] at e
      have := eq_of_beq hx; subst this
      cases e
      have hout : x ∉ ns := (List.nodup_cons.mp hn).1
      refine ⟨v, a, fun hk => ?_, fun hk => ?_⟩
      · rw [if_pos hk, bindL_out (μ := μ) (h := h) (hb := hb) K ns r _ x hout]; simp
      · rw [if_neg hk, bindC_out (μ := μ) (h := h) (hb := hb) K ns r _ x hout]; simp
    · have : (x == n) = false := by simpa using hx
      rw [this] at e
      exact bind_look K ns us r _ _ (List.nodup_cons.mp hn).2 b x u e

theorem all1 {p : List Value → Prop} (h : ∀ x, p [x]) : ∀ vs : List Value, vs.length = 1 → p vs
  | [x], _ => h x
theorem all2 {p : List Value → Prop} (h : ∀ x y, p [x, y]) : ∀ vs : List Value, vs.length = 2 → p vs
  | [x, y], _ => h x y
theorem all3 {p : List Value → Prop} (h : ∀ x y z, p [x, y, z]) : ∀ vs : List Value, vs.length = 3 → p vs
  | [x, y, z], _ => h x y z
-- what a def's end hands on
noncomputable abbrev retQ (Q : V → MH → Prop) : Fl → Rho → MH → Prop := fun fl ρ' H' => match fl with | .ret u => Q u H' | _ => Q .none H'
theorem CT_enter {f : Str} {params : Arguments} {body : List Stmt} {scope : Scope} {names : List Str} {us : List V} {Q : V → MH → Prop} (B : G.Ok) (F : FnAt G f params body scope) (hl : us.length = names.length) (hn : names.Nodup)
    (hb : ∀ (pm code doc : Value) (vs : List Value), vs.length = names.length → bindArgs (docDef f params body scope pm code doc) ⟨vs, []⟩ = pure (names.zip vs))
    (hkind : ∀ x ∈ names, scope.names.lookup x = some .local ∨ scope.names.lookup x = some .cell) (hk : scope.kind = .function) (hco : scope.isCoroutine = false) (hgen : scope.isGenerator = false) (hfree : (scope.names.all fun x => x.2 != .free) = true := by rfl)
    (h : TS G k scope body (names.zip us) H (retQ Q)) : CT G (k + 1) f us H Q := by
  intro a ha A E s μ vs hA R hx
  obtain ⟨a', o, pm, code, doc, ha', ho, hdat, hcd⟩ := F.ex
  rw [ha] at ha'; cases ha'
  have hvl : vs.length = names.length := by rw [hx.length, hl]
  refine wpAny_call (codeAny_call_cells (fd := docDef f params body scope pm code doc) (binds := names.zip vs) hA.room (R.base _ _ ho) hdat (B.nolimit.keeps R.base) (hcd.keeps R.base) rfl (hb pm code doc vs hvl) rfl (fun y hy => ?_) (fun s₁ x => ?_) hco hgen hk)
  · rcases hkind y.1 (List.of_mem_zip hy).1 with q | q
    · exact .inl q
    · exact .inr ⟨q, cellsFrom_some _ _ _ (.inl q)⟩
  · generalize henv : callEnvC (docDef f params body scope pm code doc) s.heap.objs.size a = env at x ⊢
    have hsc : env.scope = scope := by subst henv; rfl
    have hloc : env.locals = s.heap.objs.size := by subst henv; rfl
    have hcells : env.cells = cellsFrom (s.heap.objs.size + 1) scope.names [] := by subst henv; rfl
    obtain ⟨h₁, tk₁, hs₁⟩ := x.toInCall.same
    have keep : ∀ b ob, s.heap.get? b = some ob → s₁.heap.get? b = some ob := x.toInCall.keep
    have ownNone : ∀ b, Own env b → s.heap.get? b = none := by
      rintro b (rfl | ⟨y, hy⟩)
      · rw [hloc]; exact get_size_none _
      · have := x.above y b (mem_of_lookup hy)
        rw [hloc] at this
        cases q : s.heap.get? b with
        | none => rfl
        | some ob => exact absurd (Heap.lt_size q) (Nat.not_lt.mpr (Nat.le_of_lt this))
    have R₁ : HRel G H μ s₁.heap := R.grow keep
    have tkp : TKeep s.heap s₁.heap := fun c ws n t => keep _ _ t
    have nb : ∀ b, s.heap.get? b = none → G.hb.get? b = none := fun b hb => by
      cases q : G.hb.get? b with
      | none => rfl
      | some ob => rw [R.base _ _ q] at hb; cases hb
    have look := fun (y : Str) (u : V) (e : (names.zip us).lookup y = some u) => bind_look env.kindOf names us vs (fun _ => none) (fun _ => none) hn (VRs.mono tkp (List.prefix_refl _) hx) y u e
    have V₁ : EnvRel G env (names.zip us) μ s₁.heap := by
      refine ⟨by rw [hsc]; exact hk, by subst henv; rfl, by subst henv; rfl, ⟨_, x.toInCall.ns, fun y u e hky => ?_⟩, fun y u e hky => ?_, fun y c hy => ⟨⟨_, x.cell y c hy⟩, nb c (ownNone c (.inr ⟨y, hy⟩))⟩, fun y hy => ?_, nb _ (ownNone _ (.inl rfl)), fun hm => ?_, fun y z c hy hz => name_of_addr x.apart (mem_of_lookup hy) (mem_of_lookup hz)⟩
      · obtain ⟨v, p, q, _⟩ := look y u e
        exact ⟨v, q hky, p⟩
      · obtain ⟨v, p, _, q⟩ := look y u e
        have hkn : env.kindOf y ≠ some .local := by rcases hky with z | z <;> rw [z] <;> decide
        have hyn : y ∈ names := by
          have := mem_of_lookup e
          exact (List.of_mem_zip this).1
        have hyc : scope.names.lookup y = some .cell := by
          rcases hkind y hyn with z | z
          · exact absurd (show env.kindOf y = some .local by rw [Env.kindOf, hsc]; exact z) hkn
          · exact z
        obtain ⟨c, hc⟩ := Option.isSome_iff_exists.mp (cellsFrom_some scope.names (s.heap.objs.size + 1) [] (.inl hyc))
        exact ⟨c, v, by rw [hcells]; exact hc, q hkn ▸ x.cell y c (by rw [hcells]; exact hc), p⟩
      · rw [hcells]
        rcases hy with hy | hy
        · rw [Env.kindOf, hsc] at hy; exact cellsFrom_some scope.names _ [] (.inl hy)
        · rw [Env.kindOf, hsc] at hy
          have := List.all_eq_true.mp hfree _ (mem_of_lookup hy)
          simp at this
      · obtain ⟨n, ob, _, _, z⟩ := R.at hm
        have := ownNone env.locals (.inl rfl)
        cases ob with
        | list l => obtain ⟨ws, m, e, _⟩ := z; rw [IsL, this] at e; cases e
        | dict l ep => obtain ⟨xs, ⟨o', es, e, _⟩, _⟩ := z; rw [this] at e; cases e
    refine wpAny_mono (h env (A.deeper env) _ s₁ μ hsc (hA.deeper env) V₁ R₁) ?_ fun _ _ e => e
    rintro fl s₂ ⟨fl', ρ', H', μ', X, R₂, V₂, hf, q⟩
    have XX : Ext μ s μ' s₂ := by
      refine ⟨?_, X.pre, fun b hb => ?_, fun b ob e n => X.keep b ob (keep b ob e) n fun w => by rw [ownNone b w] at e; cases e⟩
      · obtain ⟨h₂, tk₂, hs₂⟩ := X.same
        exact ⟨h₂, tk₂, by rw [hs₂, hs₁]⟩
      · rcases X.new b hb with w | w
        · exact .inl w
        · refine .inr ?_
          cases q : s.heap.get? b with
          | none => rfl
          | some ob => rw [keep b ob q] at w; cases w
    cases fl' with
    | ret u => obtain ⟨v, rfl, y⟩ := hf; exact ⟨u, H', μ', XX, R₂, y, q⟩
    | next => cases hf; exact ⟨.none, H', μ', XX, R₂, vNone, q⟩
    | brk => cases hf; exact ⟨.none, H', μ', XX, R₂, vNone, q⟩
    | cont => cases hf; exact ⟨.none, H', μ', XX, R₂, vNone, q⟩

noncomputable def entOk (sc : Scope) (xs : List Str) : Bool := decide xs.Nodup && xs.all (fun x => sc.names.lookup x == some .local || sc.names.lookup x == some .cell) && decide (sc.kind = .function) && (!sc.isCoroutine && !sc.isGenerator) && sc.names.all fun x => x.2 != .free
theorem CT_enterN {f : Str} {params : Arguments} {body : List Stmt} {scope : Scope} {names : List Str} {us : List V} {Q : V → MH → Prop} (B : G.Ok) (F : FnAt G f params body scope) (ok : entOk scope names = true) (hl : us.length = names.length)
    (hb : ∀ (pm code doc : Value) (vs : List Value), vs.length = names.length → bindArgs (docDef f params body scope pm code doc) ⟨vs, []⟩ = pure (names.zip vs)) (h : TS G k scope body (names.zip us) H (retQ Q)) : CT G (k + 1) f us H Q := by
  simp only [entOk, Bool.and_eq_true, decide_eq_true_eq, Bool.not_eq_true', List.all_eq_true, Bool.or_eq_true, beq_iff_eq] at ok
  obtain ⟨⟨⟨⟨h1, h2⟩, h3⟩, h4, h5⟩, h6⟩ := ok
  exact CT_enter B F hl h1 hb h2 h3 h4 h5 (List.all_eq_true.mpr h6) h
theorem CT_enter1 {f : Str} {params : Arguments} {body : List Stmt} {scope : Scope} {x : Str} {u : V} {Q : V → MH → Prop} (B : G.Ok) (F : FnAt G f params body scope) (ok : entOk scope [x] = true)
    (hb : ∀ pm code doc a : Value, bindArgs (docDef f params body scope pm code doc) ⟨[a], []⟩ = pure [(x, a)]) (h : TS G k scope body [(x, u)] H (retQ Q)) : CT G (k + 1) f [u] H Q :=
  CT_enterN (names := [x]) B F ok rfl (fun pm code doc => all1 fun a => hb pm code doc a) h
theorem CT_enter2 {f : Str} {params : Arguments} {body : List Stmt} {scope : Scope} {x y : Str} {u v : V} {Q : V → MH → Prop} (B : G.Ok) (F : FnAt G f params body scope) (ok : entOk scope [x, y] = true)
    (hb : ∀ pm code doc a b : Value, bindArgs (docDef f params body scope pm code doc) ⟨[a, b], []⟩ = pure [(x, a), (y, b)]) (h : TS G k scope body [(x, u), (y, v)] H (retQ Q)) : CT G (k + 1) f [u, v] H Q :=
  CT_enterN (names := [x, y]) B F ok rfl (fun pm code doc => all2 fun a b => hb pm code doc a b) h
theorem CT_enter3 {f : Str} {params : Arguments} {body : List Stmt} {scope : Scope} {x y z : Str} {u v w : V} {Q : V → MH → Prop} (B : G.Ok) (F : FnAt G f params body scope) (ok : entOk scope [x, y, z] = true)
    (hb : ∀ pm code doc a b c : Value, bindArgs (docDef f params body scope pm code doc) ⟨[a, b, c], []⟩ = pure [(x, a), (y, b), (z, c)]) (h : TS G k scope body [(x, u), (y, v), (z, w)] H (retQ Q)) : CT G (k + 1) f [u, v, w] H Q :=
  CT_enterN (names := [x, y, z]) B F ok rfl (fun pm code doc => all3 fun a b c => hb pm code doc a b c) h
theorem if_T {p : Prop} [Decidable p] {A B : Prop} (hp : p) (h : A) : if decide p = true then A else B := by rw [decide_eq_true hp, if_pos rfl]; exact h
theorem if_F {p : Prop} [Decidable p] {A B : Prop} (hp : ¬ p) (h : B) : if decide p = true then A else B := by rw [decide_eq_false hp, if_neg Bool.false_ne_true]; exact h

-- unpacking
noncomputable def namesOf : List Expr → Option (List Str)
  | [] => some []
  | .Name x _ :: r => (namesOf r).map (x :: ·)
  | _ => none
noncomputable def bindN : List Str → List V → Rho → Rho
  | x :: xs, u :: us, ρ => bindN xs us (upd x u ρ)
  | _, _, ρ => ρ
theorem wpAny_inOrder {env : Env} {W : Addr → Prop} {A : Around} (hW : ∀ a, W a → Own env a) : ∀ (elts : List Expr) (names : List Str) (us : List V) (vs : List Value) (ρ : Rho) (E : Value → Shared → Prop) (s : Shared) (μ : List Addr) (P : Unit → Shared → Prop), namesOf elts = some names → (∀ x ∈ names, StOk env W x) →
    EnvRel G env ρ μ s.heap → HRel G H μ s.heap → VRs G.hb μ s.heap us vs → us.length = names.length →
    (∀ s', ExtW W μ s μ s' → HRel G H μ s'.heap → EnvRel G env (bindN names us ρ) μ s'.heap → P () s') → wpAny G.M A (assignInOrder ((assignEach elts env).map (·.2)) vs) P E s
  | [], names, us, vs, ρ, E, s, μ, P, hn, _, V, R, x, hl, h => by
    cases hn
    cases us with
    | nil => rw [VRs] at x; subst x; exact wpAny_pure (h s (ExtW.refl _ _ _) R V)
    | cons _ _ => simp at hl
  | .Name y p :: r, names, us, vs, ρ, E, s, μ, P, hn, hk, V, R, x, hl, h => by
    obtain ⟨ns, hns, rfl⟩ := Option.map_eq_some_iff.mp hn
    cases us with
    | nil => simp at hl
    | cons u us =>
      rw [VRs] at x
      obtain ⟨v, vs', rfl, a, b⟩ := x
      show wpAny G.M A (holding vs' (assign (.Name y p) env v) >>= fun _ => assignInOrder ((assignEach r env).map (·.2)) vs') P E s
      refine wpAny_bind (wpAny_holding (PySem.wpAny_assign_Name (wpAny_store V R a (hk y (.head _)) fun s₁ X₁ R₁ V₁ => ?_)))
      have tkp : TKeep s.heap s₁.heap := fun c ws n t => X₁.keep c _ t (R.notTuple t) fun w => V.ownSeq c (hW c w) _ t _ _ rfl
      exact wpAny_inOrder hW r ns us vs' _ E s₁ μ P hns (fun z hz => hk z (.tail _ hz)) V₁ R₁ (VRs.mono tkp (List.prefix_refl _) b) (by simpa using hl) fun s₂ X₂ R₂ V₂ => h s₂ (X₁.trans X₂) R₂ V₂
  | .BoolOp .. :: _, _, _, _, _, _, _, _, _, hn, _, _, _, _, _, _ => by cases hn
  | .NamedExpr .. :: _, _, _, _, _, _, _, _, _, hn, _, _, _, _, _, _ => by cases hn
  | .BinOp .. :: _, _, _, _, _, _, _, _, _, hn, _, _, _, _, _, _ => by cases hn
  | .UnaryOp .. :: _, _, _, _, _, _, _, _, _, hn, _, _, _, _, _, _ => by cases hn
  | .Lambda .. :: _, _, _, _, _, _, _, _, _, hn, _, _, _, _, _, _ => by cases hn
  | .IfExp .. :: _, _, _, _, _, _, _, _, _, hn, _, _, _, _, _, _ => by cases hn
  | .Dict .. :: _, _, _, _, _, _, _, _, _, hn, _, _, _, _, _, _ => by cases hn
  | .Set .. :: _, _, _, _, _, _, _, _, _, hn, _, _, _, _, _, _ => by cases hn
  | .ListComp .. :: _, _, _, _, _, _, _, _, _, hn, _, _, _, _, _, _ => by cases hn
  | .SetComp .. :: _, _, _, _, _, _, _, _, _, hn, _, _, _, _, _, _ => by cases hn
  | .DictComp .. :: _, _, _, _, _, _, _, _, _, hn, _, _, _, _, _, _ => by cases hn
  | .GeneratorExp .. :: _, _, _, _, _, _, _, _, _, hn, _, _, _, _, _, _ => by cases hn
  | .Await .. :: _, _, _, _, _, _, _, _, _, hn, _, _, _, _, _, _ => by cases hn
  | .Yield .. :: _, _, _, _, _, _, _, _, _, hn, _, _, _, _, _, _ => by cases hn
  | .YieldFrom .. :: _, _, _, _, _, _, _, _, _, hn, _, _, _, _, _, _ => by cases hn
  | .Compare .. :: _, _, _, _, _, _, _, _, _, hn, _, _, _, _, _, _ => by cases hn
  | .Call .. :: _, _, _, _, _, _, _, _, _, hn, _, _, _, _, _, _ => by cases hn
  | .FormattedValue .. :: _, _, _, _, _, _, _, _, _, hn, _, _, _, _, _, _ => by cases hn
  | .JoinedStr .. :: _, _, _, _, _, _, _, _, _, hn, _, _, _, _, _, _ => by cases hn
  | .Constant .. :: _, _, _, _, _, _, _, _, _, hn, _, _, _, _, _, _ => by cases hn
  | .Attribute .. :: _, _, _, _, _, _, _, _, _, hn, _, _, _, _, _, _ => by cases hn
  | .Subscript .. :: _, _, _, _, _, _, _, _, _, hn, _, _, _, _, _, _ => by cases hn
  | .Starred .. :: _, _, _, _, _, _, _, _, _, hn, _, _, _, _, _, _ => by cases hn
  | .List .. :: _, _, _, _, _, _, _, _, _, hn, _, _, _, _, _, _ => by cases hn
  | .Tuple .. :: _, _, _, _, _, _, _, _, _, hn, _, _, _, _, _, _ => by cases hn
  | .Slice .. :: _, _, _, _, _, _, _, _, _, hn, _, _, _, _, _, _ => by cases hn
theorem assignEach_len {env : Env} : ∀ (elts : List Expr) (names : List Str), namesOf elts = some names → (assignEach elts env).length = names.length ∧ (assignEach elts env).findIdx? (·.1) = none
  | [], names, hn => by cases hn; exact ⟨rfl, rfl⟩
  | e :: r, names, hn => by
    cases e with
    | Name y p =>
      obtain ⟨ns, hns, rfl⟩ := Option.map_eq_some_iff.mp hn
      have q := assignEach_len (env := env) r ns hns
      have e : assignEach (.Name y p :: r) env = (false, assign (.Name y p) env) :: assignEach r env := rfl
      rw [e, List.findIdx?_cons]
      exact ⟨by simp [q.1], by simp [q.2]⟩
    | _ => cases hn

-- the swapped order
theorem wpAny_inOrderB {env : Env} {W : Addr → Prop} {A : Around} (hW : ∀ a, W a → Own env a) : ∀ (names : List Str) (us : List V) (vs : List Value) (ρ : Rho) (E : Value → Shared → Prop) (s : Shared) (μ : List Addr) (P : Unit → Shared → Prop), (∀ x ∈ names, StOk env W x) →
    EnvRel G env ρ μ s.heap → HRel G H μ s.heap → VRs G.hb μ s.heap us vs → us.length = names.length →
    (∀ s', ExtW W μ s μ s' → HRel G H μ s'.heap → EnvRel G env (bindN names us ρ) μ s'.heap → P () s') → wpAny G.M A (assignInOrder (names.map fun n => bindName env n) vs) P E s
  | [], us, vs, ρ, E, s, μ, P, _, V, R, x, hl, h => by
    cases us with
    | nil => rw [VRs] at x; subst x; exact wpAny_pure (h s (ExtW.refl _ _ _) R V)
    | cons _ _ => simp at hl
  | y :: ns, us, vs, ρ, E, s, μ, P, hk, V, R, x, hl, h => by
    cases us with
    | nil => simp at hl
    | cons u us =>
      rw [VRs] at x
      obtain ⟨v, vs', rfl, a, b⟩ := x
      show wpAny G.M A (holding vs' (bindName env y v) >>= fun _ => assignInOrder (ns.map fun n => bindName env n) vs') P E s
      refine wpAny_bind (wpAny_holding (wpAny_bindName (wpAny_store V R a (hk y (.head _)) fun s₁ X₁ R₁ V₁ => ?_)))
      have tkp : TKeep s.heap s₁.heap := fun c ws n t => X₁.keep c _ t (R.notTuple t) fun w => V.ownSeq c (hW c w) _ t _ _ rfl
      exact wpAny_inOrderB hW ns us vs' _ E s₁ μ P (fun z hz => hk z (.tail _ hz)) V₁ R₁ (VRs.mono tkp (List.prefix_refl _) b) (by simpa using hl) fun s₂ X₂ R₂ V₂ => h s₂ (X₁.trans X₂) R₂ V₂
theorem VRs.reverse {hb : Heap} {μ : List Addr} {h : Heap} : ∀ {l : List V} {vs : List Value}, VRs hb μ h l vs → VRs hb μ h l.reverse vs.reverse
  | [], _, x => by rw [VRs] at x; subst x; simp [VRs]
  | _ :: _, _, x => by
    rw [VRs] at x
    obtain ⟨v, r, rfl, a, b⟩ := x
    simpa using VRs.append (VRs.reverse b) (VRs.one a)

theorem EnvRel.grow {env : Env} {μ : List Addr} {s : Shared} {h' : Heap} {tk : Nat} (V : EnvRel G env ρ μ s.heap) (R : HRel G H μ s.heap) (hk : ∀ b ob, s.heap.get? b = some ob → h'.get? b = some ob) : EnvRel G env ρ μ h' :=
  V.ext (s' := { s with heap := h', toks := tk }) (Ext.grow hk) R
theorem IsT.isTuple {h : Heap} {a : Addr} {vs : Array Value} {n : Nat} (t : IsT h a vs n) : h.IsTuple a vs := ⟨_, t, rfl, n, rfl⟩
theorem IsT.isTup {h : Heap} {a : Addr} {vs : Array Value} {n : Nat} (t : IsT h a vs n) : IsTup h a vs := ⟨_, t, rfl, n, rfl⟩
theorem extBut_size {h h' : Heap} (x : Heap.ExtBut h.objs.size h h') : ∀ b ob, h.get? b = some ob → h'.get? b = some ob := fun b ob e => x b ob (Nat.ne_of_lt (Heap.lt_size e)) e

-- t1, t2 = value: a tuple
theorem wpAny_target {env : Env} {W : Addr → Prop} {A : Around} {E : Value → Shared → Prop} {s : Shared} {μ : List Addr} {elts : List Expr} {kk : Nat} {tpos : Pos} {names : List Str} {us : List V} {v : Value} {P : Unit → Shared → Prop} (hA : AOk k A) (hW : ∀ a, W a → Own env a) (hn : namesOf elts = some names)
    (hk : ∀ x ∈ names, StOk env W x) (V : EnvRel G env ρ μ s.heap) (R : HRel G H μ s.heap) (x : VR G.hb μ s.heap (.tup us) v) (hl : us.length = names.length)
    (h : ∀ s', ExtW W μ s μ s' → HRel G H μ s'.heap → EnvRel G env (bindN names us ρ) μ s'.heap → P () s') : wpAny G.M A (assign (.Tuple elts kk tpos) env v) P E s := by
  rw [VR] at x
  obtain ⟨a, vs, n, rfl, t, _, y⟩ := x
  obtain ⟨q1, q2⟩ := assignEach_len (env := env) elts names hn
  have hsz : vs.size = us.length := by have := y.length; simpa using this
  refine wpAny_assign_Tuple hA.1 (IsT.isTuple t) (by rw [q1, hsz, hl]) q2 fun h' hx => ?_
  have kp := extBut_size hx
  have X : Ext μ s μ { s with heap := h' } := Ext.grow (tk := s.toks) kp
  exact wpAny_inOrder hW elts names us vs.toList ρ E _ μ P hn hk (V.ext X R) (R.grow kp) (X.vrs R y) hl fun s₂ X₂ R₂ V₂ => h s₂ ((X.toW fun a w => V.ownOut R a (hW a w)).trans X₂) R₂ V₂

theorem TX_AssignT {elts : List Expr} {kk : Nat} {tpos pos : Pos} {e : Expr} {names : List Str} {Q : Fl → Rho → MH → Prop} (hn : namesOf elts = some names) (hk : ∀ x ∈ names, sc.names.lookup x = some .local ∨ sc.names.lookup x = some .cell)
    (h : TE G k sc e ρ H fun u H' => ∃ us, u = .tup us ∧ us.length = names.length ∧ Q .next (bindN names us ρ) H')
    (hs : ∀ env, swapsWithSole [.Tuple elts kk tpos] e pos.line env = pure false := by intro _; rfl) (hw : ∀ env, env.scope = sc → swappedStores [.Tuple elts kk tpos] e env = pure none := by (intro env q; cases env; cases q; rfl)) :
    TX G k sc (.Assign [.Tuple elts kk tpos] e pos) ρ H Q := by
  intro env A E s μ hsc hA V R
  refine Assign_Tuple (wpAny_mono (h env A E s μ hsc hA V R) ?_ fun _ _ e => e) (hs env) (hw env hsc)
  rintro v s₁ ⟨u, H₁, μ₁, X, R₁, y, us, rfl, hl, q⟩
  exact wpAny_target hA (fun _ w => w) hn (fun z hz => StOk.own (by rw [Env.kindOf, hsc]; exact hk z hz)) (V.ext X R) R₁ y hl fun s₂ X₂ R₂ V₂ => ⟨.next, _, H₁, μ₁, (X.toS (V.ownOut R)).trans X₂, R₂, V₂, rfl, q⟩
theorem TX_AssignSw {elts : List Expr} {kk : Nat} {tpos pos : Pos} {e : Expr} {names : List Str} {Q : Fl → Rho → MH → Prop} (hk : ∀ x ∈ names, sc.names.lookup x = some .local ∨ sc.names.lookup x = some .cell)
    (h : TE G k sc e ρ H fun u H' => ∃ us, u = .tup us ∧ us.length = names.length ∧ Q .next (bindN names.reverse us.reverse ρ) H')
    (hw : ∀ env, env.scope = sc → swappedStores [.Tuple elts kk tpos] e env = pure (some names) := by (intro env q; cases env; cases q; rfl))
    (hs : ∀ env, swapsWithSole [.Tuple elts kk tpos] e pos.line env = pure false := by intro _; rfl) :
    TX G k sc (.Assign [.Tuple elts kk tpos] e pos) ρ H Q := by
  intro env A E s μ hsc hA V R
  refine Assign_Tuple_swapped (wpAny_mono (h env A E s μ hsc hA V R) ?_ fun _ _ e => e) (hs env) (hw env hsc)
  rintro v s₁ ⟨u, H₁, μ₁, X, R₁, y, us, rfl, hl, q⟩
  rw [VR] at y
  obtain ⟨a, vs, n, rfl, t, _, y⟩ := y
  have hsz : vs.size = us.length := by have := y.length; simpa using this
  rw [← hl, ← hsz]
  refine wpAny_unpackItems_tuple hA.1 (IsT.isTuple t) fun h' hx => ?_
  have kp := extBut_size hx
  have X' : Ext μ₁ s₁ μ₁ { s₁ with heap := h' } := Ext.grow (tk := s₁.toks) kp
  have V₁ := V.ext X R
  exact wpAny_inOrderB (fun _ w => w) names.reverse us.reverse vs.toList.reverse ρ E _ μ₁ _ (fun z hz => StOk.own (by rw [Env.kindOf, hsc]; exact hk z (List.mem_reverse.mp hz))) (V₁.ext X' R₁) (R₁.grow kp) (X'.vrs R₁ y).reverse (by simpa using hl)
    fun s₂ X₂ R₂ V₂ => ⟨.next, _, H₁, μ₁, ((X.trans X').toS (V.ownOut R)).trans X₂, R₂, V₂, rfl, q⟩

theorem TX_Aug {x : Str} {pos' pos : Pos} {op : Operator} {e : Expr} {u : V} {Q : Fl → Rho → MH → Prop} (hl : ρ.lookup x = some u) (hk : sc.names.lookup x = some .local)
    (h : TE G k sc e ρ H fun w H' => PBin G k (inplaceOp op) u w H' fun r H₂ => Q .next (upd x r ρ) H₂) : TX G k sc (.AugAssign (.Name x pos') op e pos) ρ H Q := by
  intro env A E s μ hsc hA V R
  subst hsc
  obtain ⟨m, hn, hm⟩ := V.ns
  obtain ⟨v, a, b⟩ := hm x u hl hk
  refine wpAny_AugAssign_Name (wpAny_loadName_local V.kind hk hn a ?_)
  refine wpAny_mono (h env A E s μ rfl hA V R) ?_ fun _ _ e => e
  rintro w s₁ ⟨u₁, H₁, μ₁, X, R₁, y, q⟩
  refine wpAny_mono (q A E s₁ μ₁ v w hA R₁ (X.vr R b) y) ?_ fun _ _ e => e
  rintro r s₂ ⟨u₂, H₂, μ₂, X₂, R₂, z, q₂⟩
  have XX := X.trans X₂
  have V₂ := V.ext XX R
  exact wpAny_store V₂ R₂ z (StOk.own (.inl hk)) fun s₃ X₃ R₃ V₃ => ⟨.next, _, H₂, μ₂, (XX.toS (V.ownOut R)).trans X₃, R₃, V₃, rfl, q₂⟩

theorem TX_Expr {e : Expr} {pos : Pos} {Q : Fl → Rho → MH → Prop} (h : TE G k sc e ρ H fun _ H' => Q .next ρ H') (hi : sc.kind = .function) (hs : ∀ env, swapsWith e none pos.line env = pure false := by intro _; rfl) :
    TX G k sc (.Expr e pos) ρ H Q := by
  intro env A E s μ hsc hA V R
  refine wpAny_Expr_any (wpAny_mono (h env A E s μ hsc hA V R) ?_ fun _ _ e => e) (by unfold interactive; rw [hsc, hi]; rfl) (hs env)
  rintro v s₁ ⟨u, H₁, μ₁, X, R₁, y, q⟩
  exact ⟨.next, ρ, H₁, μ₁, X.toS (V.ownOut R), R₁, V.ext X R, rfl, q⟩
-- o[i] = e
noncomputable def PSet (G : Gh) (k : Nat) (o i v : V) (H : MH) (Q : MH → Prop) : Prop :=
  ∀ (A : Around) (E : Value → Shared → Prop) (s : Shared) (μ : List Addr) (vo vi vv : Value), AOk k A → HRel G H μ s.heap → VR G.hb μ s.heap o vo → VR G.hb μ s.heap i vi → VR G.hb μ s.heap v vv →
    wpAny G.M A (setItem vo vi vv) (fun _ s' => ∃ H' μ', Ext μ s μ' s' ∧ HRel G H' μ' s'.heap ∧ Q H') E s
theorem TX_SetItem {o i e : Expr} {pos' pos : Pos} {Q : Fl → Rho → MH → Prop}
    (h : TE G k sc e ρ H fun v H₁ => TE G k sc o ρ H₁ fun vo H₂ => TE G k sc i ρ H₂ fun vi H₃ => PSet G k vo vi v H₃ fun H₄ => Q .next ρ H₄)
    (hs : ∀ env, env.scope = sc → swapsWith e (some (.Subscript o i pos')) pos.line env = pure false := by intro _ _; rfl) : TX G k sc (.Assign [.Subscript o i pos'] e pos) ρ H Q := by
  intro env A E s μ hsc hA V R
  refine wpAny_Assign_Subscript (wpAny_mono (h env A E s μ hsc hA V R) ?_ fun _ _ e => e) (hs env hsc)
  rintro v s₁ ⟨u, H₁, μ₁, X, R₁, y, q⟩
  have V₁ := V.ext X R
  refine two (Qm := fun a b H₃ => PSet G k a b u H₃ fun H₄ => Q .next ρ H₄) hsc hA V₁ R₁ q fun a b H₂ μ₂ v1 v2 s₂ X₂ R₂ x1 x2 q₂ V₂ => ?_
  refine wpAny_mono (q₂ A E s₂ μ₂ v1 v2 v hA R₂ x1 x2 (X₂.vr R₁ y)) ?_ fun _ _ e => e
  rintro _ s₃ ⟨H₃, μ₃, X₃, R₃, q₃⟩
  have XX := (X.trans X₂).trans X₃
  exact ⟨.next, ρ, H₃, μ₃, XX.toS (V.ownOut R), R₃, V.ext XX R, rfl, q₃⟩
end
end Mine

end

section
namespace Mine

section
variable {prog : Program} {w : World} {A : Around} {E : Value → Shared → Prop} {s : Shared}

-- the next item of a tuple's iterator, as enumerate asks for it
theorem nextOf_tuple {it t : Addr} {i : Nat} {items : Array Value} {x : Value} {Q : Value → Shared → Prop} (hit : s.heap.IsTupleIter it t i) (ht : s.heap.IsTuple t items) (hx : items[i]? = some x)
    (hQ : ∀ h', h'.IsTupleIter it t (i + 1) → Heap.SameBut it s.heap h' → Q x { s with heap := h' }) : wpAny (model prog w) A (Builtin.SmallTypes.nextOf (.ref it)) Q E s := by
  obtain ⟨o, ho, hc, hd⟩ := id hit
  obtain ⟨ot, hot, _, nt, hdt⟩ := ht
  unfold Builtin.SmallTypes.nextOf
  refine wpAny_bind (wpAny_callSpecial?_slot (name := Str.ofString "__next__") hit.typeIs PySem.F.slot_tuple_iterator_next (wpAny_call_entry PySem.F.slot_tuple_iterator_next hit.typeIs PySem.F.entry_tuple_iterator_next ?_ (PySem.F.args_tuple_iterator_next_1 _)))
  show wpAny _ _ (field (.ref it) 0 >>= _) _ _ s
  refine wpAny_bind (wpAny_field ho hd (x := .ref t) rfl ?_)
  show wpAny _ _ (if (Value.ref t == Value.none) = true then _ else _) _ _ s
  rw [if_neg (show ¬ ((Value.ref t == Value.none) = true) from Bool.false_ne_true)]
  show wpAny _ _ (field (.ref it) 1 >>= _) _ _ s
  refine wpAny_bind (wpAny_field ho hd (x := .int i 0) rfl ?_)
  show wpAny _ _ (seqItems? (.ref t) >>= _) _ _ s
  refine wpAny_bind (wpAny_seqItems hot hdt ?_)
  simp only [Int.toNat_natCast, hx]
  refine wpAny_bind (wpAny_setField ho hd (by simp) (wpAny_pure ⟨x, rfl, wpAny_pure (hQ _ ?_ (Heap.SameBut.update ..))⟩))
  exact ⟨_, Heap.get?_update_self _ ho (Obj.isFreed_of_fields (Obj.data_mapFields hd _)), (Obj.cls_mapFields ..).trans hc, by rw [Obj.data_mapFields hd]; simp [rawInt]⟩
theorem nextOf_tuple_end {it t : Addr} {i : Nat} {items : Array Value} {Q : Value → Shared → Prop} (hh : A.handled = none) (hit : s.heap.IsTupleIter it t i) (ht : s.heap.IsTuple t items) (hx : items[i]? = none)
    (hE : ∀ h' e, Heap.ExtBut it s.heap h' → (∃ o, h'.get? e = some o ∧ o.cls = .type "StopIteration") → E (.ref e) { s with heap := h' }) : wpAny (model prog w) A (Builtin.SmallTypes.nextOf (.ref it)) Q E s := by
  obtain ⟨o, ho, hc, hd⟩ := id hit
  obtain ⟨ot, hot, _, nt, hdt⟩ := ht
  unfold Builtin.SmallTypes.nextOf
  refine wpAny_bind (wpAny_callSpecial?_slot (name := Str.ofString "__next__") hit.typeIs PySem.F.slot_tuple_iterator_next (wpAny_call_entry PySem.F.slot_tuple_iterator_next hit.typeIs PySem.F.entry_tuple_iterator_next ?_ (PySem.F.args_tuple_iterator_next_1 _)))
  show wpAny _ _ (field (.ref it) 0 >>= _) _ _ s
  refine wpAny_bind (wpAny_field ho hd (x := .ref t) rfl ?_)
  show wpAny _ _ (if (Value.ref t == Value.none) = true then _ else _) _ _ s
  rw [if_neg (show ¬ ((Value.ref t == Value.none) = true) from Bool.false_ne_true)]
  show wpAny _ _ (field (.ref it) 1 >>= _) _ _ s
  refine wpAny_bind (wpAny_field ho hd (x := .int i 0) rfl ?_)
  show wpAny _ _ (seqItems? (.ref t) >>= _) _ _ s
  refine wpAny_bind (wpAny_seqItems hot hdt ?_)
  simp only [Int.toNat_natCast, hx]
  refine wpAny_bind (wpAny_rule (wpAny_bind (wpAny_setField ho hd (by simp) ?_)))
  show wpAny _ _ (newExc (.type "StopIteration") [] >>= _) _ _ _
  refine wpAny_bind ?_
  simp only [newExc, newTuple]
  refine wpAny_bind (wpAny_newObj_type ?_ (by size_fits))
  refine wpAny_bind (m := firstArgMember _ _) (wpAny_of_eq (a := Value.none) (by first | rfl | (simp only [firstArgMember]; rfl)) ?_)
  refine wpAny_newObj_type ?_ (by size_fits)
  simp only [raiseNew]
  refine wpAny_bind (wpAny_handled ?_)
  first | rw [show A.in1.handled = none from hh] | rw [hh]
  refine wpAny_bind (wpAny_pure (wpAny_throw ?_))
  exact hE _ _ (((Heap.SameBut.update ..).extBut.push _).push _) ⟨_, Heap.get?_push_size _ rfl, rfl⟩

-- enumerate over any inner iterator
theorem enum_next {e it : Addr} {i : Nat} {x old : Value} {Q : Value → Shared → Prop} {J : Heap → Prop} (he : IsEnum s.heap e it i old) (hne : e ≠ it)
    (hJ : ∀ h h', J h → Heap.ExtBut e h h' → J h')
    (hin : ∀ (Q' : Value → Shared → Prop), (∀ h', J h' → Heap.SameBut it s.heap h' → Q' x { s with heap := h' }) → wpAny (model prog w) A (Builtin.SmallTypes.nextOf (.ref it)) Q' E s)
    (hQ : ∀ h' T tk, IsEnumOut h' e it ((i : Int) + 1) x T → J h' → s.heap.get? T = none → IsT h' T #[.int i tk, x] 0 →
      (∀ b o, b ≠ e → b ≠ it → s.heap.get? b = some o → h'.get? b = some o) → Q (.ref T) { s with heap := h', toks := s.toks + 1 }) :
    wpAny (model prog w) A (Builtin.«enumerate.__next__» ⟨[.ref e], []⟩) (fun fin s' => ∃ v, fin = .done (.ret v) ∧ Q v s') E s := by
  show wpAny _ _ (field (.ref e) 2 >>= _) _ _ _
  refine wpAny_bind (wpAny_field he rfl (x := .ref it) rfl ?_)
  refine wpAny_bind (hin _ fun h₁ j₁ hs₁ => ?_)
  obtain ⟨hp, g, d, tk, os⟩ := s
  replace hs₁ : Heap.SameBut it hp h₁ := hs₁
  replace he : IsEnum hp e it i old := he
  have he₁ : IsEnum h₁ e it i old := (hs₁.2 e hne).trans he
  show wpAny _ _ (field (.ref e) 3 >>= _) _ _ ⟨h₁, g, d, tk, os⟩
  refine wpAny_bind (wpAny_field he₁ rfl (x := rawInt i) rfl ?_)
  show wpAny _ _ (field (.ref e) 4 >>= _) _ _ ⟨h₁, g, d, tk, os⟩
  refine wpAny_bind (wpAny_field he₁ rfl (x := .none) rfl ?_)
  show wpAny _ _ (mkInt i >>= _) _ _ ⟨h₁, g, d, tk, os⟩
  refine wpAny_bind (wpAny_mkInt ?_)
  show wpAny _ _ (setField (.ref e) 3 (rawInt ((i : Int) + 1)) >>= _) _ _ ⟨h₁, g, d, tk + 1, os⟩
  refine wpAny_bind (wpAny_setField_rec he₁ (by simp) fun h₂ he₂ hs₂ => ?_)
  replace hs₂ : Heap.SameBut e h₁ h₂ := hs₂
  replace he₂ : IsEnum h₂ e it ((i : Int) + 1) old := he₂
  show wpAny _ _ (setField (.ref e) 4 .none >>= _) _ _ ⟨h₂, g, d, tk + 1, os⟩
  refine wpAny_bind (wpAny_setField_rec he₂ (by simp) fun h₃ he₃ hs₃ => ?_)
  replace hs₃ : Heap.SameBut e h₂ h₃ := hs₃
  replace he₃ : IsEnum h₃ e it ((i : Int) + 1) old := he₃
  show wpAny _ _ (newTuple [.int i tk, x] >>= _) _ _ ⟨h₃, g, d, tk + 1, os⟩
  refine wpAny_bind (wpAny_newTuple ?_)
  have he₄ : IsEnum (h₃.push { cls := .type "tuple", data := .seq #[.int i tk, x] }) e it ((i : Int) + 1) old := Heap.get?_push_of_some _ he₃
  generalize hh₄ : h₃.push { cls := .type "tuple", data := .seq #[.int i tk, x] } = h₄ at he₄
  have hsz : h₃.objs.size = hp.objs.size := by rw [hs₃.1, hs₂.1, hs₁.1]
  have hel : e < hp.objs.size := Heap.lt_size he
  have ht₄ : h₄.get? hp.objs.size = some { cls := .type "tuple", data := .seq #[.int i tk, x] } := by rw [← hh₄, ← hsz]; exact Heap.get?_push_size _ rfl
  have x₄ : Heap.ExtBut e h₁ h₄ := by rw [← hh₄]; exact (hs₂.trans hs₃).extBut.push _
  have hk₄ : ∀ b o, b ≠ e → b ≠ it → hp.get? b = some o → h₄.get? b = some o := fun b o hbe hbi hb => x₄ b o hbe (hs₁.extBut b o hbi hb)
  show wpAny _ _ (Builtin.SmallTypes.ownedTupleIsFree (.ref e) >>= _) _ _ ⟨h₄, g, d, tk + 1, os⟩
  rw [hsz]
  refine wpAny_bind ?_
  · unfold Builtin.SmallTypes.ownedTupleIsFree
    refine wpAny_bind (wpAny_field he₄ rfl (x := .none) rfl (wpAny_pure ?_))
    simp only [if_true]
    refine wpAny_bind (wpAny_rule ?_)
    refine wpAny_bind (wpAny_field he₄ rfl (x := old) rfl ?_)
    refine wpAny_bind (wpAny_setField_rec he₄ (by simp) fun h₅ he₅ hs₅ => ?_)
    replace hs₅ : Heap.SameBut e h₄ h₅ := hs₅
    replace he₅ : IsEnum h₅ e it ((i : Int) + 1) x := he₅
    show wpAny _ _ (Builtin.SmallTypes.ownedTupleHandOut (.ref e) (.ref hp.objs.size) >>= _) _ _ ⟨h₅, g, d, tk + 1, os⟩
    refine wpAny_bind ?_
    · unfold Builtin.SmallTypes.ownedTupleHandOut
      refine wpAny_bind (wpAny_setField_rec he₅ (by simp) fun h₆ he₆ hs₆ => ?_)
      replace hs₆ : Heap.SameBut e h₅ h₆ := hs₆
      replace he₆ : IsEnumOut h₆ e it ((i : Int) + 1) x hp.objs.size := he₆
      refine wpAny_setField_rec he₆ (by simp) fun h₇ he₇ hs₇ => ?_
      replace hs₇ : Heap.SameBut e h₆ h₇ := hs₇
      replace he₇ : IsEnumOut h₇ e it ((i : Int) + 1) x hp.objs.size := he₇
      have x₇ : Heap.ExtBut e h₄ h₇ := ((hs₅.trans hs₆).trans hs₇).extBut
      refine wpAny_bind (wpAny_letGo (wpAny_pure ⟨_, rfl, hQ h₇ hp.objs.size tk he₇ (hJ _ _ j₁ (x₄.trans x₇)) (get_size_none _) ?_ ?_⟩))
      · exact x₇ _ _ (Nat.ne_of_gt hel) ht₄
      · exact fun b o hbe hbi hb => x₇ b o hbe (hk₄ b o hbe hbi hb)

theorem pyNext_enumT {e it t : Addr} {i : Nat} {items : Array Value} {x old : Value} {Q : Option Value → Shared → Prop} (he : IsEnum s.heap e it i old) (hne : e ≠ it) (hte : t ≠ e) (hti : t ≠ it)
    (hit : s.heap.IsTupleIter it t i) (ht : s.heap.IsTuple t items) (hx : items[i]? = some x)
    (hQ : ∀ h' T tk, IsEnumOut h' e it ((i : Int) + 1) x T → h'.IsTupleIter it t (i + 1) → s.heap.get? T = none → IsT h' T #[.int i tk, x] 0 →
      (∀ b o, b ≠ e → b ≠ it → s.heap.get? b = some o → h'.get? b = some o) → Q (some (.ref T)) { s with heap := h', toks := s.toks + 1 }) :
    wpAny (model prog w) A (pyNext (.ref e)) Q E s := by
  have hT : s.TypeIs (.ref e) "enumerate" := ⟨_, he, rfl⟩
  unfold pyNext
  refine wpAny_bind (wpAny_attempt (wpAny_callSpecial?_slot (name := Str.ofString "__next__") hT PySem.F.slot_enumerate_next (wpAny_call_entry PySem.F.slot_enumerate_next hT PySem.F.entry_enumerate_next
    (enum_next (J := fun h => h.IsTupleIter it t (i + 1)) he hne (fun h h' j x => j.extBut x (Ne.symm hne)) (fun Q' hq => nextOf_tuple hit ht hx fun h' a b => hq h' a b)
      fun h' T tk a b c d k => wpAny_pure (hQ h' T tk a b c d k)) (PySem.F.args_enumerate_next_1 _))))
theorem pyNext_enumL {e it t : Addr} {i : Nat} {items : Array Value} {x old : Value} {Q : Option Value → Shared → Prop} (he : IsEnum s.heap e it i old) (hne : e ≠ it) (hte : t ≠ e) (hti : t ≠ it)
    (hit : s.heap.IsListIter it t i) (ht : s.heap.IsList t items) (hx : items[i]? = some x)
    (hQ : ∀ h' T tk, IsEnumOut h' e it ((i : Int) + 1) x T → h'.IsListIter it t (i + 1) → s.heap.get? T = none → IsT h' T #[.int i tk, x] 0 →
      (∀ b o, b ≠ e → b ≠ it → s.heap.get? b = some o → h'.get? b = some o) → Q (some (.ref T)) { s with heap := h', toks := s.toks + 1 }) :
    wpAny (model prog w) A (pyNext (.ref e)) Q E s := by
  have hT : s.TypeIs (.ref e) "enumerate" := ⟨_, he, rfl⟩
  unfold pyNext
  refine wpAny_bind (wpAny_attempt (wpAny_callSpecial?_slot (name := Str.ofString "__next__") hT PySem.F.slot_enumerate_next (wpAny_call_entry PySem.F.slot_enumerate_next hT PySem.F.entry_enumerate_next
    (enum_next (J := fun h => h.IsListIter it t (i + 1)) he hne (fun h h' j x => j.extBut x (Ne.symm hne)) (fun Q' hq => wpAny_nextOf_list_item hit ht hx fun h' a b => hq h' a b)
      fun h' T tk a b c d k => wpAny_pure (hQ h' T tk a b c d k)) (PySem.F.args_enumerate_next_1 _))))
theorem pyNext_enumT_end {e it t : Addr} {i : Nat} {items : Array Value} {old : Value} {Q : Option Value → Shared → Prop} (hh : A.handled = none) (he : IsEnum s.heap e it i old)
    (hit : s.heap.IsTupleIter it t i) (ht : s.heap.IsTuple t items) (hx : items[i]? = none) (hQ : ∀ h', Heap.ExtBut it s.heap h' → Q none { s with heap := h' }) : wpAny (model prog w) A (pyNext (.ref e)) Q E s := by
  have hT : s.TypeIs (.ref e) "enumerate" := ⟨_, he, rfl⟩
  unfold pyNext
  refine wpAny_bind (wpAny_attempt (wpAny_callSpecial?_slot (name := Str.ofString "__next__") hT PySem.F.slot_enumerate_next (wpAny_call_entry PySem.F.slot_enumerate_next hT PySem.F.entry_enumerate_next ?_ (PySem.F.args_enumerate_next_1 _))))
  show wpAny _ _ (field (.ref e) 2 >>= _) _ _ _
  refine wpAny_bind (wpAny_field he rfl (x := .ref it) rfl ?_)
  refine wpAny_bind (nextOf_tuple_end hh hit ht hx fun h' y he' hx' => ?_)
  obtain ⟨o, ho, hc⟩ := hx'
  refine wpAny_bind (wpAny_isInstance (T := "StopIteration") (b := true) ⟨o, ho, hc⟩ isSubtype_stop ?_)
  exact wpAny_pure (hQ _ he')

-- making an enumerate over a tuple
theorem meets_enumT (l : Addr) (items : Array Value) (n : Nat) :
    Meets (Builtin.«enumerate.__new__» ⟨[.type "enumerate", .ref l], []⟩) (fun _ R s => IsT s.heap l items n ∧
      R (.ok (.ret (.ref (s.heap.push { cls := .type "tuple_iterator", data := .fields #[.ref l, .int 0 0] }).objs.size)))
        { s with heap := (s.heap.push { cls := .type "tuple_iterator", data := .fields #[.ref l, .int 0 0] }).push { cls := .type "enumerate", data := .fields #[.none, .bool false, .ref s.heap.objs.size, rawInt 0, .none, .none] } }) :=
  .of_wp fun prog w A R s h => by
    obtain ⟨hp, g, d, tk, os⟩ := s; obtain ⟨hl, h⟩ := h
    have hsub := sub_enumerate
    have hL : Heap.IsTuple (Shared.heap ⟨hp, g, d, tk, os⟩) l items := ⟨_, hl, rfl, n, rfl⟩
    wp_walk using wpAny_loadPart' hl
    refine wpAny_stack_any fun st => wpAny_pure ?_
    split
    · rename_i c _ _ _ _ _
      cases (c == Value.type "enumerate")
      · wp_walk using wpAny_loadPart' hl, wpAny_pyIter_tuple hL
        exact ⟨_, rfl, h⟩
      · wp_walk using wpAny_loadPart' hl, wpAny_pyIter_tuple hL
        exact ⟨_, rfl, h⟩
    · wp_walk using wpAny_loadPart' hl, wpAny_pyIter_tuple hL
      exact ⟨_, rfl, h⟩
theorem call_enumerate_tuple {l : Addr} {items : Array Value} {n : Nat} {Q : Value → Shared → Prop} (hl : IsT s.heap l items n)
    (h : ∀ h', IsEnum h' (s.heap.objs.size + 1) s.heap.objs.size 0 .none → h'.IsTupleIter s.heap.objs.size l 0 →
      (∀ b o, s.heap.get? b = some o → h'.get? b = some o) → Q (.ref (s.heap.objs.size + 1)) { s with heap := h' }) :
    wpAny (model prog w) A (call (.type "enumerate") [.ref l]) Q E s := by
  refine callType_new PySem.F.called_enumerate (by decide) (PySem.F.typeCall_enumerate_1 _) (PySem.F.newCall_enumerate_1 _) (fun obj => PySem.F.args_object_init_2 obj _) PySem.F.entry_enumerate_new (meets_enumT l items n) ⟨hl, ?_⟩
  have hz : (s.heap.push { cls := .type "tuple_iterator", data := .fields #[.ref l, .int 0 0] }).objs.size = s.heap.objs.size + 1 := Heap.size_push ..
  show _ ∧ _
  rw [hz]
  have he : IsEnum ((s.heap.push { cls := .type "tuple_iterator", data := .fields #[.ref l, .int 0 0] }).push { cls := .type "enumerate", data := .fields #[.none, .bool false, .ref s.heap.objs.size, rawInt 0, .none, .none] }) (s.heap.objs.size + 1) s.heap.objs.size 0 .none := by
    have := Heap.get?_push_size (s.heap.push { cls := .type "tuple_iterator", data := .fields #[.ref l, .int 0 0] }) (o := { cls := .type "enumerate", data := .fields #[.none, .bool false, .ref s.heap.objs.size, rawInt 0, .none, .none] }) rfl
    rw [hz] at this; exact this
  exact ⟨⟨_, he, rfl⟩, h _ he ⟨_, Heap.get?_push_of_some _ (Heap.get?_push_size _ rfl), rfl, rfl⟩ fun b o y => Heap.get?_push_of_some _ (Heap.get?_push_of_some _ y)⟩

-- an enumerate is its own iterator
theorem pyIter_enum {e it : Addr} {i : Int} {old : Value} {Q : Value → Shared → Prop} (he : IsEnum s.heap e it i old) (h : Q (.ref e) s) : wpAny (model prog w) A (pyIter (.ref e)) Q E s := by
  have hT : s.TypeIs (.ref e) "enumerate" := ⟨_, he, rfl⟩
  refine wpAny_pyIter_slot hT PySem.F.slot_enumerate_iter (wpAny_call_entry PySem.F.slot_enumerate_iter hT PySem.F.entry_enumerate_iter ?_ (PySem.F.args_enumerate_iter_1 _))
  show wpAny _ _ (ret (.ref e)) _ _ s
  exact wpAny_pure ⟨_, rfl, "enumerate", _, hT, PySem.F.slot_enumerate_next.lookup, h⟩
end

section
variable {G : Gh} {A : Around} {E : Value → Shared → Prop} {s : Shared}
-- a dict's keys, one by one
theorem pyIter_dictE {d : Addr} {xs : List (List Int × Addr × Value)} {ep : Nat} {Q : Value → Shared → Prop} (hd : (d == sysModules) = false) (hm : DictE G s.heap d xs ep)
    (hQ : Q (.ref s.heap.objs.size) { s with heap := s.heap.push { cls := .type "dict_keyiterator", data := .fields #[.ref d, .int 0 0, .int xs.length 0, .int ep 0] } }) :
    wpAny G.M A (pyIter (.ref d)) Q E s := by
  obtain ⟨o, es, ho, hc, hdat, he, _, _⟩ := id hm
  have hT : s.TypeIs (.ref d) "dict" := hm.dict.typeIs
  refine wpAny_pyIter_slot hT PySem.F.slot_dict_iter (wpAny_call_entry PySem.F.slot_dict_iter hT PySem.F.entry_dict_iter ?_ (PySem.F.args_dict_iter_1 _))
  unfold Builtin.«dict.__iter__»
  refine wpAny_bind ?_
  unfold Builtin.Dict.dictSlotNone
  refine wpAny_bind (wpAny_notOrdered_dict hT ?_)
  show wpAny _ _ (pure (Value.ref d)) _ _ s
  refine wpAny_pure ?_
  show wpAny _ _ (Builtin.Dict.showsAll d >>= _) _ _ s
  unfold Builtin.Dict.showsAll
  rw [if_neg (by rw [hd]; exact Bool.false_ne_true)]
  refine wpAny_bind (wpAny_pure ?_)
  refine wpAny_bind (wpAny_dictEntries ho hdat ?_)
  refine wpAny_bind (wpAny_dictEpoch ho hdat ?_)
  have hsz : es.size = xs.length := size_of_entries he
  refine wpAny_bind (wpAny_newObj_type (wpAny_pure ⟨_, rfl, "dict_keyiterator", _, ⟨_, Heap.get?_push_size _ rfl, rfl⟩, PySem.F.slot_dict_keyiterator_next.lookup, ?_⟩))
  simpa [rawInt, hsz] using hQ
theorem pyNext_dictE {it d : Addr} {i ep : Nat} {xs : List (List Int × Addr × Value)} {ks : List Int} {a : Addr} {v : Value} {Q : Option Value → Shared → Prop} (hit : s.heap.IsKeyIter it d i xs.length ep)
    (hm : DictE G s.heap d xs ep) (hx : xs[i]? = some (ks, a, v)) (hQ : ∀ h', h'.IsKeyIter it d (i + 1) xs.length ep → Heap.SameBut it s.heap h' → Q (some (.ref a)) { s with heap := h' }) :
    wpAny G.M A (pyNext (.ref it)) Q E s := by
  obtain ⟨o, ho, hc, hd⟩ := id hit
  obtain ⟨od, es, hod, hcd, hdd, hes, _, _⟩ := id hm
  have hsz : es.size = xs.length := size_of_entries hes
  have hent : es[i]? = some (entryOfKey G.tk (ks, a, v)) := by rw [entry_at hes, hx]; rfl
  unfold pyNext
  refine wpAny_bind (wpAny_attempt (wpAny_callSpecial?_slot (name := Str.ofString "__next__") hit.typeIs PySem.F.slot_dict_keyiterator_next
    (wpAny_call_entry PySem.F.slot_dict_keyiterator_next hit.typeIs PySem.F.entry_dict_keyiterator_next ?_ (PySem.F.args_dict_keyiterator_next_1 _))))
  refine wpAny_bind (wpAny_pure ?_)
  refine wpAny_bind ?_
  refine wpAny_bind ?_
  first | refine wpAny_bind (wpAny_typeNameOfWhole_keyiter hit.typeIs (wpAny_pure ?_)) | refine wpAny_bind (wpAny_typeNameOf_keyiter hit.typeIs (wpAny_pure ?_))
  refine wpAny_bind (wpAny_fieldsOf ho hd ?_)
  have hown : Builtin.Dict_items.ownsTuple "dict_keyiterator" = false := by decide
  simp only [hown, Bool.false_eq_true, if_false]
  show wpAny _ _ (if (Value.ref d == Value.none) = true then _ else _) _ _ s
  rw [if_neg (show ¬ ((Value.ref d == Value.none) = true) from Bool.false_ne_true)]
  refine wpAny_bind (wpAny_pure ?_)
  refine wpAny_bind (wpAny_dictEntries hod hdd ?_)
  rw [if_neg (by rw [hsz]; simp)]
  refine wpAny_bind (wpAny_pure ?_)
  refine wpAny_bind (wpAny_dictEpoch hod hdd ?_)
  rw [if_neg (by simp)]
  refine wpAny_pure ?_
  simp only [show ¬ ((i : Int) < 0) from by (first | lia | omega), if_false, Int.toNat_natCast, hent]
  refine wpAny_bind ?_
  first | refine wpAny_bind (wpAny_typeNameOfWhole_keyiter hit.typeIs (wpAny_pure ?_)) | refine wpAny_bind (wpAny_typeNameOf_keyiter hit.typeIs (wpAny_pure ?_))
  refine wpAny_bind (wpAny_isOneOf_keyiter hit.typeIs ?_)
  show wpAny _ _ (setField (.ref it) 1 (rawInt ((i : Int) + 1)) >>= _) _ _ s
  refine wpAny_bind (wpAny_setField ho hd (by simp) ?_)
  have hit' : (s.heap.update it (Obj.mapFields (·.setIfInBounds 1 (rawInt ((i : Int) + 1))))).IsKeyIter it d (i + 1) xs.length ep :=
    ⟨_, Heap.get?_update_self _ ho (Obj.isFreed_of_fields (Obj.data_mapFields hd _)), (Obj.cls_mapFields ..).trans hc, by rw [Obj.data_mapFields hd]; simp [rawInt]⟩
  refine wpAny_bind (wpAny_holding ?_)
  refine wpAny_bind (wpAny_isOneOf_keyiter (s := { s with heap := s.heap.update it (Obj.mapFields (·.setIfInBounds 1 (rawInt ((i : Int) + 1)))) }) hit'.typeIs ?_)
  show wpAny _ _ (pure (Value.ref a)) _ _ _
  exact wpAny_pure (wpAny_pure ⟨_, rfl, wpAny_pure (hQ _ hit' (Heap.SameBut.update ..))⟩)
theorem pyNext_dictE_end {it d : Addr} {i ep : Nat} {xs : List (List Int × Addr × Value)} {Q : Option Value → Shared → Prop} (hh : A.handled = none) (hit : s.heap.IsKeyIter it d i xs.length ep)
    (hm : DictE G s.heap d xs ep) (hx : xs.length ≤ i) (hQ : ∀ h', Heap.ExtBut it s.heap h' → Q none { s with heap := h' }) :
    wpAny G.M A (pyNext (.ref it)) Q E s := by
  obtain ⟨o, ho, hc, hd⟩ := id hit
  obtain ⟨od, es, hod, hcd, hdd, hes, _, _⟩ := id hm
  have hsz : es.size = xs.length := size_of_entries hes
  unfold pyNext
  refine wpAny_bind (wpAny_attempt (wpAny_callSpecial?_slot (name := Str.ofString "__next__") hit.typeIs PySem.F.slot_dict_keyiterator_next
    (wpAny_call_entry PySem.F.slot_dict_keyiterator_next hit.typeIs PySem.F.entry_dict_keyiterator_next ?_ (PySem.F.args_dict_keyiterator_next_1 _))))
  refine wpAny_bind (wpAny_pure ?_)
  refine wpAny_bind ?_
  refine wpAny_bind ?_
  first | refine wpAny_bind (wpAny_typeNameOfWhole_keyiter hit.typeIs (wpAny_pure ?_)) | refine wpAny_bind (wpAny_typeNameOf_keyiter hit.typeIs (wpAny_pure ?_))
  refine wpAny_bind (wpAny_fieldsOf ho hd ?_)
  have hown : Builtin.Dict_items.ownsTuple "dict_keyiterator" = false := by decide
  simp only [hown, Bool.false_eq_true, if_false]
  show wpAny _ _ (if (Value.ref d == Value.none) = true then _ else _) _ _ s
  rw [if_neg (show ¬ ((Value.ref d == Value.none) = true) from Bool.false_ne_true)]
  refine wpAny_bind (wpAny_pure ?_)
  refine wpAny_bind (wpAny_dictEntries hod hdd ?_)
  rw [if_neg (by rw [hsz]; simp)]
  refine wpAny_bind (wpAny_pure ?_)
  refine wpAny_bind (wpAny_dictEpoch hod hdd ?_)
  rw [if_neg (by simp)]
  refine wpAny_pure ?_
  have hge : es.size ≤ i := by rw [hsz]; exact hx
  simp only [show ¬ ((i : Int) < 0) from by (first | lia | omega), if_false, Int.toNat_natCast, Array.getElem?_eq_none hge]
  refine wpAny_bind ?_
  first | refine wpAny_bind (wpAny_typeNameOfWhole_keyiter hit.typeIs (wpAny_pure ?_)) | refine wpAny_bind (wpAny_typeNameOf_keyiter hit.typeIs (wpAny_pure ?_))
  show wpAny _ _ (setField (.ref it) 0 .none >>= _) _ _ s
  refine wpAny_bind (wpAny_setField ho hd (by simp) ?_)
  show wpAny _ _ (newExc (.type "StopIteration") [] >>= _) _ _ _
  refine wpAny_bind ?_
  simp only [newExc, newTuple]
  refine wpAny_bind (wpAny_newObj_type ?_ (by size_fits))
  refine wpAny_bind (m := firstArgMember _ _) (wpAny_of_eq (a := Value.none) (by first | rfl | (simp only [firstArgMember]; rfl)) ?_)
  refine wpAny_newObj_type ?_ (by size_fits)
  simp only [raiseNew]
  refine wpAny_bind (wpAny_handled ?_)
  rw [show A.in1.handled = none from hh]
  refine wpAny_bind (wpAny_pure (wpAny_throw ?_))
  refine wpAny_bind (wpAny_isInstance (T := "StopIteration") (b := true) ⟨_, Heap.get?_push_size _ rfl, rfl⟩ isSubtype_stop ?_)
  exact wpAny_pure (hQ _ (((Heap.SameBut.update ..).extBut.push _).push _))
end
end Mine

end

section
namespace Mine

inductive Src where
  | list (n : Nat) (l : List V)
  | tup (l : List V)
  | dict (n : Nat) (es : List (List Int × V)) (ep : Nat)
  | enumL (n : Nat) (l : List V)
  | enumT (l : List V)
  | range (a c : Int) (n : Nat)

noncomputable def enumV : Nat → List V → List V
  | _, [] => []
  | i, u :: r => .tup [.int i, u] :: enumV (i + 1) r
theorem enumV_get : ∀ (l : List V) (j i : Nat), (enumV j l)[i]? = l[i]?.map fun u => .tup [.int ((j + i : Nat) : Int), u]
  | [], _, _ => by simp [enumV]
  | u :: r, j, 0 => by simp [enumV]
  | u :: r, j, i + 1 => by
    have := enumV_get r (j + 1) i
    simp only [enumV, List.getElem?_cons_succ, this]
    rw [show j + 1 + i = j + (i + 1) by (first | lia | omega)]

noncomputable def Src.items : Src → List V
  | .list _ l => l
  | .tup l => l
  | .dict _ es _ => es.map fun e => .tup (e.1.map .int)
  | .enumL _ l => enumV 0 l
  | .enumT l => enumV 0 l
  | .range a c n => (List.range n).map fun (i : Nat) => .int (a + (i : Int) * c)
noncomputable def Src.ok : Src → MH → Prop
  | .list n l, H => H[n]? = some (.list l)
  | .tup _, _ => True
  | .dict n es ep, H => H[n]? = some (.dict es ep)
  | .enumL n l, H => H[n]? = some (.list l)
  | .enumT _, _ => True
  | .range _ _ _, _ => True
noncomputable def Src.tg : Src → Expr → Prop
  | .enumL _ _, e => ∃ es k p, e = .Tuple es k p
  | .enumT _, e => ∃ es k p, e = .Tuple es k p
  | _, e => ∃ x p, e = .Name x p

-- the iterator I, with what it owns, at its place i
noncomputable def IterSt (G : Gh) : Src → Nat → Addr → List Addr → List Addr → Heap → Prop
  | .list n l, i, I, P, μ, h => P = [I] ∧ ∃ a, μ[n]? = some a ∧ h.IsListIter I a i
  | .tup l, i, I, P, μ, h => P = [I] ∧ ∃ t vs m, IsT h t vs m ∧ VRs G.hb μ h l vs.toList ∧ h.IsTupleIter I t i
  | .dict n es ep, i, I, P, μ, h => P = [I] ∧ ∃ a, μ[n]? = some a ∧ h.IsKeyIter I a i es.length ep
  | .enumL n l, i, I, P, μ, h => ∃ it a old, P = [I, it] ∧ I ≠ it ∧ μ[n]? = some a ∧ IsEnum h I it i old ∧ h.IsListIter it a i
  | .enumT l, i, I, P, μ, h => ∃ it t vs m old, P = [I, it] ∧ I ≠ it ∧ IsT h t vs m ∧ VRs G.hb μ h l vs.toList ∧ IsEnum h I it i old ∧ h.IsTupleIter it t i
  | .range a c n, i, I, P, μ, h => P = [I] ∧ IsRangeIter h I (a + (i : Int) * c) ((n : Int) - (i : Int)) c
noncomputable def POk (G : Gh) (P μ : List Addr) (h : Heap) : Prop := ∀ b ∈ P, b ∉ μ ∧ G.hb.get? b = none ∧ ∃ ob, h.get? b = some ob ∧ ∀ xs n, ob.data ≠ .seq xs n
structure PX (P : List Addr) (s s' : Shared) : Prop where
  same : ∃ h tk, s' = { s with heap := h, toks := tk }
  keep : ∀ b o, s.heap.get? b = some o → b ∉ P → s'.heap.get? b = some o

section
variable {G : Gh} {k : Nat} {sc : Scope} {ρ : Rho} {H : MH}

theorem IterSt.keep {src : Src} {i : Nat} {I : Addr} {P μ μ' : List Addr} {h h' : Heap} (x : IterSt G src i I P μ h) (hk : ∀ b ∈ P, ∀ o, h.get? b = some o → h'.get? b = some o) (ht : TKeep h h') (hm : μ <+: μ') : IterSt G src i I P μ' h' := by
  have hmu : ∀ {n a}, μ[n]? = some a → μ'[n]? = some a := fun {n a} e => by
    obtain ⟨r, rfl⟩ := hm
    rw [List.getElem?_append_left (List.getElem?_eq_some_iff.mp e).1]; exact e
  cases src with
  | list n l => obtain ⟨rfl, a, e, y⟩ := x; exact ⟨rfl, a, hmu e, y.at fun o q => hk I (by simp) o q⟩
  | tup l => obtain ⟨rfl, t, vs, m, a, b, y⟩ := x; exact ⟨rfl, t, vs, m, ht _ _ _ a, VRs.mono ht hm b, y.at fun o q => hk I (by simp) o q⟩
  | dict n es ep => obtain ⟨rfl, a, e, y⟩ := x; exact ⟨rfl, a, hmu e, y.at fun o q => hk I (by simp) o q⟩
  | enumL n l => obtain ⟨it, a, old, rfl, ne, e, y, z⟩ := x; exact ⟨it, a, old, rfl, ne, hmu e, hk I (by simp) _ y, z.at fun o q => hk it (by simp) o q⟩
  | enumT l => obtain ⟨it, t, vs, m, old, rfl, ne, a, b, y, z⟩ := x; exact ⟨it, t, vs, m, old, rfl, ne, ht _ _ _ a, VRs.mono ht hm b, hk I (by simp) _ y, z.at fun o q => hk it (by simp) o q⟩
  | range a c n => obtain ⟨rfl, y⟩ := x; exact ⟨rfl, hk I (by simp) _ y⟩

theorem PX.tkeep {P μ : List Addr} {s s' : Shared} (x : PX P s s') (po : POk G P μ s.heap) : TKeep s.heap s'.heap := fun a vs n t => x.keep _ _ t fun hp => by
  obtain ⟨_, _, ob, e, hn⟩ := po a hp
  rw [IsT, e] at t; cases t; exact hn _ _ rfl
theorem PX.hrel {P μ : List Addr} {s s' : Shared} (x : PX P s s') (po : POk G P μ s.heap) (R : HRel G H μ s.heap) : HRel G H μ s'.heap :=
  R.chg (W := (· ∈ P)) (fun b ob e n => x.keep b ob e n) fun b hb => ⟨(po b hb).1, (po b hb).2.1, fun xs n t => by obtain ⟨o', e', hn⟩ := (po b hb).2.2; rw [IsT, e'] at t; cases t; exact hn _ _ rfl⟩

theorem iter_next {A : Around} {E : Value → Shared → Prop} {s : Shared} {src : Src} {tg : Expr} {i : Nat} {I : Addr} {P μ : List Addr} (hA : AOk k A) (R : HRel G H μ s.heap) (ok : src.ok H) (st : IterSt G src i I P μ s.heap) (po : POk G P μ s.heap) (ht : src.tg tg) :
    wpAny G.M A (pyNext (.ref I)) (fun r s₁ => match r with
      | none => src.items[i]? = none ∧ PX P s s₁
      | some v => wpAny G.M A (letOwnedTupleGo tg (.ref I) v) (fun _ s₂ => ∃ u, src.items[i]? = some u ∧ PX P s s₂ ∧ VR G.hb μ s₂.heap u v ∧ IterSt G src (i + 1) I P μ s₂.heap ∧ POk G P μ s₂.heap) E s₁) E s := by
  have px1 : ∀ {b : Addr} {h' : Heap} {tk : Nat}, Heap.ExtBut b s.heap h' → PX [b] s { s with heap := h', toks := tk } := fun {b h' tk} x => ⟨⟨_, _, rfl⟩, fun c o e n => x c o (fun q => n (by simp [q])) e⟩
  have fin1 : ∀ {b : Addr} {h' : Heap} {ob : Obj}, P = [b] → h'.get? b = some ob → (∀ xs n, ob.data ≠ .seq xs n) → POk G P μ h' := fun {b h' ob} e g d c hc => by
    have hp := po c hc
    rw [e, List.mem_singleton] at hc; subst hc
    exact ⟨hp.1, hp.2.1, ob, g, d⟩
  have mem_mu : ∀ {n : Nat} {a : Addr}, μ[n]? = some a → a ∈ μ := fun e => List.mem_of_getElem? e
  cases src with
  | list n l =>
    obtain ⟨x, p, rfl⟩ := ht
    obtain ⟨rfl, a, ha, hit⟩ := st
    obtain ⟨a', ha', vs, m, hl, hlen, hvs⟩ := R.obj n _ ok
    rw [ha] at ha'; cases ha'
    have hL : s.heap.IsList a vs := IsL.isList hl
    cases q : vs[i]? with
    | none =>
      refine wpAny_pyNext_list_end hA.1 hit hL q fun h' hx => ⟨?_, px1 (tk := s.toks) hx⟩
      show l[i]? = none
      rw [List.getElem?_eq_none_iff, ← hvs.length]
      simpa using q
    | some v =>
      refine wpAny_pyNext_list_item hit hL q fun h' hit' hs' => wpAny_pure ?_
      have hX : PX [I] s { s with heap := h' } := px1 (tk := s.toks) hs'.extBut
      have hi : i < l.length := by rw [← hvs.length]; have := (Array.getElem?_eq_some_iff.mp q).1; simpa using this
      obtain ⟨v', hv', hr⟩ := hvs.get (i := i) (u := l[i]) (by simp [hi])
      have : v' = v := by rw [Array.getElem?_toList, q] at hv'; exact (Option.some.inj hv').symm
      subst this
      obtain ⟨oi, hoi, _, hdi⟩ := id hit'
      exact ⟨l[i], by show l[i]? = _; simp [hi], hX, VR.mono (hX.tkeep po) (List.prefix_refl _) hr, ⟨rfl, a, ha, hit'⟩, fin1 rfl hoi (by rw [hdi]; intro _ _ e; cases e)⟩
  | tup l =>
    obtain ⟨x, p, rfl⟩ := ht
    obtain ⟨rfl, t, vs, m, hl, hvs, hit⟩ := st
    have hL : s.heap.IsTuple t vs := IsT.isTuple hl
    cases q : vs[i]? with
    | none =>
      refine wpAny_pyNext_tuple_end hA.1 hit hL q fun h' hx => ⟨?_, px1 (tk := s.toks) hx⟩
      show l[i]? = none
      rw [List.getElem?_eq_none_iff, ← hvs.length]
      simpa using q
    | some v =>
      refine wpAny_pyNext_tuple_item hit hL q fun h' hit' hs' => wpAny_pure ?_
      have hX : PX [I] s { s with heap := h' } := px1 (tk := s.toks) hs'.extBut
      have tk := hX.tkeep po
      have hi : i < l.length := by rw [← hvs.length]; have := (Array.getElem?_eq_some_iff.mp q).1; simpa using this
      obtain ⟨v', hv', hr⟩ := hvs.get (i := i) (u := l[i]) (by simp [hi])
      have : v' = v := by rw [Array.getElem?_toList, q] at hv'; exact (Option.some.inj hv').symm
      subst this
      obtain ⟨oi, hoi, _, hdi⟩ := id hit'
      exact ⟨l[i], by show l[i]? = _; simp [hi], hX, VR.mono tk (List.prefix_refl _) hr, ⟨rfl, t, vs, m, tk _ _ _ hl, VRs.mono tk (List.prefix_refl _) hvs, hit'⟩, fin1 rfl hoi (by rw [hdi]; intro _ _ e; cases e)⟩
  | dict n es ep =>
    obtain ⟨x, p, rfl⟩ := ht
    obtain ⟨rfl, a, ha, hit⟩ := st
    obtain ⟨a', ha', xs, hd, hlen, her⟩ := R.obj n _ ok
    rw [ha] at ha'; cases ha'
    have hz : xs.length = es.length := her.length
    rw [← hz] at hit
    have hkeys := her.keys
    by_cases hi : i < xs.length
    · have hxi : xs[i]? = some (xs[i].1, xs[i].2.1, xs[i].2.2) := by simp [hi]
      refine pyNext_dictE hit hd hxi fun h' hit' hs' => wpAny_pure ?_
      have hX : PX [I] s { s with heap := h' } := px1 (tk := s.toks) hs'.extBut
      have tk := hX.tkeep po
      obtain ⟨oi, hoi, _, hdi⟩ := id hit'
      have hei : i < es.length := by (first | lia | omega)
      have hk : es[i].1 = xs[i].1 := by
        have h1 : (xs.map (·.1))[i]? = some xs[i].1 := by simp [hi]
        rw [hkeys] at h1
        simpa [hei] using h1
      obtain ⟨o, ees, _, _, _, _, hall, _⟩ := hd
      have hka := hall xs[i] (List.getElem_mem hi)
      refine ⟨.tup (es[i].1.map .int), by show (es.map _)[i]? = _; simp [hei], hX, ?_, ⟨rfl, a, ha, hz ▸ hit'⟩, fin1 rfl hoi (by rw [hdi]; intro _ _ e; cases e)⟩
      rw [hk]
      exact VR.mono tk (List.prefix_refl _) hka.vr
    · refine pyNext_dictE_end hA.1 hit hd (Nat.le_of_not_lt hi) fun h' hx => ⟨?_, px1 (tk := s.toks) hx⟩
      show (es.map _)[i]? = none
      rw [List.getElem?_eq_none_iff, List.length_map]; (first | lia | omega)
  | enumL n l =>
    obtain ⟨es, kk, p, rfl⟩ := ht
    obtain ⟨it, a, old, rfl, hne, ha, he, hit⟩ := st
    obtain ⟨a', ha', vs, m, hl, hlen, hvs⟩ := R.obj n _ ok
    rw [ha] at ha'; cases ha'
    have hL : s.heap.IsList a vs := IsL.isList hl
    have hae : a ≠ I := fun q => (po I (by simp)).1 (q ▸ mem_mu ha)
    have hai : a ≠ it := fun q => (po it (by simp)).1 (q ▸ mem_mu ha)
    cases q : vs[i]? with
    | none =>
      refine wpAny_pyNext_enum_end hA.1 he hit hL q fun h' hx => ⟨?_, ⟨⟨_, s.toks, rfl⟩, fun c o e n => hx c o (fun q => n (by simp [q])) e⟩⟩
      show (enumV 0 l)[i]? = none
      rw [enumV_get, Option.map_eq_none_iff, List.getElem?_eq_none_iff, ← hvs.length]
      simpa using q
    | some v =>
      refine pyNext_enumL he hne hae hai hit hL q fun h' T tk he' hit' hTn hT hk' => ?_
      refine wpAny_letOwnedTupleGo_enum he' fun h₂ he₂ hs₂ => ?_
      have hX : PX [I, it] s { s with heap := h₂, toks := s.toks + 1 } := ⟨⟨_, _, rfl⟩, fun c o e n => hs₂.extBut c o (fun q => n (by simp [q])) (hk' c o (fun q => n (by simp [q])) (fun q => n (by simp [q])) e)⟩
      have tkp := hX.tkeep po
      have hi : i < l.length := by rw [← hvs.length]; have := (Array.getElem?_eq_some_iff.mp q).1; simpa using this
      obtain ⟨v', hv', hr⟩ := hvs.get (i := i) (u := l[i]) (by simp [hi])
      have : v' = v := by rw [Array.getElem?_toList, q] at hv'; exact (Option.some.inj hv').symm
      subst this
      have hit₂ : h₂.IsListIter it a (i + 1) := hit'.extBut hs₂.extBut (Ne.symm hne)
      obtain ⟨oi, hoi, _, hdi⟩ := id hit₂
      have hTI : T ≠ I := fun q => by rw [q, he] at hTn; cases hTn
      have hT₂ : IsT h₂ T #[.int i tk, v'] 0 := hs₂.extBut _ _ hTI hT
      refine ⟨.tup [.int i, l[i]], by show (enumV 0 l)[i]? = _; rw [enumV_get]; simp [hi], hX, ?_, ⟨it, a, v', rfl, hne, ha, by exact_mod_cast he₂, hit₂⟩, fun b hb => ?_⟩
      · rw [VR]
        exact ⟨T, _, 0, rfl, hT₂, by simp [lim], VRs.cons vInt (VRs.one (VR.mono tkp (List.prefix_refl _) hr))⟩
      · have hp := po b hb
        rcases List.mem_cons.mp hb with rfl | hb
        · exact ⟨hp.1, hp.2.1, _, he₂, fun _ _ e => by cases e⟩
        · rw [List.mem_singleton] at hb; subst hb
          exact ⟨hp.1, hp.2.1, oi, hoi, by rw [hdi]; intro _ _ e; cases e⟩
  | enumT l =>
    obtain ⟨es, kk, p, rfl⟩ := ht
    obtain ⟨it, t, vs, m, old, rfl, hne, hl, hvs, he, hit⟩ := st
    have hL : s.heap.IsTuple t vs := IsT.isTuple hl
    have notT : ∀ b ∈ [I, it], t ≠ b := fun b hb q => by
      obtain ⟨_, _, ob, e, hn⟩ := po b hb
      rw [← q] at e; rw [IsT, e] at hl; cases hl; exact hn _ _ rfl
    cases q : vs[i]? with
    | none =>
      refine pyNext_enumT_end hA.1 he hit hL q fun h' hx => ⟨?_, ⟨⟨_, s.toks, rfl⟩, fun c o e n => hx c o (fun q => n (by simp [q])) e⟩⟩
      show (enumV 0 l)[i]? = none
      rw [enumV_get, Option.map_eq_none_iff, List.getElem?_eq_none_iff, ← hvs.length]
      simpa using q
    | some v =>
      refine pyNext_enumT he hne (notT I (by simp)) (notT it (by simp)) hit hL q fun h' T tk he' hit' hTn hT hk' => ?_
      refine wpAny_letOwnedTupleGo_enum he' fun h₂ he₂ hs₂ => ?_
      have hX : PX [I, it] s { s with heap := h₂, toks := s.toks + 1 } := ⟨⟨_, _, rfl⟩, fun c o e n => hs₂.extBut c o (fun q => n (by simp [q])) (hk' c o (fun q => n (by simp [q])) (fun q => n (by simp [q])) e)⟩
      have tkp := hX.tkeep po
      have hi : i < l.length := by rw [← hvs.length]; have := (Array.getElem?_eq_some_iff.mp q).1; simpa using this
      obtain ⟨v', hv', hr⟩ := hvs.get (i := i) (u := l[i]) (by simp [hi])
      have : v' = v := by rw [Array.getElem?_toList, q] at hv'; exact (Option.some.inj hv').symm
      subst this
      have hit₂ : h₂.IsTupleIter it t (i + 1) := hit'.extBut hs₂.extBut (Ne.symm hne)
      obtain ⟨oi, hoi, _, hdi⟩ := id hit₂
      have hTI : T ≠ I := fun q => by rw [q, he] at hTn; cases hTn
      have hT₂ : IsT h₂ T #[.int i tk, v'] 0 := hs₂.extBut _ _ hTI hT
      refine ⟨.tup [.int i, l[i]], by show (enumV 0 l)[i]? = _; rw [enumV_get]; simp [hi], hX, ?_, ⟨it, t, vs, m, v', rfl, hne, tkp _ _ _ hl, VRs.mono tkp (List.prefix_refl _) hvs, by exact_mod_cast he₂, hit₂⟩, fun b hb => ?_⟩
      · rw [VR]
        exact ⟨T, _, 0, rfl, hT₂, by simp [lim], VRs.cons vInt (VRs.one (VR.mono tkp (List.prefix_refl _) hr))⟩
      · have hp := po b hb
        rcases List.mem_cons.mp hb with rfl | hb
        · exact ⟨hp.1, hp.2.1, _, he₂, fun _ _ e => by cases e⟩
        · rw [List.mem_singleton] at hb; subst hb
          exact ⟨hp.1, hp.2.1, oi, hoi, by rw [hdi]; intro _ _ e; cases e⟩
  | range a c n =>
    obtain ⟨x, p, rfl⟩ := ht
    obtain ⟨rfl, hit⟩ := st
    by_cases hi : i < n
    · refine wpAny_pyNext_range_item hit (by (first | lia | omega)) fun h' hit' hs' => wpAny_pure ?_
      have hX : PX [I] s { s with heap := h', toks := s.toks + 1 } := px1 hs'.extBut
      refine ⟨.int (a + (i : Int) * c), by show ((List.range n).map _)[i]? = _; simp [hi], hX, vInt, ⟨rfl, ?_⟩, fin1 rfl hit' (fun _ _ e => by cases e)⟩
      have e1 : a + (i : Int) * c + c = a + ((i + 1 : Nat) : Int) * c := by rw [Int.natCast_add, Int.add_mul]; simp [Int.add_assoc]
      have e2 : (n : Int) - (i : Int) - 1 = (n : Int) - ((i + 1 : Nat) : Int) := by (first | lia | omega)
      rw [← e1, ← e2]; exact hit'
    · refine wpAny_pyNext_range_end hA.1 hit (by (first | lia | omega)) fun h' hx => ⟨?_, px1 (tk := s.toks) hx⟩
      show ((List.range n).map _)[i]? = none
      simp; (first | lia | omega)
end
end Mine

end

section
namespace Mine
section
variable {G : Gh} {k : Nat} {sc : Scope} {ρ : Rho} {H : MH}

noncomputable def tgNames : Expr → List Str
  | .Name x _ => [x]
  | .Tuple es _ _ => (namesOf es).getD []
  | _ => []
noncomputable def bindT : Expr → V → Rho → Option Rho
  | .Name x _, u, ρ => some (upd x u ρ)
  | .Tuple es _ _, .tup us, ρ => match namesOf es with
    | some ns => if ns.length = us.length then some (bindN ns us ρ) else none
    | none => none
  | _, _, _ => none
theorem wpAny_bindT {env : Env} {W : Addr → Prop} {A : Around} {E : Value → Shared → Prop} {s : Shared} {μ : List Addr} {tg : Expr} {u : V} {v : Value} {ρ₁ : Rho} {P : Unit → Shared → Prop} (hA : AOk k A) (hW : ∀ a, W a → Own env a) (hb : bindT tg u ρ = some ρ₁)
    (hk : ∀ x ∈ tgNames tg, StOk env W x) (V : EnvRel G env ρ μ s.heap) (R : HRel G H μ s.heap) (x : VR G.hb μ s.heap u v)
    (h : ∀ s', ExtW W μ s μ s' → HRel G H μ s'.heap → EnvRel G env ρ₁ μ s'.heap → P () s') : wpAny G.M A (assign tg env v) P E s := by
  cases tg with
  | Name y p => cases hb; exact PySem.wpAny_assign_Name (wpAny_store V R x (hk y (.head _)) h)
  | Tuple es kk p =>
    cases u with
    | tup us =>
      replace hb : (match namesOf es with | some ns => if ns.length = us.length then some (bindN ns us ρ) else none | none => none) = some ρ₁ := hb
      cases hn : namesOf es with
      | none => rw [hn] at hb; cases hb
      | some ns =>
        rw [hn] at hb
        by_cases hl : ns.length = us.length
        · simp only [hl, if_true] at hb
          cases hb
          exact wpAny_target hA hW hn (fun z hz => hk z (by show z ∈ (namesOf es).getD []; rw [hn]; exact hz)) V R x hl.symm h
        · simp only [hl, if_false] at hb; cases hb
    | _ => cases hb
  | _ => cases hb

-- the turns of a loop
noncomputable def LoopS (G : Gh) (k : Nat) (sc : Scope) (tg : Expr) (body : List Stmt) (ok : MH → Prop) (Q : Fl → Rho → MH → Prop) : List V → Rho → MH → Prop
  | [], ρ, H => ok H ∧ Q .next ρ H
  | u :: us, ρ, H => ok H ∧ ∃ ρ₁, bindT tg u ρ = some ρ₁ ∧ TS G k sc body ρ₁ H fun fl ρ₂ H₂ => match fl with
    | .next => LoopS G k sc tg body ok Q us ρ₂ H₂
    | .cont => LoopS G k sc tg body ok Q us ρ₂ H₂
    | .brk => Q .next ρ₂ H₂
    | .ret w => Q (.ret w) ρ₂ H₂

theorem ExtW.px {W : Addr → Prop} {μ μ' P : List Addr} {s s₁ s₂ : Shared} (X : ExtW W μ s μ' s₁) (y : PX P s₁ s₂) (hP : ∀ a ∈ P, s.heap.get? a = none) : ExtW W μ s μ' s₂ := by
  refine ⟨?_, X.pre, X.new, fun a o e n w => y.keep _ _ (X.keep a o e n w) fun hp => (by rw [hP a hp] at e; cases e), fun a o e w => ?_⟩
  · obtain ⟨h, t, rfl⟩ := X.same
    obtain ⟨h', t', rfl⟩ := y.same
    exact ⟨h', t', rfl⟩
  · obtain ⟨o', e'⟩ := X.live a o e w
    exact ⟨o', y.keep _ _ e' fun hp => by rw [hP a hp] at e; cases e⟩
-- the frame when something else turns
theorem EnvRel.chg {env : Env} {W : Addr → Prop} {μ : List Addr} {h h' : Heap} (V : EnvRel G env ρ μ h) (hk : ∀ a o, h.get? a = some o → ¬ W a → h'.get? a = some o) (tk : TKeep h h') (hW : ∀ a, W a → ¬ Own env a) : EnvRel G env ρ μ h' := by
  obtain ⟨m, hn, hm⟩ := V.ns
  have keepO : ∀ a, Own env a → ∀ o, h.get? a = some o → h'.get? a = some o := fun a w o e => hk _ _ e fun hp => hW a hp w
  have cellKeep : ∀ {x : Str} {c : Addr} {ov : Option Value}, env.cells.lookup x = some c → h.IsCell c ov → h'.IsCell c ov := fun {x c ov} hx hc => by
    obtain ⟨oc, e, hd⟩ := hc
    exact ⟨oc, keepO c (.inr ⟨x, hx⟩) _ e, hd⟩
  refine ⟨V.kind, V.glob, V.bui, ⟨m, hn.at' fun o e => keepO _ (.inl rfl) _ e, fun x u hu hk => ?_⟩, fun x u hu hk => ?_, fun x c hx => ?_, V.has, V.lnew, V.lout, V.apart⟩
  · obtain ⟨v, a, b⟩ := hm x u hu hk
    exact ⟨v, a, VR.mono tk (List.prefix_refl _) b⟩
  · obtain ⟨c, v, a, b, d⟩ := V.cell x u hu hk
    exact ⟨c, v, a, cellKeep a b, VR.mono tk (List.prefix_refl _) d⟩
  · obtain ⟨⟨ov, a⟩, b⟩ := V.cells x c hx
    exact ⟨⟨ov, cellKeep hx a⟩, b⟩
theorem EnvRel.px {env : Env} {μ P : List Addr} {s s' : Shared} (V : EnvRel G env ρ μ s.heap) (y : PX P s s') (po : POk G P μ s.heap) (hP : ∀ a ∈ P, ¬ Own env a) : EnvRel G env ρ μ s'.heap :=
  V.chg (W := (· ∈ P)) (fun a o e n => y.keep a o e n) (y.tkeep po) hP
theorem POk.extS {env : Env} {μ μ' P : List Addr} {s s' : Shared} (po : POk G P μ s.heap) (X : ExtS env μ s μ' s') (hP : ∀ a ∈ P, ¬ Own env a) : POk G P μ' s'.heap := fun b hb => by
  obtain ⟨h1, h2, ob, e, hn⟩ := po b hb
  refine ⟨fun hm => ?_, h2, ob, X.keep _ _ e h1 (hP b hb), hn⟩
  rcases X.new b hm with q | q
  · exact h1 q
  · rw [e] at q; cases q

theorem forLoop_rule {env : Env} {A : Around} {s s₁ : Shared} {E : Value → Shared → Prop} {μ μ₁ P : List Addr} {src : Src} {I : Addr} {tg : Expr} {body : List Stmt} {Q : Fl → Rho → MH → Prop} (hA : AOk k A) (hsc : env.scope = sc)
    (V : EnvRel G env ρ μ₁ s₁.heap) (R : HRel G H μ₁ s₁.heap) (X : ExtS env μ s μ₁ s₁) (hPs : ∀ a ∈ P, s.heap.get? a = none) (hPo : ∀ a ∈ P, ¬ Own env a) (st : IterSt G src 0 I P μ₁ s₁.heap) (po : POk G P μ₁ s₁.heap) (ht : src.tg tg)
    (hk : ∀ x ∈ tgNames tg, sc.names.lookup x = some .local ∨ sc.names.lookup x = some .cell)
    (h : LoopS G k sc tg body src.ok Q src.items ρ H) :
    codeAny G.M A (.forLoop tg (.ref I) body [] env) (fun r s' => match r with | .ok f => RetS G env μ s Q f s' | .error e => cameBackBy G.M A env E e s') s₁ := by
  refine codeAny_forLoop_any (fun n s' => ∃ i ρ' H' μ', i ≤ src.items.length ∧ n = src.items.length - i ∧ ExtS env μ s μ' s' ∧ HRel G H' μ' s'.heap ∧ EnvRel G env ρ' μ' s'.heap ∧ IterSt G src i I P μ' s'.heap ∧ POk G P μ' s'.heap ∧ LoopS G k sc tg body src.ok Q (src.items.drop i) ρ' H') ?_
    src.items.length ⟨0, ρ, H, μ₁, Nat.zero_le _, rfl, X, R, V, st, po, by simpa using h⟩
  rintro n s₂ ⟨i, ρ', H', μ', hi, rfl, X', R', V', st', po', hl⟩
  have hok : src.ok H' := by
    cases q : src.items.drop i with
    | nil => rw [q] at hl; exact hl.1
    | cons _ _ => rw [q] at hl; exact hl.1
  refine wpAny_mono (iter_next hA R' hok st' po' ht) ?_ fun _ _ e => e
  rintro r s₃ hr
  cases r with
  | none =>
    obtain ⟨hn, px⟩ := hr
    have hd : src.items.drop i = [] := by rw [List.drop_eq_nil_iff]; rw [List.getElem?_eq_none_iff] at hn; exact hn
    rw [hd] at hl
    exact wpAny_execs_nil ⟨.next, ρ', H', μ', X'.px px hPs, px.hrel po' R', V'.px px po' hPo, rfl, hl.2⟩
  | some v =>
    refine wpAny_mono hr ?_ fun _ _ e => e
    rintro _ s₄ ⟨u, hu, px, hx, st₄, po₄⟩
    have hi' : i < src.items.length := (List.getElem?_eq_some_iff.mp hu).1
    have hd : src.items.drop i = u :: src.items.drop (i + 1) := by
      rw [List.drop_eq_getElem_cons hi']
      congr 1
      rw [List.getElem?_eq_getElem hi'] at hu; exact Option.some.inj hu
    rw [hd] at hl
    obtain ⟨_, ρ₁, hb, hts⟩ := hl
    have R₄ := px.hrel po' R'
    have V₄ := V'.px px po' hPo
    have X₄ := X'.px px hPs
    refine wpAny_bindT hA (fun _ w => w) hb (fun y hy => StOk.own (by rw [Env.kindOf, hsc]; exact hk y hy)) V₄ R₄ hx fun s₅ X₅ R₅ V₅ => ?_
    refine wpAny_mono (hts env A _ s₅ μ' hsc hA V₅ R₅) ?_ fun _ _ e => e
    rintro f s₆ ⟨fl, ρ₆, H₆, μ₆, X₆, R₆, V₆, hf, q⟩
    have XX := X₅.trans X₆
    have hst : IterSt G src (i + 1) I P μ₆ s₆.heap := by
      refine st₄.keep (fun b hb o e => XX.keep b o e (po₄ b hb).1 (hPo b hb)) (fun c vs m t => XX.keep _ _ t (R₄.notTuple t) fun w => V₄.ownSeq c w _ t _ _ rfl) XX.pre
    have hpo := po₄.extS XX hPo
    have XXX := X₄.trans XX
    cases fl with
    | next => cases hf; exact ⟨src.items.length - (i + 1), by (first | lia | omega), i + 1, ρ₆, H₆, μ₆, by (first | lia | omega), rfl, XXX, R₆, V₆, hst, hpo, q⟩
    | cont => cases hf; exact ⟨src.items.length - (i + 1), by (first | lia | omega), i + 1, ρ₆, H₆, μ₆, by (first | lia | omega), rfl, XXX, R₆, V₆, hst, hpo, q⟩
    | brk => cases hf; exact ⟨.next, ρ₆, H₆, μ₆, XXX, R₆, V₆, rfl, q⟩
    | ret w => obtain ⟨v', rfl, y⟩ := hf; exact ⟨.ret w, ρ₆, H₆, μ₆, XXX, R₆, V₆, ⟨v', rfl, y⟩, q⟩

-- what a for's or a comprehension's source gives
noncomputable def TI (G : Gh) (k : Nat) (sc : Scope) (e : Expr) (ρ : Rho) (H : MH) (Q : Src → MH → Prop) : Prop :=
  ∀ (env : Env) (A : Around) (E : Value → Shared → Prop) (s : Shared) (μ : List Addr), env.scope = sc → AOk k A → EnvRel G env ρ μ s.heap → HRel G H μ s.heap →
    wpAny G.M A (eval e env) (fun x s₁ => wpAny G.M A (pyIter x) (fun it s₂ => ∃ src I P H' μ', it = .ref I ∧ Ext μ s μ' s₂ ∧ HRel G H' μ' s₂.heap ∧ IterSt G src 0 I P μ' s₂.heap ∧ POk G P μ' s₂.heap ∧ (∀ a ∈ P, s.heap.get? a = none) ∧ Q src H') E s₁) E s

theorem TX_For {tg it : Expr} {body : List Stmt} {pos : Pos} {Q : Fl → Rho → MH → Prop} (h : TI G k sc it ρ H fun src H' => src.tg tg ∧ LoopS G k sc tg body src.ok Q src.items ρ H')
    (hk : ∀ x ∈ tgNames tg, sc.names.lookup x = some .local ∨ sc.names.lookup x = some .cell) (hs : ∀ env x, foldedSetIterable it env x = pure x := by intro _ _; rfl) : TX G k sc (.For tg it body [] pos) ρ H Q := by
  intro env A E s μ hsc hA V R
  refine wpAny_For (wpAny_mono (h env A E s μ hsc hA V R) (fun x s₁ h₁ => wpAny_mono h₁ ?_ fun _ _ e => e) fun _ _ e => e) (hs env)
  rintro itv s₂ ⟨src, I, P, H', μ', rfl, X, R', st, po, hP, ht, hl⟩
  refine forLoop_rule hA hsc (V.ext X R) R' (X.toS (V.ownOut R)) hP (fun a ha w => ?_) st po ht hk hl
  obtain ⟨ob, e⟩ := V.ownLive a w
  rw [hP a ha] at e; cases e

theorem notIn_of_none {μ : List Addr} {h : Heap} (R : HRel G H μ h) {a : Addr} (ha : h.get? a = none) : a ∉ μ := fun hm => by
  obtain ⟨n, o, _, _, x⟩ := R.at hm
  cases o with
  | list l => obtain ⟨vs, n, e, _⟩ := x; rw [IsL, ha] at e; cases e
  | dict l ep => obtain ⟨xs, ⟨o', es, e, _⟩, _⟩ := x; rw [ha] at e; cases e
theorem base_none {μ : List Addr} {h : Heap} (R : HRel G H μ h) {a : Addr} (ha : h.get? a = none) : G.hb.get? a = none := by
  cases q : G.hb.get? a with
  | none => rfl
  | some ob => rw [R.base _ _ q] at ha; cases ha
theorem Ext.none {μ μ' : List Addr} {s s' : Shared} (X : Ext μ s μ' s') {H' : MH} (R : HRel G H μ s.heap) (R' : HRel G H' μ' s'.heap) {a : Addr} (ha : s'.heap.get? a = none) : s.heap.get? a = none := by
  cases q : s.heap.get? a with
  | none => rfl
  | some ob =>
    by_cases hm : a ∈ μ
    · exact absurd (X.pre.subset hm) (notIn_of_none R' ha)
    · rw [X.keep _ _ q hm] at ha; cases ha

-- a source that is a list, a tuple, a dict
theorem TI_val {e : Expr} {Q : Src → MH → Prop} (h : TE G k sc e ρ H fun u H' => match u with
    | .tup l => Q (.tup l) H'
    | .loc n => (match H'[n]? with | some (.list l) => Q (.list n l) H' | some (.dict es ep) => Q (.dict n es ep) H' | none => False)
    | _ => False) : TI G k sc e ρ H Q := by
  intro env A E s μ hsc hA V R
  refine wpAny_mono (h env A E s μ hsc hA V R) ?_ fun _ _ e => e
  rintro v s₁ ⟨u, H₁, μ₁, X, R₁, x, q⟩
  have fresh : ∀ {o : Obj}, (∀ xs n, o.data ≠ .seq xs n) → o.isFreed = false → ∀ {src : Src}, IterSt G src 0 s₁.heap.objs.size [s₁.heap.objs.size] μ₁ (s₁.heap.push o) → Q src H₁ →
      ∃ src I P H' μ', Value.ref s₁.heap.objs.size = .ref I ∧ Ext μ s μ' { s₁ with heap := s₁.heap.push o } ∧ HRel G H' μ' (s₁.heap.push o) ∧ IterSt G src 0 I P μ' (s₁.heap.push o) ∧ POk G P μ' (s₁.heap.push o) ∧ (∀ a ∈ P, s.heap.get? a = none) ∧ Q src H' := fun {o} ho hf {src} st hq => by
    have hk := push_keep s₁.heap o
    refine ⟨src, _, _, H₁, μ₁, rfl, X.trans (Ext.grow (tk := s₁.toks) hk), R₁.grow hk, st, fun b hb => ?_, fun a ha => ?_, hq⟩
    · rw [List.mem_singleton] at hb; subst hb
      exact ⟨notIn_of_none R₁ (get_size_none _), base_none R₁ (get_size_none _), o, Heap.get?_push_size _ hf, ho⟩
    · rw [List.mem_singleton] at ha; subst ha
      exact X.none R R₁ (get_size_none _)
  cases u with
  | tup l =>
    rw [VR] at x
    obtain ⟨a, vs, n, rfl, t, _, y⟩ := x
    refine wpAny_pyIter_tuple (IsT.isTuple t) (fresh (fun _ _ e => by cases e) rfl (src := .tup l) ?_ q)
    have hk := push_keep s₁.heap { cls := .type "tuple_iterator", data := .fields #[.ref a, .int 0 0] }
    exact ⟨rfl, a, vs, n, hk _ _ t, VRs.mono (fun c ws m tt => hk _ _ tt) (List.prefix_refl _) y, _, Heap.get?_push_size _ rfl, rfl, rfl⟩
  | loc n =>
    rw [VR] at x
    obtain ⟨a, rfl, ha⟩ := x
    have q' : match H₁[n]? with | some (.list l) => Q (.list n l) H₁ | some (.dict es ep) => Q (.dict n es ep) H₁ | none => False := q
    cases hn : H₁[n]? with
    | none => rw [hn] at q'; exact q'.elim
    | some o =>
      rw [hn] at q'
      obtain ⟨a', ha', y⟩ := R₁.obj n o hn
      rw [ha] at ha'; cases ha'
      cases o with
      | list l =>
        obtain ⟨vs, m, hl, _, _⟩ := y
        exact wpAny_pyIter_list (IsL.isList hl) (fresh (fun _ _ e => by cases e) rfl (src := .list n l) ⟨rfl, a, ha, _, Heap.get?_push_size _ rfl, rfl, rfl⟩ q')
      | dict es ep =>
        obtain ⟨xs, hd, _, her⟩ := y
        have hz := her.length
        refine pyIter_dictE (R₁.new a (List.mem_of_getElem? ha)).2 hd (fresh (fun _ _ e => by cases e) rfl (src := .dict n es ep) ⟨rfl, a, ha, _, Heap.get?_push_size _ rfl, rfl, by rw [hz]; rfl⟩ q')
  | none => exact q.elim
  | bool b => exact q.elim
  | int i => exact q.elim
  | str y => exact q.elim
  | base l => exact q.elim

theorem callType1 {M : Model} {A : Around} {E : Value → Shared → Prop} {s : Shared} {pos : Pos} {Q : Value → Shared → Prop} {T : String} {t : Sem Value} (h : wpAny M A t (fun v s₁ => wpAny M A (call (.type T) [v]) Q E s₁) E s) : wpAny M A (callWith pos (.type T) [] [(false, t)] []) Q E s :=
  PySem.callWith_type rfl (evalArgs_plain (spliced_cons (wpAny_mono h (fun _ _ h₁ => spliced_nil h₁) fun _ _ e => e)))
-- enumerate(e)
theorem TI_enum (B : G.Ok) {e : Expr} {p pos : Pos} {Q : Src → MH → Prop} (hk : sc.names.lookup ("enumerate" : Str) = some .globalImplicit) (hn : G.mg ("enumerate" : Str) = none) (h : TE G k sc e ρ H fun u H' => match u with
    | .tup l => Q (.enumT l) H'
    | .loc n => (match H'[n]? with | some (.list l) => Q (.enumL n l) H' | _ => False)
    | _ => False) (he : ∀ env, starEach [e] env = [(false, eval e env)] := by intro _; rfl) : TI G k sc (.Call (.Name "enumerate" p) [e] [] pos) ρ H Q := by
  intro env A E s μ hsc hA V R
  refine Call_Name rfl (wpAny_builtinName B V R (by rw [Env.kindOf, hsc]; exact hk) hn boot_enumerate ?_)
  have hstar : backTo pos (starEach [e] env) = [(false, eval e env)] := by rw [he]; rfl
  rw [hstar]
  refine callType1 (wpAny_mono (h env A E s μ hsc hA V R) ?_ fun _ _ e => e)
  rintro v s₁ ⟨u, H₁, μ₁, X, R₁, x, q⟩
  have size2 : s₁.heap.get? (s₁.heap.objs.size + 1) = none := by
    cases z : s₁.heap.get? (s₁.heap.objs.size + 1) with
    | none => rfl
    | some ob => exact absurd (Heap.lt_size z) (Nat.not_lt.mpr (Nat.le_succ _))
  have fin : ∀ {h' : Heap} {src : Src}, IsEnum h' (s₁.heap.objs.size + 1) s₁.heap.objs.size 0 .none → (∀ b o, s₁.heap.get? b = some o → h'.get? b = some o) → (∃ ob, h'.get? s₁.heap.objs.size = some ob ∧ ∀ xs n, ob.data ≠ .seq xs n) →
      IterSt G src 0 (s₁.heap.objs.size + 1) [s₁.heap.objs.size + 1, s₁.heap.objs.size] μ₁ h' → Q src H₁ →
      wpAny G.M A (pyIter (.ref (s₁.heap.objs.size + 1))) (fun it s₂ => ∃ src I P H' μ', it = .ref I ∧ Ext μ s μ' s₂ ∧ HRel G H' μ' s₂.heap ∧ IterSt G src 0 I P μ' s₂.heap ∧ POk G P μ' s₂.heap ∧ (∀ a ∈ P, s.heap.get? a = none) ∧ Q src H') E { s₁ with heap := h' } := by
    intro h' src he' hk' hob st hq
    refine pyIter_enum he' ⟨src, _, _, H₁, μ₁, rfl, X.trans (Ext.grow (tk := s₁.toks) hk'), R₁.grow hk', st, fun b hb => ?_, fun a ha => ?_, hq⟩
    · rcases List.mem_cons.mp hb with rfl | hb
      · exact ⟨notIn_of_none R₁ size2, base_none R₁ size2, _, he', fun _ _ e => by cases e⟩
      · rw [List.mem_singleton] at hb; subst hb
        exact ⟨notIn_of_none R₁ (get_size_none _), base_none R₁ (get_size_none _), hob⟩
    · rcases List.mem_cons.mp ha with rfl | ha
      · exact X.none R R₁ size2
      · rw [List.mem_singleton] at ha; subst ha
        exact X.none R R₁ (get_size_none _)
  cases u with
  | tup l =>
    rw [VR] at x
    obtain ⟨a, vs, n, rfl, t, _, y⟩ := x
    refine call_enumerate_tuple t fun h' he' hit hk' => fin he' hk' ?_ (src := .enumT l) ?_ q
    · obtain ⟨oi, ho, _, hd⟩ := hit; exact ⟨oi, ho, by rw [hd]; intro _ _ e; cases e⟩
    · exact ⟨_, a, vs, n, .none, rfl, Nat.succ_ne_self _, hk' _ _ t, VRs.mono (fun c ws m tt => hk' _ _ tt) (List.prefix_refl _) y, he', hit⟩
  | loc n =>
    rw [VR] at x
    obtain ⟨a, rfl, ha⟩ := x
    have q' : match H₁[n]? with | some (.list l) => Q (.enumL n l) H₁ | _ => False := q
    cases hn : H₁[n]? with
    | none => rw [hn] at q'; exact q'.elim
    | some o =>
      rw [hn] at q'
      obtain ⟨a', ha', y⟩ := R₁.obj n o hn
      rw [ha] at ha'; cases ha'
      cases o with
      | list l =>
        obtain ⟨vs, m, hl, _, _⟩ := y
        refine call_enumerate_list (IsL.isList hl) fun h' he' hit _ hk' => fin he' hk' ?_ (src := .enumL n l) ⟨_, a, .none, rfl, Nat.succ_ne_self _, ha, he', hit⟩ q'
        obtain ⟨oi, ho, _, hd⟩ := hit; exact ⟨oi, ho, by rw [hd]; intro _ _ e; cases e⟩
      | dict es ep => exact q'.elim
  | none => exact q.elim
  | bool b => exact q.elim
  | int i => exact q.elim
  | str y => exact q.elim
  | base l => exact q.elim
end
end Mine

end

section
namespace Mine

theorem OR.keep {G : Gh} {μ μ' : List Addr} {h h' : Heap} {o : O} {a : Addr} (x : OR G μ h o a) (hk : ∀ ob, h.get? a = some ob → h'.get? a = some ob) (tk : TKeep h h') (hm : μ <+: μ') : OR G μ' h' o a := by
  cases o with
  | list l => obtain ⟨vs, m, e, hl, r⟩ := x; exact ⟨vs, m, hk _ e, hl, VRs.mono tk hm r⟩
  | dict l ep => obtain ⟨xs, d, hl, r⟩ := x; exact ⟨xs, d.keep (fun ob e => hk _ e) tk, hl, ER.mono tk hm r⟩
theorem OR.live {G : Gh} {μ : List Addr} {h : Heap} {o : O} {a : Addr} (x : OR G μ h o a) : ∃ ob, h.get? a = some ob := by
  cases o with
  | list l => obtain ⟨vs, m, e, hl, r⟩ := x; exact ⟨_, e⟩
  | dict l ep => obtain ⟨xs, ⟨o, es, e, _⟩, hl, r⟩ := x; exact ⟨_, e⟩

theorem ExtW.shrink {W W' : Addr → Prop} {μ μ' : List Addr} {s s' : Shared} (X : ExtW W μ s μ' s') (h : ∀ a, W a → W' a ∨ s.heap.get? a = none) (h' : ∀ a o, s.heap.get? a = some o → W' a → ∃ o', s'.heap.get? a = some o') : ExtW W' μ s μ' s' :=
  ⟨X.same, X.pre, X.new, fun a o e n w => X.keep a o e n fun q => (h a q).elim w fun z => (by rw [z] at e; cases e), h'⟩
theorem ExtW.widen {W W' : Addr → Prop} {μ μ' : List Addr} {s s' : Shared} (X : ExtW W μ s μ' s') (h : ∀ a, W a → W' a) (ho : ∀ a, W' a → a ∉ μ) : ExtW W' μ s μ' s' :=
  ⟨X.same, X.pre, X.new, fun a o e n w => X.keep a o e n fun q => w (h a q), fun a o e q => by
    by_cases w : W a
    · exact X.live a o e w
    · exact ⟨o, X.keep a o e (ho a q) w⟩⟩
theorem Ext.thenW {W : Addr → Prop} {μ μ₁ μ₂ : List Addr} {s s₁ s₂ : Shared} (x : Ext μ s μ₁ s₁) (y : ExtW W μ₁ s₁ μ₂ s₂) (hW : ∀ a, W a → s.heap.get? a = Option.none) : Ext μ s μ₂ s₂ := by
  refine ⟨?_, x.pre.trans y.pre, fun a ha => ?_, fun a o e n => ?_⟩
  · obtain ⟨h, t, rfl⟩ := x.same
    obtain ⟨h', t', rfl⟩ := y.same
    exact ⟨h', t', rfl⟩
  · rcases y.new a ha with h | h
    · exact x.new a h
    · cases q : s.heap.get? a with
      | none => exact .inr rfl
      | some o =>
        by_cases m : a ∈ μ
        · exact .inl m
        · rw [x.keep a o q m] at h; cases h
  · refine y.keep a o (x.keep a o e n) (fun m => ?_) fun w => by rw [hW a w] at e; cases e
    rcases x.new a m with h | h
    · exact n h
    · rw [e] at h; cases h

section
variable {G : Gh} {k : Nat} {sc : Scope} {ρ : Rho} {H : MH}

-- the turns of a comprehension's loop
noncomputable def LoopC (em : Rho → O → MH → (Rho → O → MH → Prop) → Prop) (tg : Expr) (ok : MH → Prop) (Q : Rho → O → MH → Prop) : List V → Rho → O → MH → Prop
  | [], ρ, acc, H => ok H ∧ Q ρ acc H
  | u :: us, ρ, acc, H => ok H ∧ ∃ ρ₁, bindT tg u ρ = some ρ₁ ∧ em ρ₁ acc H fun ρ₂ acc' H₂ => LoopC em tg ok Q us ρ₂ acc' H₂

noncomputable def EmitOk (G : Gh) (A : Around) (cenv : Env) (D : Addr) (emitT : Sem Unit) (em : Rho → O → MH → (Rho → O → MH → Prop) → Prop) : Prop :=
  ∀ (ρ : Rho) (acc : O) (H : MH) (K : Rho → O → MH → Prop), em ρ acc H K → ∀ (E : Value → Shared → Prop) (s : Shared) (μ : List Addr), EnvRel G cenv ρ μ s.heap → HRel G H μ s.heap → OR G μ s.heap acc D → D ∉ μ →
    wpAny G.M A emitT (fun _ s' => ∃ ρ' acc' H' μ', ExtW (fun a => a = cenv.locals ∨ a = D) μ s μ' s' ∧ HRel G H' μ' s'.heap ∧ EnvRel G cenv ρ' μ' s'.heap ∧ OR G μ' s'.heap acc' D ∧ K ρ' acc' H') E s

theorem compLoop_rule {e : Expr} {d : Nat} {p : Pos} {accv : Value} {cenv : Env} {A : Around} {sb s : Shared} {μ₀ μ P : List Addr} {src : Src} {I D : Addr} {tg : Expr} {acc : O} {emitT : Sem Unit} {em : Rho → O → MH → (Rho → O → MH → Prop) → Prop} {Q : Rho → O → MH → Prop} {RR : Result → Shared → Prop}
    (hturn : compTurn e d (.ref I) accv cenv = (standAt p >>= fun _ => pyNext (.ref I) >>= fun r => match r with
      | none => pure (.done .next)
      | some v => letOwnedTupleGo tg (.ref I) v >>= fun _ => assign tg cenv v >>= fun _ => emitT >>= fun _ => again (.compLoop e d (.ref I) accv cenv)))
    (hq : (Code.compLoop e d (.ref I) accv cenv).quiet = true) (hund : A.under (.compLoop e d (.ref I) accv cenv) = A) (hdn : G.M.den (.compLoop e d (.ref I) accv cenv) = (compTurn e d (.ref I) accv cenv).onRaise (fun x => do noteFrame x cenv; theTreesLotGoes x))
    (hA : AOk k A) (X : ExtW (fun a => a = cenv.locals ∨ a = D) μ₀ sb μ s) (hPs : ∀ a ∈ P, sb.heap.get? a = none) (V : EnvRel G cenv ρ μ s.heap) (R : HRel G H μ s.heap) (st : IterSt G src 0 I P μ s.heap) (po : POk G P μ s.heap) (ht : src.tg tg) (hk : ∀ x ∈ tgNames tg, cenv.kindOf x = some .local)
    (hPo : ∀ a ∈ P, ¬ Own cenv a) (hPD : D ∉ P) (hD : D ∉ μ) (hDo : ¬ Own cenv D) (ho : OR G μ s.heap acc D) (hem : EmitOk G A cenv D emitT em) (hl : LoopC em tg src.ok Q src.items ρ acc H)
    (fin : ∀ s' ρ' acc' H' μ', ExtW (fun a => a = cenv.locals ∨ a = D) μ₀ sb μ' s' → HRel G H' μ' s'.heap → EnvRel G cenv ρ' μ' s'.heap → D ∉ μ' → OR G μ' s'.heap acc' D → Q ρ' acc' H' → RR (.ok .next) s') :
    codeAny G.M A (.compLoop e d (.ref I) accv cenv) RR s := by
  refine codeAny_loop hq (fun n s' => ∃ i ρ' acc' H' μ', i ≤ src.items.length ∧ n = src.items.length - i ∧ ExtW (fun a => a = cenv.locals ∨ a = D) μ₀ sb μ' s' ∧ HRel G H' μ' s'.heap ∧ EnvRel G cenv ρ' μ' s'.heap ∧ IterSt G src i I P μ' s'.heap ∧ POk G P μ' s'.heap ∧ D ∉ μ' ∧ OR G μ' s'.heap acc' D ∧
      LoopC em tg src.ok Q (src.items.drop i) ρ' acc' H') (fun n s' hI => ?_) src.items.length ⟨0, ρ, acc, H, μ, Nat.zero_le _, rfl, X, R, V, st, po, hD, ho, by simpa using hl⟩
  obtain ⟨i, ρ', acc', H', μ', hi, rfl, X', R', V', st', po', hD', ho', hl'⟩ := hI
  rw [hund, hdn]
  refine wpAny_noted ?_
  rw [hturn]
  have hok : src.ok H' := by
    cases q : src.items.drop i with
    | nil => rw [q] at hl'; exact hl'.1
    | cons _ _ => rw [q] at hl'; exact hl'.1
  refine wpAny_bind (wpAny_standAt (wpAny_bind (wpAny_mono (iter_next hA R' hok st' po' ht) ?_ fun _ _ h' => h')))
  rintro r s₃ hr
  cases r with
  | none =>
    obtain ⟨hn, px⟩ := hr
    have hd : src.items.drop i = [] := by rw [List.drop_eq_nil_iff]; rw [List.getElem?_eq_none_iff] at hn; exact hn
    rw [hd] at hl'
    have V₃ := V'.px px po' hPo
    obtain ⟨obD, eD⟩ := ho'.live
    have ho₃ := ho'.keep (fun ob e => px.keep _ _ e hPD) (px.tkeep po') (List.prefix_refl _)
    exact wpAny_pure (fin s₃ ρ' acc' H' μ' (X'.px px hPs) (px.hrel po' R') V₃ hD' ho₃ hl'.2)
  | some v =>
    refine wpAny_bind (wpAny_mono hr ?_ fun _ _ h' => h')
    rintro _ s₄ ⟨u, hu, px, hx, st₄, po₄⟩
    have hi' : i < src.items.length := (List.getElem?_eq_some_iff.mp hu).1
    have hd : src.items.drop i = u :: src.items.drop (i + 1) := by
      rw [List.drop_eq_getElem_cons hi']
      congr 1
      rw [List.getElem?_eq_getElem hi'] at hu; exact Option.some.inj hu
    rw [hd] at hl'
    obtain ⟨_, ρ₁, hb, he⟩ := hl'
    have R₄ := px.hrel po' R'
    have V₄ := V'.px px po' hPo
    have tk₄ := px.tkeep po'
    have ho₄ := ho'.keep (fun ob e => px.keep _ _ e hPD) tk₄ (List.prefix_refl _)
    have X₄ := X'.px px hPs
    refine wpAny_bind (wpAny_bindT (W := fun a => a = cenv.locals) hA (fun a w => .inl w) hb (fun y hy => .inl ⟨hk y hy, rfl⟩) V₄ R₄ hx fun s₅ X₅ R₅ V₅ => ?_)
    have hDne : D ≠ cenv.locals := fun q => hDo (.inl q)
    have tk₅ : TKeep s₄.heap s₅.heap := fun c vs m t => X₅.keep _ _ t (R₄.notTuple t) fun w => V₄.ownSeq c (.inl w) _ t _ _ rfl
    have ho₅ := ho₄.keep (fun ob e => X₅.keep _ _ e hD' hDne) tk₅ (List.prefix_refl _)
    refine wpAny_bind (wpAny_mono (hem _ _ _ _ he _ s₅ μ' V₅ R₅ ho₅ hD') ?_ fun _ _ h' => h')
    rintro _ s₆ ⟨ρ₆, acc₆, H₆, μ₆, X₆, R₆, V₆, ho₆, hl₆⟩
    have W₄ : ∀ a, (a = cenv.locals ∨ a = D) → a ∉ μ' := fun a w => by
      rcases w with rfl | rfl
      · exact V'.lout
      · exact hD'
    have XX : ExtW (fun a => a = cenv.locals ∨ a = D) μ' s₄ μ₆ s₆ := (X₅.widen (fun a w => .inl w) W₄).trans X₆
    have notP : ∀ b ∈ P, ¬ (b = cenv.locals ∨ b = D) := fun b hb w => by
      rcases w with w | w
      · exact hPo b hb (.inl w)
      · exact hPD (w ▸ hb)
    have tk₆ : TKeep s₄.heap s₆.heap := fun c vs m t => XX.keep _ _ t (R₄.notTuple t) fun w => by
      rcases w with w | w
      · exact V₄.ownSeq c (.inl w) _ t _ _ rfl
      · exact ho₄.noTuple (w ▸ t)
    have hst : IterSt G src (i + 1) I P μ₆ s₆.heap := st₄.keep (fun b hb o e => XX.keep b o e (po₄ b hb).1 (notP b hb)) tk₆ XX.pre
    have hpo : POk G P μ₆ s₆.heap := fun b hb => by
      obtain ⟨h1, h2, ob, e, hn⟩ := po₄ b hb
      refine ⟨fun hm => ?_, h2, ob, XX.keep _ _ e h1 (notP b hb), hn⟩
      rcases XX.new b hm with q | q
      · exact h1 q
      · rw [e] at q; cases q
    have hD₆ : D ∉ μ₆ := fun hm => by
      rcases XX.new D hm with q | q
      · exact hD' q
      · obtain ⟨ob, e⟩ := ho₄.live; rw [e] at q; cases q
    exact wpAny_pure ⟨rfl, src.items.length - (i + 1), by (first | lia | omega), i + 1, ρ₆, acc₆, H₆, μ₆, by (first | lia | omega), rfl, X₄.trans XX, R₆, V₆, hst, hpo, hD₆, ho₆, hl₆⟩
end
end Mine

end

section
namespace Mine

-- the scope of a comprehension inside a scope
noncomputable def relab (cs sc : Scope) : Scope := { cs with names := cs.names.map fun (n, k) => if (k == .free && sc.kind == .function && sc.names.lookup n == some .cell) then (n, .cell) else (n, k) }
noncomputable def strip (cs : Scope) (ρ : Rho) : Rho := ρ.filter fun p => !(cs.names.lookup p.1 == some .local)
noncomputable def compOk (cs sc : Scope) : Bool := cs.kind == .function && sc.kind == .function && cs.names.all fun (n, k) => k != .cell && (k != .local || cs.names.lookup n == some .local) &&
  (k != .free || (cs.names.lookup n == some .free && (sc.names.lookup n == some .cell || sc.names.lookup n == some .free)))

theorem relab_lookup (cs sc : Scope) (x : Str) : (relab cs sc).names.lookup x = (cs.names.lookup x).map fun k => if (k == .free && sc.kind == .function && sc.names.lookup x == some .cell) then .cell else k := by
  unfold relab
  dsimp only
  induction cs.names with
  | nil => rfl
  | cons p r ih =>
    obtain ⟨n, k⟩ := p
    have e : (if (k == NameKind.free && sc.kind == .function && sc.names.lookup n == some .cell) = true then (n, NameKind.cell) else (n, k)) = (n, if (k == NameKind.free && sc.kind == .function && sc.names.lookup n == some .cell) = true then NameKind.cell else k) := by split <;> rfl
    show List.lookup x ((if (k == NameKind.free && sc.kind == .function && sc.names.lookup n == some .cell) = true then (n, NameKind.cell) else (n, k)) :: _) = _
    rw [e]
    cases hx : x == n with
    | true => have := eq_of_beq hx; subst this; simp only [List.lookup_cons, beq_self_eq_true, Option.map_some]
    | false => simp only [List.lookup_cons, hx]; exact ih
theorem strip_lookup (cs : Scope) (x : Str) : ∀ ρ : Rho, (strip cs ρ).lookup x = if cs.names.lookup x = some .local then none else ρ.lookup x
  | [] => by simp [strip]
  | (y, u) :: r => by
    have ih := strip_lookup cs x r
    unfold strip at ih ⊢
    rw [List.filter_cons]
    by_cases hy : cs.names.lookup y = some .local
    · simp only [hy, beq_self_eq_true, Bool.not_true, Bool.false_eq_true, if_false]
      rw [ih, List.lookup_cons]
      cases hx : x == y with
      | true => have := eq_of_beq hx; subst this; simp [hy]
      | false => rfl
    · have : (cs.names.lookup y == some .local) = false := by simpa using hy
      simp only [this, Bool.not_false, if_true]
      rw [List.lookup_cons, List.lookup_cons]
      cases hx : x == y with
      | true => have := eq_of_beq hx; subst this; simp [hy]
      | false => exact ih

noncomputable def closL (cells : List (Str × Addr)) : List (Str × NameKind) → List (Str × Addr) → List (Str × Addr)
  | [], acc => acc
  | (n, k) :: r, acc => if k == .free then closL cells r ((n, (cells.lookup n).getD 0) :: acc) else closL cells r acc
theorem closL_in (cells : List (Str × Addr)) : ∀ (names : List (Str × NameKind)) (acc : List (Str × Addr)) (x : Str) (c : Addr), (closL cells names acc).lookup x = some c → ((x, .free) ∈ names ∧ c = (cells.lookup x).getD 0) ∨ acc.lookup x = some c
  | [], _, _, _, h => .inr h
  | (n, k) :: r, acc, x, c, h => by
    unfold closL at h
    by_cases hk : (k == .free) = true
    · rw [if_pos hk] at h
      rcases closL_in cells r _ x c h with ⟨a, b⟩ | b
      · exact .inl ⟨.tail _ a, b⟩
      · rw [List.lookup_cons] at b
        cases hx : x == n with
        | true =>
          rw [hx] at b; have := eq_of_beq hx; subst this; have := eq_of_beq hk; subst this
          exact .inl ⟨.head _, (Option.some.inj b).symm⟩
        | false => rw [hx] at b; exact .inr b
    · rw [if_neg hk] at h
      rcases closL_in cells r _ x c h with ⟨a, b⟩ | b
      · exact .inl ⟨.tail _ a, b⟩
      · exact .inr b
theorem closL_has (cells : List (Str × Addr)) : ∀ (names : List (Str × NameKind)) (acc : List (Str × Addr)) (x : Str), ((x, .free) ∈ names ∨ acc.lookup x = some ((cells.lookup x).getD 0)) → (closL cells names acc).lookup x = some ((cells.lookup x).getD 0)
  | [], _, _, h => h.elim (fun q => nomatch q) id
  | (n, k) :: r, acc, x, h => by
    unfold closL
    by_cases hk : (k == .free) = true
    · rw [if_pos hk]
      refine closL_has cells r _ x ?_
      by_cases hx : (x == n) = true
      · have := eq_of_beq hx; subst this
        exact .inr (by simp [List.lookup_cons])
      · have hx' : (x == n) = false := by simpa using hx
        rcases h with h | h
        · rcases List.mem_cons.mp h with e | e
          · injection e with e _; subst e; simp at hx'
          · exact .inl e
        · exact .inr (by rw [List.lookup_cons, hx']; exact h)
    · rw [if_neg hk]
      refine closL_has cells r _ x ?_
      rcases h with h | h
      · rcases List.mem_cons.mp h with e | e
        · injection e with _ e; subst e; simp at hk
        · exact .inl e
      · exact .inr h
theorem closureFor_is {env : Env} (scope : Scope) (h : ∀ x, (x, NameKind.free) ∈ scope.names → (env.cells.lookup x).isSome = true) : closureFor scope env = pure (closL env.cells scope.names []) := by
  unfold closureFor
  have key : ∀ (names : List (Str × NameKind)) (acc : List (Str × Addr)), (∀ x, (x, NameKind.free) ∈ names → (env.cells.lookup x).isSome = true) →
      (forIn names acc fun x (r : List (Str × Addr)) => (match x with
        | (name, kind) => if (kind == NameKind.free) = true then (do let a ← cellOf env name; pure (ForInStep.yield ((name, a) :: r))) else pure (ForInStep.yield r) : Sem (ForInStep (List (Str × Addr))))) = pure (closL env.cells names acc) := by
    intro names
    induction names with
    | nil => intro acc _; rfl
    | cons p r ih =>
      intro acc hn
      obtain ⟨n, k⟩ := p
      have hr : ∀ x, (x, NameKind.free) ∈ r → (env.cells.lookup x).isSome = true := fun x hx => hn x (.tail _ hx)
      rw [List.forIn_cons]
      unfold closL
      by_cases hk : (k == NameKind.free) = true
      · have := eq_of_beq hk; subst this
        obtain ⟨c, hc⟩ := Option.isSome_iff_exists.mp (hn n (.head _))
        have e : cellOf env n = pure c := by unfold cellOf; rw [hc]
        simp only [beq_self_eq_true, if_true]
        rw [e, hc]
        exact ih _ hr
      · simp only [hk, if_false]
        exact ih _ hr
  exact (congrArg (fun t : Sem (List (Str × Addr)) => t >>= fun cs => pure cs) (key scope.names [] h)).trans rfl

section
variable {G : Gh} {k : Nat} {sc : Scope} {ρ : Rho} {H : MH}

theorem HRel.adopt {μ : List Addr} {h : Heap} {o : O} {a : Addr} (R : HRel G H μ h) (ha : a ∉ μ) (hb : G.hb.get? a = none) (hs : (a == sysModules) = false) (ho : OR G μ h o a) : HRel G (H ++ [o]) (μ ++ [a]) h := by
  have tk : TKeep h h := fun _ _ _ t => t
  refine ⟨R.base, by simp [R.len], ?_, ?_, ?_, R.low⟩
  · rw [List.nodup_append]; refine ⟨R.nodup, by simp, fun x hx y hy => ?_⟩
    rw [List.mem_singleton] at hy; subst hy; rintro rfl; exact ha hx
  · intro b hb'
    rcases List.mem_append.mp hb' with hb' | hb'
    · exact R.new b hb'
    · rw [List.mem_singleton] at hb'; subst hb'; exact ⟨hb, hs⟩
  · intro n p hp
    rw [List.getElem?_append] at hp
    by_cases hlt : n < H.length
    · rw [if_pos hlt] at hp
      obtain ⟨b, hb', x⟩ := R.obj n p hp
      exact ⟨b, by rw [List.getElem?_append_left (by rw [R.len]; exact hlt)]; exact hb', x.keep (fun _ e => e) tk (List.prefix_append _ _)⟩
    · rw [if_neg hlt] at hp
      have : n = H.length := by
        have := (List.getElem?_eq_some_iff.mp hp).1; simp at this; (first | lia | omega)
      subst this
      simp at hp; subst hp
      exact ⟨a, by rw [← R.len]; simp, ho.keep (fun _ e => e) tk (List.prefix_append _ _)⟩

-- an iterator is its own iterator
theorem iter_self {A : Around} {E : Value → Shared → Prop} {s : Shared} {src : Src} {i : Nat} {I : Addr} {P μ : List Addr} {Q : Value → Shared → Prop} (st : IterSt G src i I P μ s.heap) (h : Q (.ref I) s) : wpAny G.M A (pyIter (.ref I)) Q E s := by
  cases src with
  | list n l => obtain ⟨rfl, a, e, y⟩ := st; exact wpAny_pyIter_listiter y h
  | tup l => obtain ⟨rfl, t, vs, m, a, b, y⟩ := st; exact wpAny_pyIter_tupleiter y h
  | dict n es ep => obtain ⟨rfl, a, e, y⟩ := st; exact wpAny_pyIter_keyiter y h
  | enumL n l => obtain ⟨it, a, old, rfl, ne, e, y, z⟩ := st; exact pyIter_enum y h
  | enumT l => obtain ⟨it, t, vs, m, old, rfl, ne, a, b, y, z⟩ := st; exact pyIter_enum y h
  | range a c n => obtain ⟨rfl, y⟩ := st; exact wpAny_pyIter_rangeiter y h

theorem comp_core {e : Expr} {tg iter : Expr} {gs : List Comprehension} {cs : Scope} {pos p : Pos} {newAcc : Sem Value} {oAcc : Obj} {acc₀ : O} {use : Option (Value → Sem Unit)} {env : Env} {A : Around} {E : Value → Shared → Prop} {s : Shared} {μ : List Addr}
    {emitT : Env → Value → Sem Unit} {em : Rho → O → MH → (Rho → O → MH → Prop) → Prop} {Q : O → MH → Prop} {PQ : Value → Shared → Prop}
    (hsc : env.scope = sc) (hA : AOk k A) (V : EnvRel G env ρ μ s.heap) (R : HRel G H μ s.heap) (hok : compOk cs sc = true) (hcl : clausesOf e = ⟨tg, iter, [], 0⟩ :: gs) (hs : ∀ x, foldedSetIterable iter env x = pure x)
    (hnew : ∀ (s : Shared) (P : Value → Shared → Prop), P (.ref s.heap.objs.size) { s with heap := s.heap.push oAcc } → wpAny G.M A newAcc P E s) (hfr : oAcc.isFreed = false) (hacc : ∀ (h : Heap) (ν : List Addr), OR G ν (h.push oAcc) acc₀ h.objs.size)
    (hstart : ∀ (cenv : Env) (I : Addr) (accv : Value) (RR : Result → Shared → Prop) (s : Shared), codeAny G.M A (.compLoop e 0 (.ref I) accv cenv) RR s →
      (∀ E', wpAny G.M A (pyIter (.ref I)) (fun it' s' => codeAny G.M A (.compLoop e 0 it' accv cenv) RR s') E' s) → codeAny G.M A (.compStart e 0 (.ref I) accv cenv) RR s)
    (hturn : ∀ (cenv : Env) (I D : Addr), compTurn e 0 (.ref I) (.ref D) cenv = (standAt p >>= fun _ => pyNext (.ref I) >>= fun r => match r with
      | none => pure (.done .next)
      | some v => letOwnedTupleGo tg (.ref I) v >>= fun _ => assign tg cenv v >>= fun _ => emitT cenv (.ref D) >>= fun _ => again (.compLoop e 0 (.ref I) (.ref D) cenv)))
    (hq : ∀ (cenv : Env) (I D : Addr), (Code.compLoop e 0 (.ref I) (.ref D) cenv).quiet = true) (hund : ∀ (cenv : Env) (I D : Addr), A.under (.compLoop e 0 (.ref I) (.ref D) cenv) = A)
    (hdn : ∀ (cenv : Env) (I D : Addr), G.M.den (.compLoop e 0 (.ref I) (.ref D) cenv) = (compTurn e 0 (.ref I) (.ref D) cenv).onRaise (fun x => do noteFrame x cenv; theTreesLotGoes x))
    (htg : ∀ x ∈ tgNames tg, cs.names.lookup x = some .local)
    (hem : ∀ (cenv : Env) (D : Addr), cenv.scope = relab cs sc → ¬ Own cenv D → G.hb.get? D = Option.none → EmitOk G A cenv D (emitT cenv (.ref D)) em)
    (h : TI G k sc iter ρ H fun src H' => src.tg tg ∧ LoopC em tg src.ok (fun _ acc H₂ => Q acc H₂) src.items (strip cs ρ) acc₀ H')
    (fin : ∀ (C D : Addr) (s' : Shared) (acc : O) (H' : MH) (μ' : List Addr), s.heap.get? C = none → C ∉ μ' ++ [D] → Ext μ s (μ' ++ [D]) s' → HRel G (H' ++ [acc]) (μ' ++ [D]) s'.heap → (∃ m, s'.heap.Ns C m) → μ'.length = H'.length → Q acc H' → compPost G.M A E use PQ (.ref D) C (.ok .next) s') :
    wpAny G.M A (comprehension e cs env pos newAcc false (eval iter env) use) PQ E s := by
  subst hsc
  simp only [compOk, Bool.and_eq_true, beq_iff_eq] at hok
  obtain ⟨⟨hck, hsk⟩, hall⟩ := hok
  have hnm : ∀ y ∈ cs.names, y.2 ≠ .cell ∧ (y.2 = .local → cs.names.lookup y.1 = some .local) ∧ (y.2 = .free → cs.names.lookup y.1 = some .free ∧ (env.scope.names.lookup y.1 = some .cell ∨ env.scope.names.lookup y.1 = some .free)) := by
    intro y hy
    have := List.all_eq_true.mp hall y hy
    obtain ⟨n, kk⟩ := y
    simp only [Bool.and_eq_true, Bool.or_eq_true, bne_iff_ne, ne_eq, beq_iff_eq] at this
    obtain ⟨⟨a, b⟩, c⟩ := this
    refine ⟨a, fun e => ?_, fun e => ?_⟩
    · exact b.resolve_left fun q => q e
    · exact c.resolve_left fun q => q e
  have hfree : ∀ x, (x, NameKind.free) ∈ cs.names → (env.cells.lookup x).isSome = true := fun x hx => V.has x ((hnm _ hx).2.2 rfl).2
  have hlocal : ∀ x ∈ tgNames tg, (relab cs env.scope).names.lookup x = some .local := fun x hx => by rw [relab_lookup, htg x hx]; rfl
  refine wpAny_comprehension_free hcl hs (closureFor_is cs hfree) hck (fun y hy e => (hnm y hy).2.1 e) ?_
  refine wpAny_mono (h env A E s μ rfl hA V R) (fun x s₁ h₁ => wpAny_mono h₁ ?_ fun _ _ e => e) fun _ _ e => e
  rintro itv s₂ ⟨src, I, P, H₂, μ₂, rfl, X₂, R₂, st₂, po₂, hPs, ht, hl⟩
  have V₂ := V.ext X₂ R
  refine hnew s₂ _ ?_
  have hDn : s₂.heap.get? s₂.heap.objs.size = none := get_size_none _
  generalize hD : s₂.heap.objs.size = D at hDn
  have hk₃ : ∀ b ob, s₂.heap.get? b = some ob → (s₂.heap.push oAcc).get? b = some ob := push_keep _ _
  refine wpAny_newFunctionEnv (fun y hy => (hnm y hy).1) (fun y hy => nomatch hy) (fun h₄ hns hsb => ?_) hck
  have hsz : (s₂.heap.push oAcc).objs.size = D + 1 := by rw [Heap.size_push, hD]
  have hCnone : s₂.heap.get? (D + 1) = none := by
    cases z : s₂.heap.get? (D + 1) with
    | none => rfl
    | some ob => exact absurd (Heap.lt_size z) (by rw [hD]; exact Nat.not_lt.mpr (Nat.le_succ _))
  dsimp only at hns hsb ⊢
  rw [hsz] at hns hsb ⊢
  have hk₄ : ∀ b ob, s₂.heap.get? b = some ob → h₄.get? b = some ob := fun b ob e => hsb.extBut b ob (fun q => by rw [q, hCnone] at e; cases e) (Heap.get?_push_of_some _ (hk₃ _ _ e))
  have hcenv : ({ newEnv cs (D + 1) env.globals (closL env.cells cs.names []) env.qual none Value.none (some env) builtinsNs with scope := relabel cs env } : Env).locals = D + 1 := rfl
  -- the environment of the comprehension
  generalize hce : ({ newEnv cs (D + 1) env.globals (closL env.cells cs.names []) env.qual none Value.none (some env) builtinsNs with scope := relabel cs env } : Env) = cenv at hcenv
  have hcsc : cenv.scope = relab cs env.scope := by subst hce; rfl
  have hccl : cenv.cells = closL env.cells cs.names [] := by subst hce; rfl
  have hDC : D ≠ cenv.locals := by rw [hcenv]; exact Nat.ne_of_lt (Nat.lt_succ_self _)
  have X₄ : Ext μ s μ₂ { s₂ with heap := h₄, toks := s₂.toks + ([] : List (Str × Value)).length } := X₂.trans (Ext.grow hk₄)
  have R₄ : HRel G H₂ μ₂ h₄ := R₂.grow hk₄
  have V₄o : EnvRel G env ρ μ₂ h₄ := V₂.grow (tk := s₂.toks) R₂ hk₄
  have tk₄ : TKeep s₂.heap h₄ := fun c vs n t => hk₄ _ _ t
  have hbD : ∀ b, s₂.heap.get? b = none → G.hb.get? b = none := fun b e => base_none R₂ e
  have ownOut : ∀ b, Own cenv b → b = D + 1 ∨ ∃ x, env.cells.lookup x = some b := by
    rintro b (rfl | ⟨x, hx⟩)
    · exact .inl hcenv
    · rw [hccl] at hx
      rcases closL_in _ _ _ _ _ hx with ⟨a, rfl⟩ | a
      · obtain ⟨c, hc⟩ := Option.isSome_iff_exists.mp (hfree x a)
        exact .inr ⟨x, by rw [hc]; rfl⟩
      · cases a
  have freeK : ∀ x, cenv.kindOf x = some .cell ∨ cenv.kindOf x = some .free → (x, NameKind.free) ∈ cs.names := fun x hx => by
    rw [Env.kindOf, hcsc, relab_lookup] at hx
    cases q : cs.names.lookup x with
    | none => rw [q] at hx; rcases hx with e | e <;> cases e
    | some kk =>
      have hm := mem_of_lookup q
      cases kk with
      | free => exact hm
      | cell => exact absurd rfl (hnm _ hm).1
      | _ => rw [q] at hx; rcases hx with e | e <;> cases e
  have cellsOf : ∀ x, (x, NameKind.free) ∈ cs.names → ∀ c, env.cells.lookup x = some c → cenv.cells.lookup x = some c := fun x hx c hc => by
    rw [hccl, closL_has env.cells cs.names [] x (.inl hx), hc]; rfl
  have ofCells : ∀ x c, cenv.cells.lookup x = some c → (x, NameKind.free) ∈ cs.names ∧ env.cells.lookup x = some c := fun x c hx => by
    rw [hccl] at hx
    rcases closL_in _ _ _ _ _ hx with ⟨a, rfl⟩ | a
    · obtain ⟨c, hc⟩ := Option.isSome_iff_exists.mp (hfree x a)
      exact ⟨a, by rw [hc]; rfl⟩
    · cases a
  have V₄ : EnvRel G cenv (strip cs ρ) μ₂ h₄ := by
    refine ⟨by rw [hcsc]; exact hck, by subst hce; exact V.glob, by subst hce; exact V.bui, ⟨_, by rw [hcenv]; exact hns, fun x u hu hkx => ?_⟩, fun x u hu hkx => ?_, fun x c hx => ?_, fun x hx => ?_, by rw [hcenv]; exact hbD _ hCnone, by rw [hcenv]; exact notIn_of_none R₂ hCnone, fun x y c hx hy => ?_⟩
    · rw [strip_lookup] at hu
      rw [Env.kindOf, hcsc, relab_lookup] at hkx
      cases q : cs.names.lookup x with
      | none => rw [q] at hkx; cases hkx
      | some kk =>
        rw [q] at hkx hu
        cases kk with
        | «local» => simp at hu
        | free => simp only [Option.map_some] at hkx; split at hkx <;> cases hkx
        | _ => cases hkx
    · rw [strip_lookup] at hu
      have hm := freeK x hkx
      split at hu
      · cases hu
      · obtain ⟨c, v, a, b, d⟩ := V₄o.cell x u hu ((hnm _ hm).2.2 rfl).2
        exact ⟨c, v, cellsOf x hm c a, b, d⟩
    · exact V₄o.cells x c (ofCells x c hx).2
    · have hm := freeK x hx
      obtain ⟨c, hc⟩ := Option.isSome_iff_exists.mp (hfree x hm)
      rw [cellsOf x hm c hc]; rfl
    · exact V.apart x y c (ofCells x c hx).2 (ofCells y c hy).2
  have po₄ : POk G P μ₂ h₄ := fun b hb => by
    obtain ⟨a, c, ob, e, hn⟩ := po₂ b hb
    exact ⟨a, c, ob, hk₄ _ _ e, hn⟩
  have st₄ : IterSt G src 0 I P μ₂ h₄ := st₂.keep (fun b hb o e => hk₄ _ _ e) tk₄ (List.prefix_refl _)
  have hPnone : ∀ b ∈ P, b ≠ D ∧ b ≠ D + 1 := fun b hb => by
    obtain ⟨_, _, ob, e, _⟩ := po₂ b hb
    exact ⟨fun q => (by rw [q, hDn] at e; cases e), fun q => (by rw [q, hCnone] at e; cases e)⟩
  have hPo : ∀ b ∈ P, ¬ Own cenv b := fun b hb w => by
    rcases ownOut b w with q | ⟨x, hx⟩
    · exact (hPnone b hb).2 q
    · obtain ⟨ob, e⟩ := V.ownLive b (.inr ⟨x, hx⟩)
      rw [hPs b hb] at e; cases e
  have hDo : ¬ Own cenv D := fun w => by
    rcases ownOut D w with q | ⟨x, hx⟩
    · exact absurd q (Nat.ne_of_lt (Nat.lt_succ_self _))
    · obtain ⟨ob, e⟩ := V₂.ownLive D (.inr ⟨x, hx⟩)
      rw [hDn] at e; cases e
  have hoD : OR G μ₂ h₄ acc₀ D := by
    have := hacc s₂.heap μ₂
    rw [hD] at this
    refine this.keep (fun ob e => hsb.extBut _ _ (Nat.ne_of_lt (Nat.lt_succ_self _)) (Heap.get?_push_of_some _ e)) (fun c vs n t => hsb.extBut _ _ (fun q => ?_) (Heap.get?_push_of_some _ t)) (List.prefix_refl _)
    have z : (s₂.heap.push oAcc).get? (D + 1) = none := by
      have := get_size_none (s₂.heap.push oAcc)
      rwa [hsz] at this
    rw [IsT, q, z] at t; cases t
  have hW : ∀ a, (a = cenv.locals ∨ a = D) → s.heap.get? a = none := fun a w => by
    rcases w with rfl | rfl
    · rw [hcenv]; exact X₂.none R R₂ hCnone
    · exact X₂.none R R₂ hDn
  have loop : codeAny G.M A (.compLoop e 0 (.ref I) (.ref D) cenv) (compPost G.M A E use PQ (.ref D) (D + 1)) { s₂ with heap := h₄, toks := s₂.toks + ([] : List (Str × Value)).length } := by
    refine compLoop_rule (p := p) (hturn cenv I D) (hq cenv I D) (hund cenv I D) (hdn cenv I D) hA (X₄.toW fun a w => notIn_of_none R (hW a w)) hPs V₄ R₄ st₄ po₄ ht (fun x hx => by rw [Env.kindOf, hcsc]; exact hlocal x hx) hPo (fun q => (hPnone D q).1 rfl) (notIn_of_none R₂ hDn) hDo hoD (hem cenv D hcsc hDo (hbD D hDn)) hl ?_
    · intro s' ρ' acc' H' μ' X' R' V' hDm ho' hq'
      refine fin (D + 1) D s' acc' H' μ' ?_ ?_ ?_ ?_ ?_ R'.len hq'
      · exact X₂.none R R₂ hCnone
      · rw [List.mem_append, List.mem_singleton]
        rintro (q | q)
        · exact V'.lout (hcenv ▸ q)
        · exact absurd q (Nat.succ_ne_self _)
      · have Y := (Ext.refl μ s).thenW X' hW
        exact ⟨Y.same, Y.pre.trans (List.prefix_append _ _), fun a ha => (List.mem_append.mp ha).elim (Y.new a) fun q => .inr (by rw [List.mem_singleton] at q; rw [q]; exact X₂.none R R₂ hDn), Y.keep⟩
      · exact R'.adopt hDm (hbD D hDn) (by have := R₂.lowA; rw [hD] at this; exact this) ho'
      · obtain ⟨m, hn, _⟩ := V'.ns
        exact ⟨m, hcenv ▸ hn⟩
  exact hstart cenv I (.ref D) _ _ loop fun E' => iter_self st₄ loop
end
end Mine

end

section
namespace Mine

-- the mini dict: a list of pairs
noncomputable abbrev Ent := List (List Int × V)
noncomputable def dput : Ent → List Int → V → Ent
  | [], k, v => [(k, v)]
  | e :: r, k, v => if e.1 = k then (e.1, v) :: r else e :: dput r k v
noncomputable def dget (es : Ent) (k : List Int) : Option V := (es.find? fun e => decide (e.1 = k)).map (·.2)
noncomputable def ddel (es : Ent) (k : List Int) : Ent := es.filter fun e => !decide (e.1 = k)
theorem dput_length (es : Ent) (k : List Int) (v : V) : (dput es k v).length ≤ es.length + 1 := by
  induction es with
  | nil => simp [dput]
  | cons e r ih => unfold dput; split <;> simp <;> (first | lia | omega)

section
variable {G : Gh} {k : Nat} {sc : Scope} {ρ : Rho} {H : MH}

theorem ER.get {μ : List Addr} {h : Heap} : ∀ {es : Ent} {xs : List (List Int × Addr × Value)} (ks : List Int), ER G μ h es xs → match dget es ks with
    | some u => ∃ p, atKey xs ks = some p ∧ VR G.hb μ h u p.2
    | none => atKey xs ks = none
  | [], _, ks, x => by rw [ER] at x; subst x; rfl
  | e :: es, _, ks, x => by
    obtain ⟨a, v, r, rfl, p, q⟩ := x
    have ih := ER.get ks q
    by_cases hk : e.1 = ks
    · simp only [dget, List.find?_cons, hk, decide_true, Option.map_some, atKey]
      exact ⟨_, rfl, p⟩
    · simp only [dget, List.find?_cons, hk, decide_false, atKey]
      exact ih
theorem ER.put {μ : List Addr} {h : Heap} {ks : List Int} {a : Addr} {u : V} {v : Value} (hv : VR G.hb μ h u v) : ∀ {es : Ent} {xs : List (List Int × Addr × Value)}, ER G μ h es xs → (xs.map (·.1)).Nodup → ER G μ h (dput es ks u) (storedH xs ks a v)
  | [], _, x, _ => by rw [ER] at x; subst x; exact ⟨a, v, [], rfl, hv, rfl⟩
  | e :: es, _, x, hn => by
    obtain ⟨b, w, r, rfl, p, q⟩ := x
    have hn' : (r.map (·.1)).Nodup := (List.nodup_cons.mp hn).2
    have ih := ER.put (ks := ks) (a := a) hv q hn'
    by_cases hk : e.1 = ks
    · have : storedH ((e.1, b, w) :: r) ks a v = (e.1, b, v) :: r := by
        unfold storedH
        rw [if_pos (by simp [atKey, hk])]
        rw [List.map_cons]
        have h1 : putAt ks v (e.1, b, w) = (e.1, b, v) := by simp [putAt, hk]
        rw [h1]
        congr 1
        exact (List.map_congr_left fun y hy => by
          have : y.1 ≠ ks := fun q => (List.nodup_cons.mp hn).1 (List.mem_map.mpr ⟨y, hy, by rw [q]; exact hk.symm⟩)
          show putAt ks v y = id y
          simp [putAt, this]).trans (List.map_id _)
      rw [this]
      unfold dput
      rw [if_pos hk]
      exact ⟨b, v, r, rfl, hv, q⟩
    · have : storedH ((e.1, b, w) :: r) ks a v = (e.1, b, w) :: storedH r ks a v := by
        unfold storedH
        have h0 : atKey ((e.1, b, w) :: r) ks = atKey r ks := by simp [atKey, hk]
        rw [h0]
        split
        · rw [List.map_cons]
          have h1 : putAt ks v (e.1, b, w) = (e.1, b, w) := by simp [putAt, hk]
          rw [h1]
        · rfl
      rw [this]
      unfold dput
      rw [if_neg hk]
      exact ⟨b, w, _, rfl, p, ih⟩

-- what a store leaves
theorem DictE.stored {h h' : Heap} {d a : Addr} {xs : List (List Int × Addr × Value)} {ep : Nat} {ks : List Int} {v : Value} (x : DictE G h d xs ep) (hka : KeyAt G h ks a) (hm : h'.DictOfH G.tk d (storedH xs ks a v)) (hs : Heap.SameBut d h h') : ∃ ep', DictE G h' d (storedH xs ks a v) ep' := by
  obtain ⟨o', es', ep', ho', hc', hd', he', _, hn'⟩ := hm
  obtain ⟨o, es, ho, hc, hd, he, hk, hn⟩ := x
  have tk : ∀ b ws n, IsT h b ws n → IsT h' b ws n := fun b ws n t => hs.extBut _ _ (fun q => by
    rw [q, IsT, ho] at t
    injection t with t; subst t
    have := hc.1; injection this with e; exact absurd e (by decide)) t
  have keep : ∀ {y b}, KeyAt G h y b → KeyAt G h' y b := fun ⟨ws, n, t, l, i⟩ => ⟨ws, n, tk _ _ _ t, l, i⟩
  refine ⟨ep', o', es', ho', hc', hd', he', fun y hy => ?_, hn'⟩
  rcases mem_storedH hy with ⟨z, hz, e1, e2⟩ | ⟨e1, e2⟩
  · rw [e1, e2]; exact keep (hk z hz)
  · rw [e1, e2]; exact keep hka

-- a place that is no mini object turns: what stays
theorem SameBut.tkeep {h h' : Heap} {D : Addr} (hs : Heap.SameBut D h h') (hn : ∀ ws n, ¬ IsT h D ws n) : TKeep h h' := fun b ws n t => hs.extBut _ _ (fun q => hn ws n (q ▸ t)) t
theorem EmitOk.step {cenv : Env} {D : Addr} {μ μ₂ : List Addr} {s s₂ : Shared} {H₂ : MH} {acc acc' : O} {ρ' : Rho} {K : Rho → O → MH → Prop} {h' : Heap} {tk : Nat} (hDb : G.hb.get? D = Option.none) (hDo : ¬ Own cenv D) (V₂ : EnvRel G cenv ρ' μ₂ s₂.heap) (X : Ext μ s μ₂ s₂) (R₂ : HRel G H₂ μ₂ s₂.heap) (ho : OR G μ₂ s₂.heap acc D) (hD : D ∉ μ) (hD₂ : D ∉ μ₂) (hO : ∀ a, Own cenv a → a ∉ μ)
    (hs : Heap.SameBut D s₂.heap h') (ho' : TKeep s₂.heap h' → OR G μ₂ h' acc' D) (k : K ρ' acc' H₂) :
    ∃ ρ'' acc'' H' μ', ExtW (fun a => a = cenv.locals ∨ a = D) μ s μ' { s₂ with heap := h', toks := tk } ∧ HRel G H' μ' h' ∧ EnvRel G cenv ρ'' μ' h' ∧ OR G μ' h' acc'' D ∧ K ρ'' acc'' H' := by
  have nt : ∀ ws n, ¬ IsT s₂.heap D ws n := fun ws n t => ho.noTuple t
  have tkp := SameBut.tkeep hs nt
  have ho₂ := ho' tkp
  have XW : ExtW (fun a => a = cenv.locals ∨ a = D) μ s μ₂ s₂ := X.toW fun a w => by
    rcases w with rfl | rfl
    · exact hO _ (.inl rfl)
    · exact hD
  have Y : ExtW (fun a => a = cenv.locals ∨ a = D) μ₂ s₂ μ₂ { s₂ with heap := h', toks := tk } := by
    refine ⟨⟨h', tk, rfl⟩, List.prefix_refl _, fun a q => .inl q, fun a o e _ w => hs.extBut _ _ (fun q => w (.inr q)) e, fun a o e w => ?_⟩
    by_cases q : a = D
    · subst q; exact ho₂.live
    · exact ⟨o, hs.extBut _ _ q e⟩
  refine ⟨ρ', acc', H₂, μ₂, XW.trans Y, R₂.chg (W := fun a => a = D) (fun b ob e w => hs.extBut _ _ w e) fun b w => ?_, V₂.chg (W := fun a => a = D) (fun a o e w => hs.extBut _ _ w e) tkp fun a w => ?_, ho₂, k⟩
  · subst w; exact ⟨hD₂, hDb, nt⟩
  · subst w; exact hDo

noncomputable def emL (G : Gh) (k : Nat) (sc : Scope) (elt : Expr) : Rho → O → MH → (Rho → O → MH → Prop) → Prop :=
  fun ρ acc H K => ∃ l, acc = .list l ∧ l.length < lim ∧ TE G k sc elt ρ H fun w H₂ => K ρ (.list (l ++ [w])) H₂
theorem emitL_ok {cenv : Env} {A : Around} {elt : Expr} {D : Addr} (hsc : cenv.scope = sc) (hA : AOk k A) (hDo : ¬ Own cenv D) (hDb : G.hb.get? D = Option.none) :
    EmitOk G A cenv D (eval elt cenv >>= fun x => call (.builtin "list.append") [.ref D, x] >>= fun _ => pure ()) (emL G k sc elt) := by
  rintro ρ acc H K ⟨l, rfl, hll, hte⟩ E s μ V R ho hD
  refine wpAny_bind (wpAny_mono (hte cenv A E s μ hsc hA V R) ?_ fun _ _ e => e)
  rintro x s₂ ⟨u, H₂, μ₂, X, R₂, hx, hK⟩
  obtain ⟨obD, eD⟩ := ho.live
  have hD₂ : D ∉ μ₂ := fun hm => by
    rcases X.new D hm with q | q
    · exact hD q
    · rw [eD] at q; cases q
  have ho₂ : OR G μ₂ s₂.heap (.list l) D := ho.keep (fun ob e => X.keep _ _ e hD) (X.tkeep R) X.pre
  have ho₂' := ho₂
  obtain ⟨vs, n, hl, hlen, hvs⟩ := ho₂
  have hsz : vs.size = l.length := by have := hvs.length; simpa using this
  refine wpAny_bind (wpAny_list_append_plain (hsz := by rw [hsz]; exact Nat.le_trans hlen lim_le) ⟨n, hl⟩ fun h' hpl hs => wpAny_pure ?_)
  obtain ⟨n', hpl⟩ := hpl
  refine EmitOk.step (tk := s₂.toks) (acc' := .list (l ++ [u])) hDb hDo (V.ext X R) X R₂ ho₂' hD hD₂ (V.ownOut R) hs (fun tkp => ⟨vs.push x, n', hpl, by simp; (first | lia | omega), ?_⟩) hK
  rw [Array.toList_push]
  exact VRs.append (VRs.mono tkp (List.prefix_refl _) hvs) (VRs.one (VR.mono tkp (List.prefix_refl _) hx))

noncomputable def emD (G : Gh) (k : Nat) (sc : Scope) (kx vx : Expr) : Rho → O → MH → (Rho → O → MH → Prop) → Prop :=
  fun ρ acc H K => ∃ l ep, acc = .dict l ep ∧ l.length < lim ∧ TE G k sc kx ρ H fun ku H₁ => TE G k sc vx ρ H₁ fun vu H₂ => ∃ ks, ku = .tup (ks.map .int) ∧ ∀ ep', K ρ (.dict (dput l ks vu) ep') H₂
theorem emitD_ok {cenv : Env} {A : Around} {kx vx : Expr} {D : Addr} {p : Pos} (hsc : cenv.scope = sc) (hA : AOk k A) (hDo : ¬ Own cenv D) (hDb : G.hb.get? D = Option.none) :
    EmitOk G A cenv D (eval kx cenv >>= fun kv => holding [kv] (eval vx cenv) >>= fun vv => standAt p >>= fun _ => holding [kv, vv] (dictSet D kv vv)) (emD G k sc kx vx) := by
  rintro ρ acc H K ⟨l, ep, rfl, hll, hte⟩ E s μ V R ho hD
  refine wpAny_bind (wpAny_mono (hte cenv A E s μ hsc hA V R) ?_ fun _ _ e => e)
  rintro kv s₁ ⟨ku, H₁, μ₁, X₁, R₁, hkx, q₁⟩
  have V₁ := V.ext X₁ R
  refine wpAny_bind (wpAny_holding (wpAny_mono (q₁ cenv A E s₁ μ₁ hsc hA V₁ R₁) ?_ fun _ _ e => e))
  rintro vv s₂ ⟨vu, H₂, μ₂, X₂, R₂, hx, ks, rfl, hK⟩
  refine wpAny_bind (wpAny_standAt (wpAny_holding ?_))
  have X := X₁.trans X₂
  obtain ⟨obD, eD⟩ := ho.live
  have hD₂ : D ∉ μ₂ := fun hm => by
    rcases X.new D hm with q | q
    · exact hD q
    · rw [eD] at q; cases q
  have ho₂ : OR G μ₂ s₂.heap (.dict l ep) D := ho.keep (fun ob e => X.keep _ _ e hD) (X.tkeep R) X.pre
  have ho₂' := ho₂
  obtain ⟨xs, hd, hlen, her⟩ := ho₂
  obtain ⟨a, rfl, hka⟩ := (X₂.vr R₁ hkx).key
  refine wpAny_dictSet_heap (knd := G.tk) (hsz := by rw [her.length]; exact Nat.le_trans hlen lim_le) hA.units hka.key hd.dict fun h' hm hs => ?_
  obtain ⟨ep', hd'⟩ := hd.stored hka hm hs
  refine EmitOk.step (acc' := .dict (dput l ks vu) ep') hDb hDo (V.ext X R) X R₂ ho₂' hD hD₂ (V.ownOut R) hs (fun tkp => ⟨_, hd', Nat.le_trans (dput_length _ _ _) (by (first | lia | omega)), ?_⟩) (hK ep')
  obtain ⟨_, _, _, _, _, _, _, hn⟩ := hd
  exact ER.put (VR.mono tkp (List.prefix_refl _) hx) (her.mono tkp (List.prefix_refl _)) hn
end
end Mine

end

section
namespace Mine
section
variable {G : Gh} {k : Nat} {sc : Scope} {ρ : Rho} {H : MH}

-- the comprehension's namespace is let go
theorem letGo_ok {env : Env} {μ' : List Addr} {s' : Shared} {H' : MH} {C : Addr} {h' : Heap} (V : EnvRel G env ρ μ' s'.heap) (hCb : G.hb.get? C = Option.none) (hCo : ¬ Own env C) (hCm : C ∉ μ') (hns : ∃ m, s'.heap.Ns C m) (R' : HRel G H' μ' s'.heap) (hs : Heap.SameBut C s'.heap h') :
    HRel G H' μ' h' ∧ EnvRel G env ρ μ' h' ∧ TKeep s'.heap h' := by
  have nt : ∀ ws n, ¬ IsT s'.heap C ws n := fun ws n t => by
    obtain ⟨m, o, _, _, ho, hd, _⟩ := hns
    rw [IsT, ho] at t; cases t; cases hd
  have tk := SameBut.tkeep hs nt
  exact ⟨R'.chg (W := fun a => a = C) (fun b ob e w => hs.extBut _ _ w e) fun b w => w ▸ ⟨hCm, hCb, nt⟩, V.chg (W := fun a => a = C) (fun a o e w => hs.extBut _ _ w e) tk fun a w => w ▸ hCo, tk⟩

theorem mem_last {μ' : List Addr} {D : Addr} {n : Nat} (h : μ'.length = n) : (μ' ++ [D])[n]? = some D := by subst h; simp

-- what a comprehension without use hands on
theorem comp_ret {env : Env} {A : Around} {E : Value → Shared → Prop} {s s' : Shared} {μ μ' : List Addr} {H' : MH} {acc : O} {C D : Addr} {Q : V → MH → Prop} (V : EnvRel G env ρ μ s.heap) (R : HRel G H μ s.heap) (hC : s.heap.get? C = Option.none) (hCm : C ∉ μ' ++ [D]) (X : Ext μ s (μ' ++ [D]) s') (R' : HRel G (H' ++ [acc]) (μ' ++ [D]) s'.heap) (hns : ∃ m, s'.heap.Ns C m)
    (hl : μ'.length = H'.length) (q : Q (.loc H'.length) (H' ++ [acc])) : compPost G.M A E Option.none (Ret G μ s Q) (.ref D) C (.ok .next) s' := by
  obtain ⟨m, hn⟩ := hns
  refine ⟨m, hn, fun h' hs => ?_⟩
  have hCo : ¬ Own env C := fun w => by obtain ⟨ob, e⟩ := V.ownLive C w; rw [hC] at e; cases e
  obtain ⟨R₂, _, tk⟩ := letGo_ok (V.ext X R) (base_none R hC) hCo hCm ⟨m, hn⟩ R' hs
  refine ⟨.loc H'.length, _, μ' ++ [D], ?_, R₂, ?_, q⟩
  · obtain ⟨h, t, rfl⟩ := X.same
    exact ⟨⟨h', t, rfl⟩, X.pre, X.new, fun a o e n => hs.extBut _ _ (fun w => by rw [w, hC] at e; cases e) (X.keep a o e n)⟩
  · rw [VR]; exact ⟨D, rfl, mem_last hl⟩
-- what a used one leaves
theorem comp_use {env : Env} {A : Around} {E : Value → Shared → Prop} {s s' : Shared} {μ μ' : List Addr} {H' : MH} {acc : O} {C D : Addr} {y : Str} {py : Pos} {Q : Fl → Rho → MH → Prop} (hk : env.kindOf y = some .local ∨ env.kindOf y = some .cell) (V : EnvRel G env ρ μ s.heap) (R : HRel G H μ s.heap) (hC : s.heap.get? C = Option.none) (hCm : C ∉ μ' ++ [D]) (X : Ext μ s (μ' ++ [D]) s') (R' : HRel G (H' ++ [acc]) (μ' ++ [D]) s'.heap) (hns : ∃ m, s'.heap.Ns C m)
    (hl : μ'.length = H'.length) (q : Q .next (upd y (.loc H'.length) ρ) (H' ++ [acc])) : compPost G.M A E (some (assign (.Name y py) env)) (fun _ s' => RetS G env μ s Q .next s') (.ref D) C (.ok .next) s' := by
  obtain ⟨m, hn⟩ := hns
  have hCo : ¬ Own env C := fun w => by obtain ⟨ob, e⟩ := V.ownLive C w; rw [hC] at e; cases e
  have V' := V.ext X R
  show wpAny _ _ (assign (.Name y py) env (.ref D)) _ _ _
  refine PySem.wpAny_assign_Name (wpAny_store V' R' (u := .loc H'.length) (by rw [VR]; exact ⟨D, rfl, mem_last hl⟩) (StOk.own hk) fun s₂ X₂ R₂ V₂ => ?_)
  have hns₂ : s₂.heap.Ns C m := hn.at' fun o e => X₂.keep _ _ e hCm hCo
  refine ⟨m, hns₂, fun h' hs => ?_⟩
  obtain ⟨R₃, V₃, tk⟩ := letGo_ok V₂ (base_none R hC) hCo hCm ⟨m, hns₂⟩ R₂ hs
  have XX := (X.toS (V.ownOut R)).trans X₂
  refine ⟨.next, _, _, _, ?_, R₃, V₃, rfl, q⟩
  obtain ⟨h, t, rfl⟩ := XX.same
  exact ⟨⟨h', t, rfl⟩, XX.pre, XX.new, fun a o e n w => hs.extBut _ _ (fun w => by rw [w, hC] at e; cases e) (XX.keep a o e n w), fun a o e w => by
    obtain ⟨o', e'⟩ := XX.live a o e w
    exact ⟨o', hs.extBut _ _ (fun w' => by rw [w', hC] at e; cases e) e'⟩⟩

theorem list_new {A : Around} {E : Value → Shared → Prop} (s : Shared) (P : Value → Shared → Prop) (h : P (.ref s.heap.objs.size) { s with heap := s.heap.push { cls := .type "list", data := .seq #[] } }) : wpAny G.M A (newList []) P E s := wpAny_newList h
theorem dict_new {A : Around} {E : Value → Shared → Prop} (s : Shared) (P : Value → Shared → Prop) (h : P (.ref s.heap.objs.size) { s with heap := s.heap.push { cls := .type "dict", data := .dict #[] } }) : wpAny G.M A newDict P E s := wpAny_newObj_type h
theorem list_acc (h : Heap) (ν : List Addr) : OR G ν (h.push { cls := .type "list", data := .seq #[] }) (.list []) h.objs.size := ⟨#[], 0, Heap.get?_push_size _ rfl, by simp [lim], by simp [VRs]⟩
theorem dict_acc (h : Heap) (ν : List Addr) : OR G ν (h.push { cls := .type "dict", data := .dict #[] }) (.dict [] 0) h.objs.size :=
  ⟨[], ⟨_, _, Heap.get?_push_size _ rfl, ⟨rfl, rfl, rfl⟩, rfl, rfl, fun x hx => (nomatch hx), List.nodup_nil⟩, by simp [lim], rfl⟩

noncomputable def CompL (G : Gh) (k : Nat) (sc cs : Scope) (elt tg iter : Expr) (ρ : Rho) (H : MH) (Q : List V → MH → Prop) : Prop :=
  TI G k sc iter ρ H fun src H' => src.tg tg ∧ LoopC (emL G k (relab cs sc) elt) tg src.ok (fun _ acc H₂ => ∃ l, acc = .list l ∧ Q l H₂) src.items (strip cs ρ) (.list []) H'
noncomputable def CompD (G : Gh) (k : Nat) (sc cs : Scope) (kx vx tg iter : Expr) (ρ : Rho) (H : MH) (Q : Ent → Nat → MH → Prop) : Prop :=
  TI G k sc iter ρ H fun src H' => src.tg tg ∧ LoopC (emD G k (relab cs sc) kx vx) tg src.ok (fun _ acc H₂ => ∃ l ep, acc = .dict l ep ∧ Q l ep H₂) src.items (strip cs ρ) (.dict [] 0) H'

theorem compL_core {elt tg iter : Expr} {cs : Scope} {pos p : Pos} {use : Option (Value → Sem Unit)} {env : Env} {A : Around} {E : Value → Shared → Prop} {s : Shared} {μ : List Addr} {Q : List V → MH → Prop} {PQ : Value → Shared → Prop}
    (hsc : env.scope = sc) (hA : AOk k A) (V : EnvRel G env ρ μ s.heap) (R : HRel G H μ s.heap) (hok : compOk cs sc = true) (htg : ∀ x ∈ tgNames tg, cs.names.lookup x = some .local) (hs : ∀ x, foldedSetIterable iter env x = pure x)
    (h : CompL G k sc cs elt tg iter ρ H Q)
    (fin : ∀ (C D : Addr) (s' : Shared) (acc : O) (H' : MH) (μ' : List Addr), s.heap.get? C = Option.none → C ∉ μ' ++ [D] → Ext μ s (μ' ++ [D]) s' → HRel G (H' ++ [acc]) (μ' ++ [D]) s'.heap → (∃ m, s'.heap.Ns C m) → μ'.length = H'.length → (∃ l, acc = .list l ∧ Q l H') → compPost G.M A E use PQ (.ref D) C (.ok .next) s') :
    wpAny G.M A (comprehension (.ListComp elt [⟨tg, iter, [], 0⟩] cs pos) cs env p (newList []) false (eval iter env) use) PQ E s :=
  comp_core (p := iter.pos) (emitT := fun cenv a => eval elt cenv >>= fun x => call (.builtin "list.append") [a, x] >>= fun _ => pure ()) hsc hA V R hok rfl hs list_new rfl list_acc
    (fun cenv I accv RR s h0 h1 => codeAny_compStart_list h0 (h1 _)) (fun cenv I D => compTurn_list1 elt tg iter cs pos (.ref I) (.ref D) cenv) (fun _ _ _ => rfl) (fun _ _ _ => rfl) (fun _ _ _ => rfl) htg (fun cenv D hcs hDo hDb => emitL_ok hcs hA hDo hDb) h fin

theorem TE_ListComp {elt tg iter : Expr} {cs : Scope} {pos : Pos} {Q : V → MH → Prop} (hok : compOk cs sc = true) (htg : ∀ x ∈ tgNames tg, cs.names.lookup x = some .local)
    (h : CompL G k sc cs elt tg iter ρ H fun l H₂ => Q (.loc H₂.length) (H₂ ++ [.list l])) (hs : ∀ env x, foldedSetIterable iter env x = pure x := by intro _ _; rfl) : TE G k sc (.ListComp elt [⟨tg, iter, [], 0⟩] cs pos) ρ H Q := by
  intro env A E s μ hsc hA V R
  rw [eval_ListComp]
  exact compL_core hsc hA V R hok htg (hs env) h fun C D s' acc H' μ' hC hCm X R' hns hl ⟨l, e, q⟩ => comp_ret V R hC hCm X R' hns hl (by subst e; exact q)

theorem TX_AssignLC {y : Str} {py spos : Pos} {elt tg iter : Expr} {cs : Scope} {pos : Pos} {Q : Fl → Rho → MH → Prop} (hy : sc.names.lookup y = some .local) (hok : compOk cs sc = true) (htg : ∀ x ∈ tgNames tg, cs.names.lookup x = some .local)
    (h : CompL G k sc cs elt tg iter ρ H fun l H₂ => Q .next (upd y (.loc H₂.length) ρ) (H₂ ++ [.list l])) (hs : ∀ env x, foldedSetIterable iter env x = pure x := by intro _ _; rfl)
    (hsw : ∀ env, env.scope = sc → swapsWith (.ListComp elt [⟨tg, iter, [], 0⟩] cs pos) (some (.Name y py)) spos.line env = pure true := by (intro env q; cases env; cases q; rfl)) :
    TX G k sc (.Assign [.Name y py] (.ListComp elt [⟨tg, iter, [], 0⟩] cs pos) spos) ρ H Q := by
  intro env A E s μ hsc hA V R
  rw [exec_Assign_Name_used _ _ _ _ (hsw env hsc)]
  refine wpAny_bind (wpAny_standAt (wpAny_bind ?_))
  show wpAny _ A (do let _ ← comprehension (.ListComp elt [⟨tg, iter, [], 0⟩] cs pos) cs env _ (newList []) false (eval iter env) (some (assign (.Name y py) env))) _ _ s
  refine wpAny_bind (wpAny_mono (compL_core (use := some (assign (.Name y py) env)) (PQ := fun _ s' => RetS G env μ s Q .next s') hsc hA V R hok htg (hs env) h fun C D s' acc H' μ' hC hCm X R' hns hl ⟨l, e, q⟩ =>
    comp_use (.inl (by rw [Env.kindOf, hsc]; exact hy)) V R hC hCm X R' hns hl (by subst e; exact q)) (fun _ s' hq => wpAny_pure (wpAny_pure hq)) fun _ _ e => e)

theorem compTurn_dict1 (kx vx target iter : Expr) (scope : Scope) (pos : Pos) (it : Value) (D : Addr) (env : Env) :
    compTurn (.DictComp kx vx [⟨target, iter, [], 0⟩] scope pos) 0 it (.ref D) env = (standAt iter.pos >>= fun _ => pyNext it >>= fun r => match r with
      | none => pure (.done .next)
      | some v => letOwnedTupleGo target it v >>= fun _ => assign target env v >>= fun _ =>
        (eval kx env >>= fun kv => holding [kv] (eval vx env) >>= fun vv => standAt { kx.pos with endLine := vx.pos.endLine, endCol := vx.pos.endCol } >>= fun _ => holding [kv, vv] (dictSet D kv vv)) >>= fun _ =>
          again (.compLoop (.DictComp kx vx [⟨target, iter, [], 0⟩] scope pos) 0 it (.ref D) env)) := by rfl

theorem TE_DictComp {kx vx tg iter : Expr} {cs : Scope} {pos : Pos} {Q : V → MH → Prop} (hok : compOk cs sc = true) (htg : ∀ x ∈ tgNames tg, cs.names.lookup x = some .local)
    (h : CompD G k sc cs kx vx tg iter ρ H fun l ep H₂ => Q (.loc H₂.length) (H₂ ++ [.dict l ep])) (hs : ∀ env x, foldedSetIterable iter env x = pure x := by intro _ _; rfl) : TE G k sc (.DictComp kx vx [⟨tg, iter, [], 0⟩] cs pos) ρ H Q := by
  intro env A E s μ hsc hA V R
  rw [arm_eval_DictComp]
  exact comp_core (use := Option.none) (p := iter.pos) (emitT := fun cenv a => eval kx cenv >>= fun kv => holding [kv] (eval vx cenv) >>= fun vv => standAt { kx.pos with endLine := vx.pos.endLine, endCol := vx.pos.endCol } >>= fun _ => holding [kv, vv] (match a with | .ref d => dictSet d kv vv | _ => pure ())) hsc hA V R hok rfl (hs env) dict_new rfl dict_acc
    (fun cenv I accv RR s h0 h1 => codeAny_compStart_dict h0 (h1 _)) (fun cenv I D => compTurn_dict1 kx vx tg iter cs pos (.ref I) D cenv) (fun _ _ _ => rfl) (fun _ _ _ => rfl) (fun _ _ _ => rfl) htg (fun cenv D hcs hDo hDb => emitD_ok hcs hA hDo hDb) h
    fun C D s' acc H' μ' hC hCm X R' hns hl ⟨l, ep, e, q⟩ => comp_ret V R hC hCm X R' hns hl (by subst e; exact q)

-- two generators
theorem compTurn_list2_raw (elt tg it₁ tg' it₂ : Expr) (scope : Scope) (pos : Pos) (it acc : Value) (env : Env) :
    compTurn (.ListComp elt [⟨tg, it₁, [], 0⟩, ⟨tg', it₂, [], 0⟩] scope pos) 0 it acc env = (standAt it₁.pos >>= fun _ => pyNext it >>= fun r => match r with
      | none => pure (.done .next)
      | some v => letOwnedTupleGo tg it v >>= fun _ => assign tg env v >>= fun _ =>
        eval it₂ env >>= fun x => standAt it₂.pos >>= fun _ => foldedSetIterable it₂ env x >>= fun x => holding [x] (pyIter x) >>= fun i => runOwn (.compStart (.ListComp elt [⟨tg, it₁, [], 0⟩, ⟨tg', it₂, [], 0⟩] scope pos) 1 i acc env) env >>= fun _ =>
          again (.compLoop (.ListComp elt [⟨tg, it₁, [], 0⟩, ⟨tg', it₂, [], 0⟩] scope pos) 0 it acc env)) := by rfl
theorem compTurn_list2 (elt tg it₁ tg' it₂ : Expr) (scope : Scope) (pos : Pos) (it acc : Value) (env : Env) :
    compTurn (.ListComp elt [⟨tg, it₁, [], 0⟩, ⟨tg', it₂, [], 0⟩] scope pos) 0 it acc env = (standAt it₁.pos >>= fun _ => pyNext it >>= fun r => match r with
      | none => pure (.done .next)
      | some v => letOwnedTupleGo tg it v >>= fun _ => assign tg env v >>= fun _ =>
        (eval it₂ env >>= fun x => standAt it₂.pos >>= fun _ => foldedSetIterable it₂ env x >>= fun x => holding [x] (pyIter x) >>= fun i => runOwn (.compStart (.ListComp elt [⟨tg, it₁, [], 0⟩, ⟨tg', it₂, [], 0⟩] scope pos) 1 i acc env) env >>= fun _ => pure ()) >>= fun _ =>
          again (.compLoop (.ListComp elt [⟨tg, it₁, [], 0⟩, ⟨tg', it₂, [], 0⟩] scope pos) 0 it acc env)) := by
  rw [compTurn_list2_raw]
  simp only [bind_assoc, pure_bind]
theorem compTurn_list2b (elt tg it₁ tg' it₂ : Expr) (scope : Scope) (pos : Pos) (it acc : Value) (env : Env) :
    compTurn (.ListComp elt [⟨tg, it₁, [], 0⟩, ⟨tg', it₂, [], 0⟩] scope pos) 1 it acc env = (standAt it₂.pos >>= fun _ => pyNext it >>= fun r => match r with
      | none => pure (.done .next)
      | some v => letOwnedTupleGo tg' it v >>= fun _ => assign tg' env v >>= fun _ =>
        (eval elt env >>= fun x => call (.builtin "list.append") [acc, x] >>= fun _ => pure ()) >>= fun _ =>
          again (.compLoop (.ListComp elt [⟨tg, it₁, [], 0⟩, ⟨tg', it₂, [], 0⟩] scope pos) 1 it acc env)) := by rfl
theorem codeAny_compStart_list2b {A : Around} {R : Result → Shared → Prop} {s : Shared} {elt tg it₁ tg' it₂ : Expr} {scope : Scope} {pos : Pos} {it acc : Value} {env : Env}
    (h0 : codeAny G.M A (.compLoop (.ListComp elt [⟨tg, it₁, [], 0⟩, ⟨tg', it₂, [], 0⟩] scope pos) 1 it acc env) R s)
    (h : wpAny G.M A (pyIter it) (fun it' s' => codeAny G.M A (.compLoop (.ListComp elt [⟨tg, it₁, [], 0⟩, ⟨tg', it₂, [], 0⟩] scope pos) 1 it' acc env) R s')
      (notedBy G.M A env fun x s' => R (.error x) s') s) :
    codeAny G.M A (.compStart (.ListComp elt [⟨tg, it₁, [], 0⟩, ⟨tg', it₂, [], 0⟩] scope pos) 1 it acc env) R s := by
  refine codeAny_of_tree ?_
  show wpAny _ _ ((compStart (.ListComp elt [⟨tg, it₁, [], 0⟩, ⟨tg', it₂, [], 0⟩] scope pos) 1 it acc env).onRaise (fun x => do noteFrame x env; standAt theWindowsPlace)) _ _ s
  refine wpAny_notedAt ?_
  unfold compStart
  show wpAny _ _ (ask >>= _) _ _ s
  refine wpAny_bind (wpAny_askSetting (wpAny_ite ?_))
  split
  · first
      | exact wpAny_bind (wpAny_pure (wpAny_pure (And.intro rfl h0)))
      | exact wpAny_pure (And.intro rfl h0)
  · first
      | exact wpAny_bind (wpAny_rule (wpAny_bind (wpAny_standAt (wpAny_bind (wpAny_mono h (fun it' s' h' => wpAny_pure (And.intro rfl h')) fun _ _ x => x)))))
      | (refine wpAny_bind (wpAny_rule ?_); show wpAny _ _ (standAt it₂.pos >>= _) _ _ s; exact wpAny_bind (wpAny_standAt (wpAny_bind (wpAny_mono h (fun it' s' h' => wpAny_pure (And.intro rfl h')) fun _ _ x => x))))

noncomputable def emN (G : Gh) (k : Nat) (sc : Scope) (elt tg' it₂ : Expr) : Rho → O → MH → (Rho → O → MH → Prop) → Prop :=
  fun ρ acc H K => TI G k sc it₂ ρ H fun src H' => src.tg tg' ∧ LoopC (emL G k sc elt) tg' src.ok K src.items ρ acc H'
theorem emitN_ok {cenv : Env} {A : Around} {elt tg it₁ tg' it₂ : Expr} {scope : Scope} {pos : Pos} {D : Addr} (hsc : cenv.scope = sc) (hA : AOk k A) (hDo : ¬ Own cenv D) (hDb : G.hb.get? D = Option.none) (htg : ∀ x ∈ tgNames tg', sc.names.lookup x = some .local) (hs : ∀ x, foldedSetIterable it₂ cenv x = pure x) :
    EmitOk G A cenv D (eval it₂ cenv >>= fun x => standAt it₂.pos >>= fun _ => foldedSetIterable it₂ cenv x >>= fun x => holding [x] (pyIter x) >>= fun i => runOwn (.compStart (.ListComp elt [⟨tg, it₁, [], 0⟩, ⟨tg', it₂, [], 0⟩] scope pos) 1 i (.ref D) cenv) cenv >>= fun _ => pure ()) (emN G k sc elt tg' it₂) := by
  intro ρ acc H K h E s μ V R ho hD
  obtain ⟨obD, eD⟩ := ho.live
  refine wpAny_bind (wpAny_mono (h cenv A E s μ hsc hA V R) (fun x s₁ h₁ => ?_) fun _ _ e => e)
  refine wpAny_bind (wpAny_standAt (wpAny_bind (wpAny_of_eq (hs x) (wpAny_bind (wpAny_holding (wpAny_mono h₁ ?_ fun _ _ e => e))))))
  rintro it s₂ ⟨src, I, P, H₂, μ₂, rfl, X, R₂, st, po, hPs, ht, hl⟩
  have V₂ := V.ext X R
  have hD₂ : D ∉ μ₂ := fun hm => by
    rcases X.new D hm with q | q
    · exact hD q
    · rw [eD] at q; cases q
  have ho₂ : OR G μ₂ s₂.heap acc D := ho.keep (fun ob e => X.keep _ _ e hD) (X.tkeep R) X.pre
  have hPo : ∀ a ∈ P, ¬ Own cenv a := fun a ha w => by
    obtain ⟨ob, e⟩ := V.ownLive a w
    rw [hPs a ha] at e; cases e
  have hPD : D ∉ P := fun q => by rw [hPs D q] at eD; cases eD
  have loop : codeAny G.M A (.compLoop (.ListComp elt [⟨tg, it₁, [], 0⟩, ⟨tg', it₂, [], 0⟩] scope pos) 1 (.ref I) (.ref D) cenv)
      (fun r s' => match r with | .ok _ => ∃ ρ' acc' H' μ', ExtW (fun a => a = cenv.locals ∨ a = D) μ s μ' s' ∧ HRel G H' μ' s'.heap ∧ EnvRel G cenv ρ' μ' s'.heap ∧ OR G μ' s'.heap acc' D ∧ K ρ' acc' H' | .error e => cameBackBy G.M A cenv E e s') s₂ :=
    compLoop_rule (p := it₂.pos) (compTurn_list2b elt tg it₁ tg' it₂ scope pos (.ref I) (.ref D) cenv) rfl rfl rfl hA (X.toW fun a w => by
      rcases w with rfl | rfl
      · exact V.lout
      · exact hD) hPs V₂ R₂ st po ht (fun x hx => by rw [Env.kindOf, hsc]; exact htg x hx) hPo hPD hD₂ hDo ho₂ (emitL_ok hsc hA hDo hDb) hl fun s' ρ' acc' H' μ' X' R' V' _ ho' q => ⟨ρ', acc', H', μ', X', R', V', ho', q⟩
  have hAm : A.mark Option.none = A := by cases A; cases hA.1; rfl
  refine wpAny_bind (wpAny_mono (wpAny_runOwn (Q := fun _ s' => ∃ ρ' acc' H' μ', ExtW (fun a => a = cenv.locals ∨ a = D) μ s μ' s' ∧ HRel G H' μ' s'.heap ∧ EnvRel G cenv ρ' μ' s'.heap ∧ OR G μ' s'.heap acc' D ∧ K ρ' acc' H') (by rw [hAm]; exact codeAny_compStart_list2b loop (iter_self st loop))) (fun _ s' q => wpAny_pure q) fun _ _ e => e)

noncomputable def CompN (G : Gh) (k : Nat) (sc cs : Scope) (elt tg iter tg' it₂ : Expr) (ρ : Rho) (H : MH) (Q : List V → MH → Prop) : Prop :=
  TI G k sc iter ρ H fun src H' => src.tg tg ∧ LoopC (emN G k (relab cs sc) elt tg' it₂) tg src.ok (fun _ acc H₂ => ∃ l, acc = .list l ∧ Q l H₂) src.items (strip cs ρ) (.list []) H'
theorem TE_ListComp2 {elt tg iter tg' it₂ : Expr} {cs : Scope} {pos : Pos} {Q : V → MH → Prop} (hok : compOk cs sc = true) (htg : ∀ x ∈ tgNames tg, cs.names.lookup x = some .local) (htg' : ∀ x ∈ tgNames tg', cs.names.lookup x = some .local)
    (h : CompN G k sc cs elt tg iter tg' it₂ ρ H fun l H₂ => Q (.loc H₂.length) (H₂ ++ [.list l])) (hs : ∀ env x, foldedSetIterable iter env x = pure x := by intro _ _; rfl) (hs' : ∀ env x, foldedSetIterable it₂ env x = pure x := by intro _ _; rfl) :
    TE G k sc (.ListComp elt [⟨tg, iter, [], 0⟩, ⟨tg', it₂, [], 0⟩] cs pos) ρ H Q := by
  intro env A E s μ hsc hA V R
  rw [eval_ListComp]
  exact comp_core (use := Option.none) (p := iter.pos) (emitT := fun cenv a => eval it₂ cenv >>= fun x => standAt it₂.pos >>= fun _ => foldedSetIterable it₂ cenv x >>= fun x => holding [x] (pyIter x) >>= fun i => runOwn (.compStart (.ListComp elt [⟨tg, iter, [], 0⟩, ⟨tg', it₂, [], 0⟩] cs pos) 1 i a cenv) cenv >>= fun _ => pure ()) hsc hA V R hok rfl (hs env) list_new rfl list_acc
    (fun cenv I accv RR s h0 h1 => codeAny_compStart_list h0 (h1 _)) (fun cenv I D => compTurn_list2 elt tg iter tg' it₂ cs pos (.ref I) (.ref D) cenv) (fun _ _ _ => rfl) (fun _ _ _ => rfl) (fun _ _ _ => rfl) htg
    (fun cenv D hcs hDo hDb => emitN_ok hcs hA hDo hDb (fun x hx => by rw [relab_lookup, htg' x hx]; rfl) (hs' cenv)) h
    fun C D s' acc H' μ' hC hCm X R' hns hl ⟨l, e, q⟩ => comp_ret V R hC hCm X R' hns hl (by subst e; exact q)
end
end Mine

end

section
namespace Mine
section
variable {G : Gh} {k : Nat} {sc : Scope} {ρ : Rho} {H : MH} {Q : V → MH → Prop} {a b : Int}

theorem PB_add (h : Q (.int (a + b)) H) : PBin G k (binaryOp .Add) (.int a) (.int b) H Q := by
  intro A E s μ v1 v2 hA R x y; rw [VR] at x y; obtain ⟨t, rfl⟩ := x; obtain ⟨u, rfl⟩ := y; exact PySem.P.add_int (Ret.tok _ R vInt h)
theorem PB_sub (h : Q (.int (a - b)) H) : PBin G k (binaryOp .Sub) (.int a) (.int b) H Q := by
  intro A E s μ v1 v2 hA R x y; rw [VR] at x y; obtain ⟨t, rfl⟩ := x; obtain ⟨u, rfl⟩ := y; exact PySem.P.sub_int (Ret.tok _ R vInt h)
theorem PB_iadd (h : Q (.int (a + b)) H) : PBin G k (inplaceOp .Add) (.int a) (.int b) H Q := by
  intro A E s μ v1 v2 hA R x y; rw [VR] at x y; obtain ⟨t, rfl⟩ := x; obtain ⟨u, rfl⟩ := y; exact PySem.P.iadd_int (Ret.tok _ R vInt h)
theorem PB_isub (h : Q (.int (a - b)) H) : PBin G k (inplaceOp .Sub) (.int a) (.int b) H Q := by
  intro A E s μ v1 v2 hA R x y; rw [VR] at x y; obtain ⟨t, rfl⟩ := x; obtain ⟨u, rfl⟩ := y; exact PySem.P.isub_int (Ret.tok _ R vInt h)

-- a number of at most n bits
noncomputable def Bi (n : Nat) (a : Int) : Prop := a.natAbs ≤ 2 ^ n
theorem Bi.mono {n m : Nat} {a : Int} (h : Bi n a) (hm : n ≤ m) : Bi m a := Nat.le_trans h (Nat.pow_le_pow_right (by decide) hm)
theorem Bi.bits {n : Nat} {a : Int} (h : Bi n a) : Builtin.Int.intBits a ≤ n + 1 := by
  unfold Builtin.Int.intBits
  split
  · (first | lia | omega)
  · rename_i hz
    have h0 : a.natAbs ≠ 0 := by
      intro q; apply hz; simp; (first | lia | omega)
    have : a.natAbs.log2 < n + 1 := (Nat.log2_lt h0).mpr (Nat.lt_of_le_of_lt h (Nat.pow_lt_pow_right (by decide) (Nat.lt_succ_self n)))
    (first | lia | omega)
theorem Bi.log2 {n : Nat} {a : Int} (h : Bi n a) : a.natAbs.log2 ≤ n := by
  by_cases h0 : a.natAbs = 0
  · rw [h0]; have : Nat.log2 0 = 0 := by decide
    (first | lia | omega)
  · have : a.natAbs.log2 < n + 1 := (Nat.log2_lt h0).mpr (Nat.lt_of_le_of_lt h (Nat.pow_lt_pow_right (by decide) (Nat.lt_succ_self n)))
    (first | lia | omega)
theorem PB_mul {n m : Nat} (ha : Bi n a) (hb : Bi m b) (hn : n ≤ 1000000) (hm : m ≤ 1000000) (h : Q (.int (a * b)) H) : PBin G k (binaryOp .Mult) (.int a) (.int b) H Q := by
  intro A E s μ v1 v2 hA R x y; rw [VR] at x y; obtain ⟨t, rfl⟩ := x; obtain ⟨u, rfl⟩ := y
  exact PySem.P.mul_int (Ret.tok _ R vInt h) (IntMulOk.of_bits (by have := ha.bits; (first | lia | omega)) (by have := hb.bits; (first | lia | omega)))
theorem PB_fdiv {m : Nat} (hb0 : b ≠ 0) (hb : Bi m b) (hm : m < 9000) (h : Q (.int (a.fdiv b)) H) : PBin G k (binaryOp .FloorDiv) (.int a) (.int b) H Q := by
  intro A E s μ v1 v2 hA R x y; rw [VR] at x y; obtain ⟨t, rfl⟩ := x; obtain ⟨u, rfl⟩ := y
  exact PyProof.Rows.floordiv_int hb0 (Ret.tok _ R vInt h) (.inl (PyProof.noPylong_of_log2 (by have := hb.log2; (first | lia | omega))))
theorem PB_mod (hb0 : b ≠ 0) (h : Q (.int (a.fmod b)) H) : PBin G k (binaryOp .Mod) (.int a) (.int b) H Q := by
  intro A E s μ v1 v2 hA R x y; rw [VR] at x y; obtain ⟨t, rfl⟩ := x; obtain ⟨u, rfl⟩ := y
  exact PyProof.Rows.mod_int' hb0 (Ret.tok _ R vInt h)
theorem PB_pow (hn : 0 ≤ b) (hsz : (Builtin.Int.intBits a : Int) * b ≤ 2 ^ 27) (h : Q (.int (a ^ b.toNat)) H) : PBin G k (binaryOp .Pow) (.int a) (.int b) H Q := by
  intro A E s μ v1 v2 hA R x y; rw [VR] at x y; obtain ⟨t, rfl⟩ := x; obtain ⟨u, rfl⟩ := y
  exact PyProof.Rows.pow_int hn hsz (Ret.tok _ R vInt h)
theorem PU_neg (h : Q (.int (-a)) H) : PUn G k (unaryOp .USub) (.int a) H Q := by
  intro A E s μ v1 hA R x; rw [VR] at x; obtain ⟨t, rfl⟩ := x
  exact PySem.P.neg_int (Ret.tok _ R vInt h)
theorem PB_lt (h : Q (.bool (decide (a < b))) H) : PBin G k (compareOp .Lt) (.int a) (.int b) H Q := by
  intro A E s μ v1 v2 hA R x y; rw [VR] at x y; obtain ⟨t, rfl⟩ := x; obtain ⟨u, rfl⟩ := y; exact PySem.P.lt_int (Ret.here R vBool h)
theorem PB_le (h : Q (.bool (decide (a ≤ b))) H) : PBin G k (compareOp .LtE) (.int a) (.int b) H Q := by
  intro A E s μ v1 v2 hA R x y; rw [VR] at x y; obtain ⟨t, rfl⟩ := x; obtain ⟨u, rfl⟩ := y; exact PySem.P.le_int (Ret.here R vBool h)
theorem PB_gt (h : Q (.bool (decide (b < a))) H) : PBin G k (compareOp .Gt) (.int a) (.int b) H Q := by
  intro A E s μ v1 v2 hA R x y; rw [VR] at x y; obtain ⟨t, rfl⟩ := x; obtain ⟨u, rfl⟩ := y; exact PySem.P.gt_int (Ret.here R vBool h)
theorem PB_ge (h : Q (.bool (decide (b ≤ a))) H) : PBin G k (compareOp .GtE) (.int a) (.int b) H Q := by
  intro A E s μ v1 v2 hA R x y; rw [VR] at x y; obtain ⟨t, rfl⟩ := x; obtain ⟨u, rfl⟩ := y; exact PySem.P.ge_int (Ret.here R vBool h)
theorem PB_eq (h : Q (.bool (decide (a = b))) H) : PBin G k (compareOp .Eq) (.int a) (.int b) H Q := by
  intro A E s μ v1 v2 hA R x y; rw [VR] at x y; obtain ⟨t, rfl⟩ := x; obtain ⟨u, rfl⟩ := y; exact PySem.P.eq_int (Ret.here R vBool h)
theorem PB_ne (h : Q (.bool (decide (a ≠ b))) H) : PBin G k (compareOp .NotEq) (.int a) (.int b) H Q := by
  intro A E s μ v1 v2 hA R x y; rw [VR] at x y; obtain ⟨t, rfl⟩ := x; obtain ⟨u, rfl⟩ := y
  refine PySem.P.ne_int (Ret.here R vBool ?_)
  have : (a != b) = decide (a ≠ b) := by by_cases q : a = b <;> simp [q]
  rw [this]; exact h

noncomputable def V.isNone : V → Bool
  | .none => true
  | _ => false
theorem vr_isNone {hb : Heap} {μ : List Addr} {h : Heap} {u : V} {v : Value} (x : VR hb μ h u v) : (v == Value.none) = u.isNone := by
  cases u with
  | none => rw [VR] at x; subst x; rfl
  | bool b => rw [VR] at x; subst x; rfl
  | int i => rw [VR] at x; obtain ⟨t, rfl⟩ := x; rfl
  | str i => rw [VR] at x; obtain ⟨t, rfl⟩ := x; rfl
  | tup l => rw [VR] at x; obtain ⟨a, vs, n, rfl, _⟩ := x; rfl
  | base l => rw [VR] at x; obtain ⟨a, vs, rfl, _⟩ := x; rfl
  | loc n => rw [VR] at x; obtain ⟨a, rfl, _⟩ := x; rfl
theorem PB_is {u : V} (h : Q (.bool u.isNone) H) : PBin G k (compareOp .Is) u .none H Q := by
  intro A E s μ v1 v2 hA R x y; have e := vr_isNone x; rw [VR] at y; subst y
  exact is_none (Ret.here R vBool (by rw [e]; exact h))
theorem PB_isnot {u : V} (h : Q (.bool (!u.isNone)) H) : PBin G k (compareOp .IsNot) u .none H Q := by
  intro A E s μ v1 v2 hA R x y; have e := vr_isNone x; rw [VR] at y; subst y
  exact isNot_none (Ret.here R vBool (by rw [e]; exact h))
theorem PB_eqstr {x y : Str} (h : Q (.bool (x == y)) H) : PBin G k (compareOp .Eq) (.str x) (.str y) H Q := by
  intro A E s μ v1 v2 hA R p q; rw [VR] at p q; obtain ⟨t, rfl⟩ := p; obtain ⟨u, rfl⟩ := q
  exact PyProof.Rows.eq_str (Ret.here R vBool h)

-- the items of a subscript
theorem subscripted_any : ∀ (slice : Expr) (o i : Value), ∃ ops, subscripted slice false o i = operate ops (getItem o i) := by
  intro slice o i
  cases slice with
  | Slice l u st p =>
    cases st with
    | none => exact ⟨_, rfl⟩
    | some e => exact ⟨_, rfl⟩
  | _ => exact ⟨_, rfl⟩
noncomputable def PItem (G : Gh) (k : Nat) (o i : V) (H : MH) (Q : V → MH → Prop) : Prop :=
  ∀ (A : Around) (E : Value → Shared → Prop) (s : Shared) (μ : List Addr) (vo vi : Value), AOk k A → HRel G H μ s.heap → VR G.hb μ s.heap o vo → VR G.hb μ s.heap i vi →
    ∃ T id, s.TypeIs vo T ∧ typeLookup (.type T) "__getitem__" = pure (some (.builtin id)) ∧ wpAny G.M A (getItem vo vi) (Ret G μ s Q) E s
theorem TE_Subscript {o i : Expr} {pos : Pos} (h : TE G k sc o ρ H fun vo H₁ => TE G k sc i ρ H₁ fun vi H₂ => PItem G k vo vi H₂ Q) : TE G k sc (.Subscript o i pos) ρ H Q := by
  intro env A E s μ hs hA V R
  refine PyProof.Rows.Subscript_ (two (f := fun a b => subscriptTail o i a b) (Qm := fun a b H₂ => PItem G k a b H₂ Q) hs hA V R h fun a b H' μ' v1 v2 s' X R' x1 x2 q _ => ?_)
  obtain ⟨T, id, hT, hl, hg⟩ := q A E s' μ' v1 v2 hA R' x1 x2
  obtain ⟨ops, ho⟩ := subscripted_any i v1 v2
  exact tail_any hT hl (wpAny_mono hg (fun v s'' => Ret.up X v s'') fun _ _ e => e) ho

theorem PI_list {n : Nat} {l : List V} {i : Int} {u : V} (hn : H[n]? = some (.list l)) (h0 : 0 ≤ i) (hu : l[i.toNat]? = some u) (h : Q u H) : PItem G k (.loc n) (.int i) H Q := by
  intro A E s μ vo vi hA R x y
  rw [VR] at x; rw [VR] at y; obtain ⟨a, rfl, ha⟩ := x; obtain ⟨t, rfl⟩ := y
  obtain ⟨a', ha', vs, m, hl, hlen, hvs⟩ := R.obj n _ hn
  rw [ha] at ha'; cases ha'
  obtain ⟨v, hv, hr⟩ := hvs.get hu
  have hlt := (List.getElem?_eq_some_iff.mp hu).1
  have : i < 2 ^ 63 := by have : l.length ≤ 1000 := hlen; (first | lia | omega)
  exact ⟨"list", _, IsL.isList hl |>.typeIs, slot_list_getitem.lookup, wpAny_getItem_list (IsL.isList hl) h0 this (by simpa using hv) (Ret.here R hr h)⟩
theorem PI_list_neg {n : Nat} {l : List V} {i : Int} {u : V} (hn : H[n]? = some (.list l)) (h0 : i < 0) (h1 : -(l.length : Int) ≤ i) (hu : l[(i + l.length).toNat]? = some u) (h : Q u H) : PItem G k (.loc n) (.int i) H Q := by
  intro A E s μ vo vi hA R x y
  rw [VR] at x; rw [VR] at y; obtain ⟨a, rfl, ha⟩ := x; obtain ⟨t, rfl⟩ := y
  obtain ⟨a', ha', vs, m, hl, hlen, hvs⟩ := R.obj n _ hn
  rw [ha] at ha'; cases ha'
  obtain ⟨v, hv, hr⟩ := hvs.get hu
  have hsz : vs.size = l.length := by have := hvs.length; simpa using this
  have : -(2 ^ 63) ≤ i := by have : l.length ≤ 1000 := hlen; (first | lia | omega)
  exact ⟨"list", _, IsL.isList hl |>.typeIs, slot_list_getitem.lookup, wpAny_getItem_list_neg (IsL.isList hl) h0 (by rw [hsz]; exact h1) this (by rw [hsz]; simpa using hv) (Ret.here R hr h)⟩
theorem PI_tup {l : List V} {i : Int} {j : Nat} {u : V} (hj : seqIndex? i l.length = some j) (hlo : -1000 ≤ i) (hhi : i ≤ 1000) (hu : l[j]? = some u) (h : Q u H) : PItem G k (.tup l) (.int i) H Q := by
  intro A E s μ vo vi hA R x y
  rw [VR] at x; rw [VR] at y; obtain ⟨a, vs, n, rfl, t, hlen, hvs⟩ := x; obtain ⟨tk, rfl⟩ := y
  obtain ⟨v, hv, hr⟩ := hvs.get hu
  have hsz : vs.size = l.length := by have := hvs.length; simpa using this
  exact ⟨"tuple", _, (IsT.isTup t).typeIs, slot_tuple_getitem.lookup, PyProof.Rows.getItem_tuple (IsT.isTup t) (by (first | lia | omega)) (by (first | lia | omega)) (by rw [hsz]; exact hj) (by simpa using hv) (Ret.here R hr h)⟩
theorem PI_dict {n ep : Nat} {es : Ent} {ks : List Int} {u : V} (hn : H[n]? = some (.dict es ep)) (hu : dget es ks = some u) (h : Q u H) : PItem G k (.loc n) (.tup (ks.map .int)) H Q := by
  intro A E s μ vo vi hA R x y
  rw [VR] at x; obtain ⟨a, rfl, ha⟩ := x; obtain ⟨ka, rfl, hka⟩ := y.key
  obtain ⟨a', ha', xs, hd, hlen, her⟩ := R.obj n _ hn
  rw [ha] at ha'; cases ha'
  have := her.get ks
  rw [hu] at this
  obtain ⟨p, hp, hr⟩ := this
  exact ⟨"dict", _, hd.dict.typeIs, slot_dict_getitem.lookup, wpAny_getItem_heap (knd := G.tk) (tupleKind_room_in1 hA.units1) hka.key hd.dict hp (Ret.tok _ R hr h)⟩
theorem PB_in {n ep : Nat} {es : Ent} {ks : List Int} (hn : H[n]? = some (.dict es ep)) (h : Q (.bool (dget es ks).isSome) H) : PBin G k (compareOp .In) (.tup (ks.map .int)) (.loc n) H Q := by
  intro A E s μ vo vi hA R y x
  rw [VR] at x; obtain ⟨a, rfl, ha⟩ := x; obtain ⟨ka, rfl, hka⟩ := y.key
  obtain ⟨a', ha', xs, hd, hlen, her⟩ := R.obj n _ hn
  rw [ha] at ha'; cases ha'
  have e : (atKey xs ks).isSome = (dget es ks).isSome := by
    have := her.get ks
    cases q : dget es ks with
    | none => rw [q] at this; rw [this]; rfl
    | some u => rw [q] at this; obtain ⟨p, hp, _⟩ := this; rw [hp]; rfl
  exact wpAny_in_heap (knd := G.tk) (tupleKind_room_in1 hA.units1) hka.key (R.new a (List.mem_of_getElem? ha)).2 hd.dict (Ret.tok _ R vBool (by rw [e]; exact h))
end
end Mine

end

section
open PySem.AutoSeq1 (wpAny_loadPart')
open PySem.MeetsSeq PySem.MeetsSeq2 PySem.MeetsSeq3 PySem.SeqRoads2
namespace Mine
set_option maxHeartbeats 400000

noncomputable def gtL : List Int → List Int → Bool
  | x :: xs, y :: ys => if x = y then gtL xs ys else decide (y < x)
  | [], _ => false
  | _ :: _, [] => true

theorem tuple_gtAt (l b : Addr) (items items2 : Array Value) (xs ys : List Int) (n n2 : Nat) (dd dd2 : Option Addr) (sl sl2 : Array (Option Value)) (hsz : xs.length = ys.length) (h1 : items.size = xs.length) (h2 : items2.size = ys.length)
    (hx : ∀ i (h : i < items.size), ∃ x t, items[i] = .int x t ∧ xs[i]? = some x) (hy : ∀ i (h : i < items2.size), ∃ x t, items2[i] = .int x t ∧ ys[i]? = some x) :
    Meets (Builtin.«tuple.__gt__» ⟨[.ref l, .ref b], []⟩)
      (fun A R s => s.heap.get? l = some { cls := .type "tuple", dict := dd, data := .seq items n, slots := sl } ∧ s.heap.get? b = some { cls := .type "tuple", dict := dd2, data := .seq items2 n2, slots := sl2 } ∧
        R (.ok (.ret (.bool (gtL xs ys)))) s) :=
  .of_wp fun prog w A R s h => by
    obtain ⟨hp, g, d, tk, os⟩ := s; obtain ⟨hl, hb, h⟩ := h
    have f2 := AutoSeq1.sub_tuple_tuple
    have hZ : (items.toList.zip items2.toList).length = min items.size items2.size := by simp
    wp_walk using wpAny_loadPart' hl, wpAny_loadPart' hb, wpAny_forIn_list _ (fun rest b s' => b.1 = none ∧ s' = ⟨hp, g, d, tk, os⟩ ∧ ∃ i, rest = (items.toList.zip items2.toList).drop i ∧
      R (.ok (.ret (.bool (gtL (xs.drop i) (ys.drop i))))) ⟨hp, g, d, tk, os⟩) _
    case turn =>
      rintro ⟨y, x⟩ rest b s' ⟨hb', rfl, i, hz, hR⟩
      have hlt : i < (items.toList.zip items2.toList).length := by
        rcases Nat.lt_or_ge i (items.toList.zip items2.toList).length with h' | h'
        · exact h'
        · rw [List.drop_of_length_le h'] at hz; cases hz
      have hm : i < min items.size items2.size := hZ ▸ hlt
      have g1 : i < items.size := Nat.lt_of_lt_of_le hm (Nat.min_le_left _ _)
      have g2 : i < items2.size := Nat.lt_of_lt_of_le hm (Nat.min_le_right _ _)
      rw [List.drop_eq_getElem_cons hlt] at hz
      injection hz with hyx hrest
      have hy' : y = items[i] := by have := congrArg Prod.fst hyx; simpa using this
      have hx' : x = items2[i] := by have := congrArg Prod.snd hyx; simpa using this
      obtain ⟨p, t, e1, e2⟩ := hx i g1
      obtain ⟨q, u, e3, e4⟩ := hy i g2
      rw [e1] at hy'; rw [e3] at hx'
      subst hy' hx'
      have d1 : xs.drop i = p :: xs.drop (i + 1) := by
        rw [List.drop_eq_getElem_cons (by (first | lia | omega))]; congr 1
        rw [List.getElem?_eq_getElem (by (first | lia | omega))] at e2; exact Option.some.inj e2
      have d2 : ys.drop i = q :: ys.drop (i + 1) := by
        rw [List.drop_eq_getElem_cons (by (first | lia | omega))]; congr 1
        rw [List.getElem?_eq_getElem (by (first | lia | omega))] at e4; exact Option.some.inj e4
      rw [d1, d2, gtL] at hR
      refine wpAny_bind (SeqAt.EqAt.int_int (A := A.in1) p t q u prog w _ _ ?_)
      by_cases hpq : p = q
      · subst hpq
        rw [if_pos rfl] at hR
        simp only [beq_self_eq_true]
        wp_walk
        exact ⟨rfl, rfl, i + 1, hrest, hR⟩
      · rw [if_neg hpq] at hR
        have : (p == q) = false := by simpa using hpq
        simp only [this]
        rw [if_pos (by decide)]
        refine wpAny_bind (wpAny_rule (wpAny_bind ?_))
        show wpAny _ _ (compareOp .Gt (.int p t) (.int q u)) _ _ _
        refine PySem.P.gt_int ?_
        exact wpAny_bind (wpAny_pure (wpAny_pure (wpAny_pure ⟨_, rfl, hR⟩)))
    case fin =>
      rintro ⟨b1, b2⟩ s' ⟨hb', rfl, i, hz, hR⟩
      simp only at hb'
      subst hb'
      have hge : min items.size items2.size ≤ i := by
        rcases Nat.lt_or_ge i (items.toList.zip items2.toList).length with h' | h'
        · rw [List.drop_eq_getElem_cons h'] at hz; cases hz
        · exact hZ ▸ h'
      have l1 : xs.drop i = [] := List.drop_of_length_le (by (first | lia | omega))
      have l2 : ys.drop i = [] := List.drop_of_length_le (by (first | lia | omega))
      rw [l1, l2] at hR
      wp_walk
      refine ⟨_, rfl, ?_⟩
      have e : Builtin.Tuple.tupleCompareSizes .Gt items.size items2.size = .bool (gtL [] []) := by
        have : ¬ items.size > items2.size := by (first | lia | omega)
        simp [Builtin.Tuple.tupleCompareSizes, gtL, this]
      rw [e]; exact hR
    case h =>
      exact ⟨rfl, rfl, 0, rfl, by simpa using h⟩

-- repeated tuples
theorem tuple_mul0 (l : Addr) (v : Value) (n : Nat) (u : Tok) :
    Meets (Builtin.«tuple.__mul__» ⟨[.ref l, .int 0 u], []⟩)
      (fun A R s => s.heap.get? l = some { cls := .type "tuple", dict := none, data := .seq #[v] n, slots := #[] } ∧ R (.ok (.ret (.ref s.heap.objs.size))) { s with heap := s.heap.push { cls := .type "tuple", data := .seq #[] } }) :=
  .of_wp fun prog w A R s h => by
    obtain ⟨hp, g, d, tk, os⟩ := s; obtain ⟨hl, h1⟩ := h
    wp_walk using wpAny_loadPart' hl
    exact ⟨_, rfl, h1⟩
theorem tuple_mul1 (l : Addr) (v : Value) (n : Nat) (u : Tok) :
    Meets (Builtin.«tuple.__mul__» ⟨[.ref l, .int 1 u], []⟩)
      (fun A R s => s.heap.get? l = some { cls := .type "tuple", dict := none, data := .seq #[v] n, slots := #[] } ∧ R (.ok (.ret (.ref l))) s) :=
  .of_wp fun prog w A R s h => by
    obtain ⟨hp, g, d, tk, os⟩ := s; obtain ⟨hl, h1⟩ := h
    wp_walk using wpAny_loadPart' hl
    exact ⟨_, rfl, h1⟩
theorem tuple_mul2 (l : Addr) (v : Value) (n : Nat) (u : Tok) :
    Meets (Builtin.«tuple.__mul__» ⟨[.ref l, .int 2 u], []⟩)
      (fun A R s => s.heap.get? l = some { cls := .type "tuple", dict := none, data := .seq #[v] n, slots := #[] } ∧ R (.ok (.ret (.ref s.heap.objs.size))) { s with heap := s.heap.push { cls := .type "tuple", data := .seq #[v, v] } }) :=
  .of_wp fun prog w A R s h => by
    obtain ⟨hp, g, d, tk, os⟩ := s; obtain ⟨hl, h1⟩ := h
    wp_walk using wpAny_loadPart' hl
    exact ⟨_, rfl, h1⟩
theorem int_rmul_tuple (a : Int) (t : Tok) (l : Addr) (items : Array Value) (n : Nat) :
    Meets (Builtin.«int.__rmul__» ⟨[.int a t, .ref l], []⟩) (fun _ R s => s.heap.get? l = some { cls := .type "tuple", dict := none, data := .seq items n, slots := #[] } ∧ R (.ok (.ret Value.notImplemented)) s) :=
  .of_wp fun prog w A R s h => by obtain ⟨hp, g, d, tk, os⟩ := s; obtain ⟨hl, h⟩ := h; wp_walk; exact ⟨_, rfl, h⟩
theorem repeat_tuple : seqRepeat? (.type "tuple") = pure (some (.builtin "tuple.__mul__")) := by
  unfold seqRepeat?
  rw [PySem.seqSlot_of (T := "tuple") (name := "__mul__") (id := "tuple.__mul__") F.slot_tuple_mul.lookup (by decide +kernel), PySem.seqSlot_of (T := "tuple") (name := "__rmul__") (id := "tuple.__rmul__") F.slot_tuple_rmul.lookup (by decide +kernel)]
  rfl
theorem noFill_tuple_mul : fillsNumberSlot (.type "tuple") "mul" = pure false :=
  PySem.fillsNumberSlot_seq (id := "tuple.__mul__") (r := some (.builtin "tuple.__rmul__")) F.slot_tuple_mul.lookup (by decide +kernel) F.slot_tuple_rmul.lookup (by decide +kernel)
section
variable {G : Gh} {k : Nat} {sc : Scope} {ρ : Rho} {H : MH} {Q : V → MH → Prop}
theorem mul_tuple_go {A : Around} {E : Value → Shared → Prop} {s : Shared} {l : Addr} {v : Value} {n : Nat} {x : Int} {u : Tok} {P : Value → Shared → Prop} (hl : IsT s.heap l #[v] n)
    (h : wpAny G.M A (call (.builtin "tuple.__mul__") [.ref l, .int x u]) P E s) : wpAny G.M A (binaryOp .Mult (.ref l) (.int x u)) P E s :=
  wpAny_binaryOp_repeat_ref (T := "tuple") (U := "int") (by decide) ⟨_, hl, rfl⟩ (fun s' => typeIs_int s' x u) noFill_tuple_mul F.fills_int_mul F.slot_int_rmul repeat_tuple F.slot_int_index.lookup
    (call_meets F.slot_int_rmul (typeIs_int s x u) F.entry_int_rmul (F.args_int_rmul_2 _ _) (int_rmul_tuple x u l #[v] n) ⟨hl, rfl, ⟨_, hl, rfl⟩, h⟩)
theorem PB_tmul {w : V} {x : Int} (h0 : 0 ≤ x) (h2 : x ≤ 2) (h : Q (.tup (List.replicate x.toNat w)) H) : PBin G k (binaryOp .Mult) (.tup [w]) (.int x) H Q := by
  intro A E s μ vo vi hA R x1 x2
  rw [VR] at x1; rw [VR] at x2
  obtain ⟨a, vs, n, rfl, t, hlen, hvs⟩ := x1; obtain ⟨u, rfl⟩ := x2
  have hvs' := hvs
  rw [VRs] at hvs'
  obtain ⟨v, r, e, hv, hr⟩ := hvs'
  rw [VRs] at hr; subst hr
  have e : vs = #[v] := by apply Array.toList_inj.mp; simpa using e
  subst e
  refine mul_tuple_go t ?_
  have hx : x = 0 ∨ x = 1 ∨ x = 2 := by (first | lia | omega)
  rcases hx with rfl | rfl | rfl
  · exact call_meets F.slot_tuple_mul ⟨_, t, rfl⟩ F.entry_tuple_mul (F.args_tuple_mul_2 _ _) (tuple_mul0 a v n u) ⟨t, Ret.tuple (us := []) (vs := []) R VRs.nil (by simp [lim]) h⟩
  · exact call_meets F.slot_tuple_mul ⟨_, t, rfl⟩ F.entry_tuple_mul (F.args_tuple_mul_2 _ _) (tuple_mul1 a v n u) ⟨t, Ret.here R (by rw [VR]; exact ⟨a, #[v], n, rfl, t, hlen, hvs⟩) h⟩
  · exact call_meets F.slot_tuple_mul ⟨_, t, rfl⟩ F.entry_tuple_mul (F.args_tuple_mul_2 _ _) (tuple_mul2 a v n u) ⟨t, Ret.tuple (us := [w, w]) (vs := [v, v]) R (VRs.cons hv (VRs.one hv)) (by simp [lim]) h⟩
theorem PB_tadd {l l' : List V} (hl : l.length + l'.length ≤ lim) (h : Q (.tup (l ++ l')) H) : PBin G k (binaryOp .Add) (.tup l) (.tup l') H Q := by
  intro A E s μ vo vi hA R x1 x2
  have x1' := x1; have x2' := x2
  rw [VR] at x1; rw [VR] at x2
  obtain ⟨a, vs, n, rfl, t, hlen, hvs⟩ := x1; obtain ⟨b, vs2, n2, rfl, t2, hlen2, hvs2⟩ := x2
  have s1 : vs.size = l.length := by have := hvs.length; simpa using this
  have s2 : vs2.size = l'.length := by have := hvs2.length; simpa using this
  by_cases hv : l = []
  · subst hv
    exact concat_meets ⟨_, t, rfl⟩ ⟨_, t2, rfl⟩ noFill_tuple_add seq_tuple_add PySem.F.slot_tuple_add PySem.F.entry_tuple_add (PySem.F.args_tuple_add_2 _ _)
      (tuple_addW0 a b vs vs2 n n2 none none #[] #[] (by simpa [Array.isEmpty] using s1)) ⟨t, t2, Ret.here R x2' h⟩
  · have hve : ¬ vs.isEmpty = true := by
      simp only [Array.isEmpty, decide_eq_true_eq, s1]
      intro q; exact hv (List.length_eq_zero_iff.mp q)
    by_cases hw : l' = []
    · subst hw
      exact concat_meets ⟨_, t, rfl⟩ ⟨_, t2, rfl⟩ noFill_tuple_add seq_tuple_add PySem.F.slot_tuple_add PySem.F.entry_tuple_add (PySem.F.args_tuple_add_2 _ _)
        (tuple_addW1 a b vs vs2 n n2 none none #[] #[] hve (by simpa [Array.isEmpty] using s2)) ⟨t, t2, Ret.here R x1' (by simpa using h)⟩
    · have hwe : ¬ vs2.isEmpty = true := by
        simp only [Array.isEmpty, decide_eq_true_eq, s2]
        intro q; exact hw (List.length_eq_zero_iff.mp q)
      refine concat_meets ⟨_, t, rfl⟩ ⟨_, t2, rfl⟩ noFill_tuple_add seq_tuple_add PySem.F.slot_tuple_add PySem.F.entry_tuple_add (PySem.F.args_tuple_add_2 _ _)
        (tuple_addW2 a b vs vs2 n n2 none none #[] #[] hve hwe (by rw [s1, s2]; exact Nat.le_trans hl lim_le)) ⟨t, t2, ?_⟩
      have := Ret.tuple R (VRs.append hvs hvs2) (by simpa using hl) h
      have e : (vs.toList ++ vs2.toList).toArray = vs ++ vs2 := by apply Array.toList_inj.mp; simp
      rw [e] at this
      exact this
theorem PB_ladd {n n' : Nat} {l l' : List V} (hn : H[n]? = some (.list l)) (hn' : H[n']? = some (.list l')) (hl : l.length + l'.length ≤ lim) (h : Q (.loc H.length) (H ++ [.list (l ++ l')])) : PBin G k (binaryOp .Add) (.loc n) (.loc n') H Q := by
  intro A E s μ vo vi hA R x1 x2
  rw [VR] at x1; rw [VR] at x2
  obtain ⟨a, rfl, ha⟩ := x1; obtain ⟨b, rfl, hb⟩ := x2
  obtain ⟨a', ha', vs, m, hla, hlen, hvs⟩ := R.obj n _ hn
  obtain ⟨b', hb', vs2, m2, hlb, hlen2, hvs2⟩ := R.obj n' _ hn'
  rw [ha] at ha'; cases ha'; rw [hb] at hb'; cases hb'
  have s1 : vs.size = l.length := by have := hvs.length; simpa using this
  have s2 : vs2.size = l'.length := by have := hvs2.length; simpa using this
  refine PySem.P.add_list (hsz := by rw [s1, s2]; exact Nat.le_trans hl lim_le) hla hlb ?_
  have := Ret.list R (VRs.append hvs hvs2) (by simpa using hl) h
  have e : (vs.toList ++ vs2.toList).toArray = vs ++ vs2 := by apply Array.toList_inj.mp; simp
  rw [e] at this
  exact this
theorem VRs.mem {hb : Heap} {μ : List Addr} {h : Heap} : ∀ {l : List V} {vs : List Value} (n : Nat), VRs hb μ h l vs → VRs hb μ h (List.replicate n l).flatten (List.replicate n vs).flatten
  | _, _, 0, _ => by simp [VRs]
  | _, _, n + 1, x => by simp only [List.replicate_succ, List.flatten_cons]; exact VRs.append x (VRs.mem n x)
theorem foldl_rep (items : Array Value) : ∀ (n : Nat) (acc : Array Value), (List.foldl (fun x1 x2 => x1 ++ x2) acc (List.replicate n items)).toList = acc.toList ++ (List.replicate n items.toList).flatten
  | 0, acc => by simp
  | n + 1, acc => by simp [List.replicate_succ, foldl_rep items n]
theorem PB_lmul {n : Nat} {w : V} {x : Int} (hn : H[n]? = some (.list [w])) (h0 : 0 ≤ x) (h1 : x ≤ 1000) (h : Q (.loc H.length) (H ++ [.list (List.replicate x.toNat w)])) : PBin G k (binaryOp .Mult) (.loc n) (.int x) H Q := by
  intro A E s μ vo vi hA R x1 x2
  rw [VR] at x1; rw [VR] at x2
  obtain ⟨a, rfl, ha⟩ := x1; obtain ⟨u, rfl⟩ := x2
  obtain ⟨a', ha', vs, m, hla, hlen, hvs⟩ := R.obj n _ hn
  rw [ha] at ha'; cases ha'
  have s1 : vs.size = 1 := by have := hvs.length; simpa using this
  refine wpAny_binaryOp_repeat_ref (T := "list") (U := "int") (by decide) ⟨_, hla, rfl⟩ (fun s' => typeIs_int s' x u) noFill_list_mul F.fills_int_mul F.slot_int_rmul repeat_list F.slot_int_index.lookup
    (call_meets F.slot_int_rmul (typeIs_int s x u) F.entry_int_rmul (F.args_int_rmul_2 _ _) (int___rmul___int_list x u a vs m)
      ⟨hla, rfl, ⟨_, hla, rfl⟩, call_meets F.slot_list_mul ⟨_, hla, rfl⟩ F.entry_list_mul (F.args_list_mul_2 _ _)
        (AutoListH.list___mul___list_int_3 a vs m x u (by simp [Builtin.List.listFitsIndex]; (first | lia | omega)) (by rw [s1]; (first | lia | omega)) (by rw [s1]; simp [Builtin.List.listTooLong, sizeLine]; (first | lia | omega)))
        ⟨hla, ?_⟩⟩)
  have e0 : vs.isEmpty = false := by simp [Array.isEmpty, s1]
  have eV : (List.replicate x.toNat w) = (List.replicate x.toNat [w]).flatten := by
    induction x.toNat with
    | zero => rfl
    | succ q ih => simp [List.replicate_succ, ← ih]
  have := Ret.list R (hvs.mem x.toNat) (by rw [← eV]; simp [lim]; (first | lia | omega)) (by rw [← eV]; exact h)
  have e : (List.foldl (fun x1 x2 => x1 ++ x2) #[] (List.replicate (if vs.isEmpty = true then 0 else x.toNat) vs)) = (List.replicate x.toNat vs.toList).flatten.toArray := by
    apply Array.toList_inj.mp
    rw [e0, foldl_rep]; simp
  rw [e]
  exact this
end
end Mine

end

section
open PySem.AutoSeq1 (wpAny_loadPart')
open PySem.MeetsSeq PySem.MeetsSeq2 PySem.MeetsSeq3 PySem.SeqRoads2
namespace Mine

theorem all_getD (xs ys : List Int) : ((List.range (min xs.length ys.length)).all (fun j => xs.getD j 0 == ys.getD j 0) && xs.length == ys.length) = decide (xs = ys) := by
  by_cases hl : xs.length = ys.length
  · by_cases h : xs = ys
    · subst h; simp
    · have : ((List.range (min xs.length ys.length)).all (fun j => xs.getD j 0 == ys.getD j 0)) = false := by
        rw [Bool.eq_false_iff]
        intro q
        refine h (List.ext_getElem hl fun j h1 h2 => ?_)
        have := List.all_eq_true.mp q j (by simp; (first | lia | omega))
        simpa [h1, h2] using this
      rw [this]; simp [h]
  · have : ¬ xs = ys := fun q => hl (by rw [q])
    simp [hl, this]
theorem ints_at {hb : Heap} {μ : List Addr} {h : Heap} {xs : List Int} {vs : Array Value} (x : VRs hb μ h (xs.map .int) vs.toList) : vs.size = xs.length ∧ ∀ i (hi : i < vs.size), ∃ p t, vs[i] = .int p t ∧ xs[i]? = some p := by
  have hs : vs.size = xs.length := by have := x.length; simpa using this
  refine ⟨hs, fun i hi => ?_⟩
  have hi' : i < xs.length := by (first | lia | omega)
  obtain ⟨v, hv, hr⟩ := x.get (i := i) (u := .int xs[i]) (by simp [hi'])
  rw [VR] at hr
  obtain ⟨t, rfl⟩ := hr
  refine ⟨xs[i], t, ?_, by simp [hi']⟩
  rw [Array.getElem?_toList, Array.getElem?_eq_getElem hi] at hv
  exact Option.some.inj hv
theorem tup_eqAt {A : Around} {s : Shared} {a b : Addr} {vs us : Array Value} {n m : Nat} {xs ys : List Int} {hb : Heap} {μ : List Addr} {h : Heap} (ha : IsT s.heap a vs n) (hb' : IsT s.heap b us m) (x : VRs hb μ h (xs.map .int) vs.toList) (y : VRs hb μ h (ys.map .int) us.toList) (hu : A.units < cLine) :
    SeqAt.RcAt A s (.ref a) (.ref b) (decide (xs = ys)) := by
  obtain ⟨s1, h1⟩ := ints_at x
  obtain ⟨s2, h2⟩ := ints_at y
  have := SeqAt.RcAt.tuples (e := fun j => xs.getD j 0 == ys.getD j 0) (IsT.isTuple ha) (IsT.isTuple hb') hu fun j g1 g2 => by
    obtain ⟨p, t, e1, e2⟩ := h1 j g1
    obtain ⟨q, u, e3, e4⟩ := h2 j g2
    rw [e1, e3]
    have e5 : xs.getD j 0 = p := by simp [e2]
    have e6 : ys.getD j 0 = q := by simp [e4]
    rw [e5, e6]
    exact SeqAt.EqAt.int_int _ _ _ _
  rw [s1, s2, all_getD] at this
  exact this
section
variable {G : Gh} {k : Nat} {sc : Scope} {ρ : Rho} {H : MH} {Q : V → MH → Prop}
theorem PB_teq {xs ys : List Int} (h : Q (.bool (decide (xs = ys))) H) : PBin G k (compareOp .Eq) (.tup (xs.map .int)) (.tup (ys.map .int)) H Q := by
  intro A E s μ vo vi hA R x1 x2
  rw [VR] at x1; rw [VR] at x2
  obtain ⟨a, vs, n, rfl, t, hlen, hvs⟩ := x1; obtain ⟨b, us, m, rfl, t2, hlen2, hvs2⟩ := x2
  exact tup_eqAt t t2 hvs hvs2 hA.units G.prog G.w E _ (Ret.here R vBool h)
theorem PB_tgt {xs ys : List Int} (hl : xs.length = ys.length) (h : Q (.bool (gtL xs ys)) H) : PBin G k (compareOp .Gt) (.tup (xs.map .int)) (.tup (ys.map .int)) H Q := by
  intro A E s μ vo vi hA R x1 x2
  rw [VR] at x1; rw [VR] at x2
  obtain ⟨a, vs, n, rfl, t, hlen, hvs⟩ := x1; obtain ⟨b, us, m, rfl, t2, hlen2, hvs2⟩ := x2
  obtain ⟨s1, h1⟩ := ints_at hvs
  obtain ⟨s2, h2⟩ := ints_at hvs2
  show wpAny _ _ (richCompare .Gt _ _) _ _ _
  exact richCompare_meets_room (op := .Gt) ⟨_, t, rfl⟩ ⟨_, t2, rfl⟩ F.slot_tuple_gt F.entry_tuple_gt (F.args_tuple_gt_2 _ _) (tuple_gtAt a b vs us xs ys n m none none #[] #[] hl s1 s2 h1 h2)
    ⟨t, t2, (fun x => nomatch x), Ret.here R vBool h⟩ hA.units

-- o[i] = v
theorem setItem_listL {A : Around} {E : Value → Shared → Prop} {s : Shared} {l : Addr} {items : Array Value} {n : Nat} {k : Int} {t : Tok} {v : Value} {Q : Unit → Shared → Prop} (hl : IsL s.heap l items n)
    (h0 : 0 ≤ k) (hfit : k < 2 ^ 63) (hn : k < items.size)
    (hQ : ∀ h' n', IsL h' l (items.setIfInBounds k.toNat v) n' → Heap.SameBut l s.heap h' → Q () { s with heap := h' }) :
    wpAny G.M A (setItem (.ref l) (.int k t) v) Q E s := by
  have hT := IsL.isList hl
  unfold setItem
  try with_reducible refine wpAny_holding ?_
  first | refine wpAny_bind (wpAny_pure ?_) | skip
  refine wpAny_bind (wpAny_sequenceKey hT.typeIs (by decide) ?_)
  refine wpAny_bind (wpAny_callSpecial?_slot (name := Str.ofString "__setitem__") hT.typeIs slot_list_setitem
    (wpAny_call_entry slot_list_setitem hT.typeIs entry_list_setitem ?_ (args_list_setitem _ _ _)))
  show wpAny _ _ (Builtin.List.listSubscript? (.int k t) >>= _) _ _ s
  refine wpAny_bind (wpAny_listSubscript_int (fitsIndex_of h0 hfit) ?_)
  clear hfit
  obtain ⟨j, rfl⟩ := Int.eq_ofNat_of_zero_le h0
  have hj : j < items.size := by (first | lia | omega)
  have hx' : items[j]? = some items[j] := Array.getElem?_eq_getElem hj
  show wpAny _ _ ((seqItemAt l j >>= fun r => pure (r.map (j, ·))) >>= _) _ _ s
  refine wpAny_bind (wpAny_bind (wpAny_seqItemAt hl rfl (wpAny_pure ?_)))
  rw [hx']
  show wpAny _ _ (setSeqItemAt l j v >>= _) _ _ s
  refine wpAny_bind (wpAny_setSeqItemAt hl rfl ?_)
  have hfin := hl.update (·.setIfInBounds j v)
  first
    | exact wpAny_bind (wpAny_pure (wpAny_pure ⟨.none, rfl, wpAny_pure (hQ _ _ hfin (Heap.SameBut.update ..))⟩))
    | exact wpAny_pure ⟨.none, rfl, wpAny_pure (hQ _ _ hfin (Heap.SameBut.update ..))⟩

noncomputable def hset (H : MH) (n : Nat) (o : O) : MH := H.set n o
theorem HRel.put {μ : List Addr} {h h' : Heap} {n : Nat} {a : Addr} {o o' : O} (R : HRel G H μ h) (hn : H[n]? = some o) (ha : μ[n]? = some a) (hs : Heap.SameBut a h h') (ho' : TKeep h h' → OR G μ h' o' a) : HRel G (H.set n o') μ h' := by
  obtain ⟨a', ha', ho⟩ := R.obj n o hn
  rw [ha] at ha'; cases ha'
  have nt : ∀ ws m, ¬ IsT h a ws m := fun ws m t => ho.noTuple t
  have tk := SameBut.tkeep hs nt
  refine ⟨fun b ob e => hs.extBut _ _ (fun q => ?_) (R.base _ _ e), by simp [R.len], R.nodup, R.new, fun m p hp => ?_, R.low⟩
  · rw [q, (R.new a (List.mem_of_getElem? ha)).1] at e; cases e
  · rw [List.getElem?_set] at hp
    by_cases hm : n = m
    · subst hm
      rw [if_pos rfl] at hp
      split at hp
      · cases hp; exact ⟨a, ha, ho' tk⟩
      · cases hp
    · rw [if_neg hm] at hp
      obtain ⟨b, hb, x⟩ := R.obj m p hp
      refine ⟨b, hb, x.keep (fun ob e => hs.extBut _ _ (fun q => ?_) e) tk (List.prefix_refl _)⟩
      subst q
      exact hm ((List.getElem?_inj (List.getElem?_eq_some_iff.mp ha).1 R.nodup).mp (by rw [ha, hb]))
theorem Ext.put {μ : List Addr} {s : Shared} {h' : Heap} {tk : Nat} {a : Addr} (ha : a ∈ μ) (hs : Heap.SameBut a s.heap h') : Ext μ s μ { s with heap := h', toks := tk } :=
  ⟨⟨h', tk, rfl⟩, List.prefix_refl _, fun b hb => .inl hb, fun b ob e n => hs.extBut _ _ (fun q => n (q ▸ ha)) e⟩
theorem PS_list {n : Nat} {l : List V} {i : Int} {u : V} {Q : MH → Prop} (hn : H[n]? = some (.list l)) (h0 : 0 ≤ i) (h1 : i < l.length) (h : Q (H.set n (.list (l.set i.toNat u)))) : PSet G k (.loc n) (.int i) u H Q := by
  intro A E s μ vo vi vv hA R x y z
  rw [VR] at x; rw [VR] at y; obtain ⟨a, rfl, ha⟩ := x; obtain ⟨t, rfl⟩ := y
  obtain ⟨a', ha', vs, m, hl, hlen, hvs⟩ := R.obj n _ hn
  rw [ha] at ha'; cases ha'
  have hsz : vs.size = l.length := by have := hvs.length; simpa using this
  have : i < 2 ^ 63 := by have : l.length ≤ 1000 := hlen; (first | lia | omega)
  refine setItem_listL hl h0 this (by rw [hsz]; exact h1) fun h' n' hl' hs => ?_
  refine ⟨_, μ, Ext.put (tk := s.toks) (List.mem_of_getElem? ha) hs, R.put (o' := .list (l.set i.toNat u)) hn ha hs fun tk => ⟨_, n', hl', by simpa using hlen, ?_⟩, h⟩
  have e : (vs.setIfInBounds i.toNat vv).toList = vs.toList.set i.toNat vv := by simp
  rw [e]
  exact VRs.set _ (VRs.mono tk (List.prefix_refl _) hvs) (VR.mono tk (List.prefix_refl _) z)
theorem PS_dict {n ep : Nat} {es : Ent} {ks : List Int} {u : V} {Q : MH → Prop} (hn : H[n]? = some (.dict es ep)) (hl : es.length < lim) (h : ∀ ep', Q (H.set n (.dict (dput es ks u) ep'))) : PSet G k (.loc n) (.tup (ks.map .int)) u H Q := by
  intro A E s μ vo vi vv hA R x y z
  rw [VR] at x; obtain ⟨a, rfl, ha⟩ := x; obtain ⟨ka, rfl, hka⟩ := y.key
  obtain ⟨a', ha', xs, hd, hlen, her⟩ := R.obj n _ hn
  rw [ha] at ha'; cases ha'
  refine wpAny_setItem_heap (knd := G.tk) (hsz := by rw [her.length]; exact Nat.le_trans hlen lim_le) (tupleKind_room_in1 hA.units1) hka.key hd.dict fun h' hm hs => ?_
  obtain ⟨ep', hd'⟩ := hd.stored hka hm hs
  refine ⟨_, μ, Ext.put (List.mem_of_getElem? ha) hs, R.put (o' := .dict (dput es ks u) ep') hn ha hs fun tk => ⟨_, hd', Nat.le_trans (dput_length _ _ _) (by (first | lia | omega)), ?_⟩, h ep'⟩
  obtain ⟨_, _, _, _, _, _, _, hnd⟩ := hd
  exact ER.put (VR.mono tk (List.prefix_refl _) z) (her.mono tk (List.prefix_refl _)) hnd
end
end Mine

end

section
open PySem.AutoSeq1 (wpAny_loadPart')
open PySem.MeetsSeq PySem.MeetsSeq2 PySem.MeetsSeq3 PySem.SeqRoads2
namespace Mine
section
variable {G : Gh} {k : Nat} {sc : Scope} {ρ : Rho} {H : MH} {Q : V → MH → Prop}

theorem CB_len {n : Nat} {l : List V} (hn : H[n]? = some (.list l)) (h : Q (.int l.length) H) : CB G k (.builtin "len") [.loc n] H Q := by
  intro A E s μ vs hA R x
  rw [VRs] at x; obtain ⟨v, r, rfl, x, y⟩ := x; rw [VRs] at y; subst y
  rw [VR] at x; obtain ⟨a, rfl, ha⟩ := x
  obtain ⟨a', ha', vs, m, hl, hlen, hvs⟩ := R.obj n _ hn
  rw [ha] at ha'; cases ha'
  have hsz : vs.size = l.length := by have := hvs.length; simpa using this
  refine PyProof.Rows.len_list (IsL.isList hl) (by rw [hsz]; have : l.length ≤ 1000 := hlen; (first | lia | omega)) ?_
  rw [hsz]; exact Ret.tok _ R vInt h
theorem CB_lenT {l : List V} (h : Q (.int l.length) H) : CB G k (.builtin "len") [.tup l] H Q := by
  intro A E s μ vs hA R x
  rw [VRs] at x; obtain ⟨v, r, rfl, x, y⟩ := x; rw [VRs] at y; subst y
  rw [VR] at x; obtain ⟨a, vs, m, rfl, hl, hlen, hvs⟩ := x
  have hsz : vs.size = l.length := by have := hvs.length; simpa using this
  refine PyProof.Rows.len_tuple (IsT.isTup hl) (by rw [hsz]; have : l.length ≤ 1000 := hlen; (first | lia | omega)) ?_
  rw [hsz]; exact Ret.tok _ R vInt h
theorem dict_len_body {d : Addr} {xs : List (List Int × Addr × Value)} (hd : (d == sysModules) = false) :
    MeetsIn G.prog G.w (Builtin.«dict.__len__» ⟨[.ref d], []⟩) (fun _ R s => s.heap.DictOfH G.tk d xs ∧ R (.ok (.ret (.int xs.length s.toks))) { s with toks := s.toks + 1 }) :=
  .of_wp fun A R s ⟨hm, h⟩ => by
    obtain ⟨o, es, ep, ho, hc, hdat, he, hi, hn⟩ := hm
    show wpAny _ _ (dictSize d >>= _) _ _ s
    unfold dictSize
    refine wpAny_bind (wpAny_bind (wpAny_dictEntries ho hdat (wpAny_pure ?_)))
    show wpAny _ _ (Builtin.Dict.pendingCount d >>= _) _ _ s
    refine wpAny_bind (wpAny_pendingCount_other hd (wpAny_ret_mkInt ?_))
    rw [Nat.add_zero, size_of_entries he]; exact h
theorem CB_lenD {n ep : Nat} {es : Ent} (hn : H[n]? = some (.dict es ep)) (h : Q (.int es.length) H) : CB G k (.builtin "len") [.loc n] H Q := by
  intro A E s μ vs hA R x
  rw [VRs] at x; obtain ⟨v, r, rfl, x, y⟩ := x; rw [VRs] at y; subst y
  rw [VR] at x; obtain ⟨a, rfl, ha⟩ := x
  obtain ⟨a', ha', xs, hd, hlen, her⟩ := R.obj n _ hn
  rw [ha] at ha'; cases ha'
  have hz := her.length
  have hsm := (R.new a (List.mem_of_getElem? ha)).2
  refine call_len_slot (n := xs.length) hd.dict.typeIs F.slot_dict_len (fun Q' h' => call_meetsIn F.slot_dict_len hd.dict.typeIs F.entry_dict_len (F.args_dict_len_1 _) (dict_len_body hsm) ⟨hd.dict, h'⟩) (by (first | lia | omega)) (by have : es.length ≤ 1000 := hlen; (first | lia | omega)) ?_
  rw [hz]; exact Ret.tok _ R vInt h
theorem CB_abs {a : Int} (h : Q (.int (a.natAbs : Int)) H) : CB G k (.builtin "abs") [.int a] H Q := by
  intro A E s μ vs hA R x
  rw [VRs] at x; obtain ⟨v, r, rfl, x, y⟩ := x; rw [VRs] at y; subst y
  rw [VR] at x; obtain ⟨t, rfl⟩ := x
  have e : (if a < 0 then -a else a) = (a.natAbs : Int) := by split <;> (first | lia | omega)
  exact call_abs_int fun u tk => by rw [e]; exact Ret.tok _ R vInt h
theorem Ret.grown {μ : List Addr} {s : Shared} {u : V} {v : Value} {h' : Heap} {tk : Nat} (R : HRel G H μ s.heap) (hk : ∀ b ob, s.heap.get? b = some ob → h'.get? b = some ob) (x : VR G.hb μ s.heap u v) (q : Q u H) : Ret G μ s Q v { s with heap := h', toks := tk } :=
  ⟨u, H, μ, Ext.grow hk, R.grow hk, VR.mono (fun c ws m t => hk _ _ t) (List.prefix_refl _) x, q⟩
theorem CB_max2 {a b : Int} (h : Q (.int (max a b)) H) : CB G k (.builtin "max") [.int a, .int b] H Q := by
  intro A E s μ vs hA R x
  rw [VRs] at x; obtain ⟨v, r, rfl, x, y⟩ := x; rw [VRs] at y; obtain ⟨v2, r2, rfl, y, z⟩ := y; rw [VRs] at z; subst z
  rw [VR] at x; obtain ⟨t, rfl⟩ := x; rw [VR] at y; obtain ⟨u, rfl⟩ := y
  refine max_two_ints hA.1 fun h' tk hk => ?_
  by_cases hc : b > a
  · rw [if_pos hc]
    have e : max a b = b := by (first | lia | omega)
    exact Ret.grown R hk vInt (e ▸ h)
  · rw [if_neg hc]
    have e : max a b = a := by (first | lia | omega)
    exact Ret.grown R hk vInt (e ▸ h)
theorem CB_min2 {a b : Int} (h : Q (.int (min a b)) H) : CB G k (.builtin "min") [.int a, .int b] H Q := by
  intro A E s μ vs hA R x
  rw [VRs] at x; obtain ⟨v, r, rfl, x, y⟩ := x; rw [VRs] at y; obtain ⟨v2, r2, rfl, y, z⟩ := y; rw [VRs] at z; subst z
  rw [VR] at x; obtain ⟨t, rfl⟩ := x; rw [VR] at y; obtain ⟨u, rfl⟩ := y
  refine min_two_ints hA.1 fun h' tk hk => ?_
  by_cases hc : b < a
  · rw [if_pos hc]
    have e : min a b = b := by (first | lia | omega)
    exact Ret.grown R hk vInt (e ▸ h)
  · rw [if_neg hc]
    have e : min a b = a := by (first | lia | omega)
    exact Ret.grown R hk vInt (e ▸ h)
theorem ints_items {hb : Heap} {μ : List Addr} {h : Heap} : ∀ {xs : List Int} {vs : List Value}, VRs hb μ h (xs.map .int) vs → ∃ ys : List (Int × Tok), vs = ys.map (fun p => .int p.1 p.2) ∧ ys.map (·.1) = xs
  | [], vs, x => by rw [List.map_nil, VRs] at x; subst x; exact ⟨[], rfl, rfl⟩
  | a :: xs, vs, x => by
    rw [List.map_cons, VRs] at x
    obtain ⟨v, r, rfl, p, q⟩ := x
    rw [VR] at p; obtain ⟨t, rfl⟩ := p
    obtain ⟨ys, rfl, e⟩ := ints_items q
    exact ⟨(a, t) :: ys, rfl, by simp [e]⟩
theorem CB_maxL {n : Nat} {xs : List Int} (hn : H[n]? = some (.list (xs.map .int))) (hne : xs ≠ []) (h : ∀ M, M ∈ xs → (∀ a ∈ xs, a ≤ M) → Q (.int M) H) : CB G k (.builtin "max") [.loc n] H Q := by
  intro A E s μ vs hA R x
  rw [VRs] at x; obtain ⟨v, r, rfl, x, y⟩ := x; rw [VRs] at y; subst y
  rw [VR] at x; obtain ⟨a, rfl, ha⟩ := x
  obtain ⟨a', ha', vs, m, hl, hlen, hvs⟩ := R.obj n _ hn
  rw [ha] at ha'; cases ha'
  obtain ⟨ys, e1, e2⟩ := ints_items hvs
  have e : vs = intItems ys.toArray := by apply Array.toList_inj.mp; rw [e1]; simp [intItems]
  subst e
  have hpos : 0 < ys.length := by
    cases ys with
    | nil => simp at e2; exact absurd e2 hne
    | cons _ _ => simp
  refine max_intList hA.1 (IsL.isList hl) (by simpa using hpos) fun v h' tk hv hk => ?_
  obtain ⟨g1, g2⟩ := argBest_gt (numAt ys.toArray) (ys.toArray.size - 1)
  obtain ⟨t, rfl⟩ := intItems_at hv
  have hnum : ∀ j, numAt ys.toArray j = xs.getD j 0 := fun j => by rw [numAt_eq, ← e2]
  have hxl : xs.length = ys.length := by rw [← e2]; simp
  refine Ret.grown R hk vInt (h _ ?_ fun c hc => ?_)
  · rw [hnum]; exact getD_mem (Nat.lt_of_le_of_lt g1 (by simp; (first | lia | omega)))
  · obtain ⟨j, hj, e3⟩ := mem_getD hc
    have := g2 j (by simp; (first | lia | omega))
    rw [hnum j, e3] at this
    exact this
theorem CB_any {n : Nat} {bs : List Bool} (hn : H[n]? = some (.list (bs.map .bool))) (h : Q (.bool (bs.any id)) H) : CB G k (.builtin "any") [.loc n] H Q := by
  intro A E s μ vs hA R x
  rw [VRs] at x; obtain ⟨v, r, rfl, x, y⟩ := x; rw [VRs] at y; subst y
  rw [VR] at x; obtain ⟨a, rfl, ha⟩ := x
  obtain ⟨a', ha', vs, m, hl, hlen, hvs⟩ := R.obj n _ hn
  rw [ha] at ha'; cases ha'
  have hlt : a < s.heap.objs.size := Heap.lt_size hl
  have hsz : vs.size = bs.length := by have := hvs.length; simpa using this
  have hL := IsL.isList hl
  refine call_any_walk (wpAny_pyIter_list hL ⟨_, _, _, _, _, _, fun i => bs.getD i false, rfl, Walks.list (A := A.in1) hA.1 _ a (Nat.ne_of_lt hlt) vs, ⟨⟨_, Heap.get?_push_size _ rfl, rfl, rfl⟩, hL.push _⟩, ?_, fun h' tk hk => ?_⟩)
  · intro i v s' Q' E' hv hq
    have hi : i < bs.length := by rw [← hsz]; exact (Array.getElem?_eq_some_iff.mp hv).1
    obtain ⟨v', hv', hr⟩ := hvs.get (i := i) (u := .bool bs[i]) (by simp [hi])
    rw [Array.getElem?_toList, hv] at hv'
    cases hv'
    rw [VR] at hr; subst hr
    refine wpAny_truthy_bool ?_
    have : bs.getD i false = bs[i] := by simp [hi]
    rw [← this]; exact hq
  · have e : ((List.range vs.size).any fun i => bs.getD i false) = bs.any id := by
      rw [hsz]
      apply Bool.eq_iff_iff.mpr
      simp only [List.any_eq_true, List.mem_range, id]
      constructor
      · rintro ⟨i, hi, q⟩
        rw [List.getD_eq_getElem?_getD, List.getElem?_eq_getElem hi] at q
        exact ⟨_, List.getElem_mem hi, q⟩
      · rintro ⟨b, hb, q⟩
        obtain ⟨i, hi, rfl⟩ := List.getElem_of_mem hb
        exact ⟨i, hi, by rw [List.getD_eq_getElem?_getD, List.getElem?_eq_getElem hi]; exact q⟩
    rw [e]
    refine Ret.grown R (fun b ob e => ?_) vBool h
    exact hk b ob (fun hm => by
      rcases List.mem_cons.mp hm with e1 | hm
      · exact absurd (e1 ▸ Heap.lt_size e) (Nat.lt_irrefl _)
      · cases hm) (Heap.get?_push_of_some _ e)
theorem CB_tuple {n : Nat} {l : List V} (hn : H[n]? = some (.list l)) (h : Q (.tup l) H) : CB G k (.type "tuple") [.loc n] H Q := by
  intro A E s μ vs hA R x
  rw [VRs] at x; obtain ⟨v, r, rfl, x, y⟩ := x; rw [VRs] at y; subst y
  rw [VR] at x; obtain ⟨a, rfl, ha⟩ := x
  obtain ⟨a', ha', vs, m, hl, hlen, hvs⟩ := R.obj n _ hn
  rw [ha] at ha'; cases ha'
  have hsz : vs.size = l.length := by have := hvs.length; simpa using this
  refine call_tuple_list (hsz := by rw [hsz]; exact Nat.le_trans hlen lim_le) (IsL.isList hl) fun h' hk => ?_
  have hk2 : ∀ b ob, s.heap.get? b = some ob → (h'.push { cls := .type "tuple", data := .seq vs }).get? b = some ob := fun b ob e => Heap.get?_push_of_some _ (hk b ob e)
  refine ⟨.tup l, H, μ, Ext.grow (tk := s.toks) hk2, R.grow hk2, ?_, h⟩
  rw [VR]
  exact ⟨_, vs, 0, rfl, Heap.get?_push_size _ rfl, hlen, VRs.mono (fun c ws m t => hk2 _ _ t) (List.prefix_refl _) hvs⟩
theorem CB_list {n : Nat} {l : List V} (hn : H[n]? = some (.list l)) (h : Q (.loc H.length) (H ++ [.list l])) : CB G k (.type "list") [.loc n] H Q := by
  intro A E s μ vs hA R x
  rw [VRs] at x; obtain ⟨v, r, rfl, x, y⟩ := x; rw [VRs] at y; subst y
  rw [VR] at x; obtain ⟨a, rfl, ha⟩ := x
  obtain ⟨a', ha', vs, m, hl, hlen, hvs⟩ := R.obj n _ hn
  rw [ha] at ha'; cases ha'
  have hsz : vs.size = l.length := by have := hvs.length; simpa using this
  refine call_list_seq (hsz := by rw [hsz]; exact Nat.le_trans hlen lim_le) a (.inl rfl) hl rfl rfl fun h' c' hk hl' => ?_
  refine ⟨.loc H.length, _, μ ++ [s.heap.objs.size], Ext.alloc (tk := s.toks) (get_size_none _) hk, R.alloc (o := .list l) (get_size_none _) R.lowA hk ⟨vs, c', hl', hlen, VRs.mono (fun c ws m t => hk _ _ t) (List.prefix_append _ _) hvs⟩, ?_, h⟩
  rw [VR]; exact ⟨_, rfl, mem_last R.len⟩
end
end Mine

end

section
open PySem.AutoSeq1 (wpAny_loadPart')
open PySem.MeetsSeq PySem.MeetsSeq2 PySem.MeetsSeq3 PySem.SeqRoads2
namespace Mine
section
variable {G : Gh} {k : Nat} {sc : Scope} {ρ : Rho} {H : MH} {Q : V → MH → Prop}

theorem TE_Dict1 {kx vx : Expr} {pos : Pos} (h : TE G k sc kx ρ (H ++ [.dict [] 0]) fun ku H₁ => TE G k sc vx ρ H₁ fun vu H₂ => ∃ ks es ep, ku = .tup (ks.map .int) ∧ H₂[H.length]? = some (.dict es ep) ∧ es.length < lim ∧ ∀ ep', Q (.loc H.length) (H₂.set H.length (.dict (dput es ks vu) ep'))) :
    TE G k sc (.Dict [some kx] [vx] pos) ρ H Q := by
  intro env A E s μ hsc hA V R
  refine wpAny_Dict_any rfl rfl (by simp) (by simp) ?_
  obtain ⟨u₀, H₀, μ₀, X₀, R₀, x₀, e₀⟩ := Ret.dict0 (Q := fun u H' => u = .loc H.length ∧ H' = H ++ [.dict [] 0]) R ⟨rfl, rfl⟩
  obtain ⟨rfl, rfl⟩ := e₀
  have V₀ := V.ext X₀ R
  refine pairTrees_cons_walk (wpAny_mono (h env A E _ μ₀ hsc hA V₀ R₀) ?_ fun _ _ e => e)
  rintro kv s₁ ⟨ku, H₁, μ₁, X₁, R₁, x₁, q₁⟩
  have V₁ := V₀.ext X₁ R₀
  refine wpAny_mono (q₁ env A E s₁ μ₁ hsc hA V₁ R₁) ?_ fun _ _ e => e
  rintro vv s₂ ⟨vu, H₂, μ₂, X₂, R₂, x₂, ks, es, ep, rfl, hn, hl, hq⟩
  refine pairTrees_nil_walk ?_
  have xl := X₂.vr R₁ (X₁.vr R₀ x₀)
  rw [VR] at xl
  obtain ⟨a, ea, ha⟩ := xl
  have ea' : s.heap.objs.size = a := by injection ea
  subst ea'
  obtain ⟨a', ha', xs, hd, hlen, her⟩ := R₂.obj _ _ hn
  rw [ha] at ha'; cases ha'
  obtain ⟨ka, rfl, hka⟩ := (X₂.vr R₁ x₁).key
  unfold storeAll
  rw [List.forIn_cons]
  refine wpAny_bind (wpAny_bind (wpAny_dictSet_heap (knd := G.tk) (hsz := by rw [her.length]; exact Nat.le_trans hlen lim_le) hA.units hka.key hd.dict fun h' hm hs => ?_))
  obtain ⟨ep', hd'⟩ := hd.stored hka hm hs
  refine wpAny_pure ?_
  dsimp only
  rw [List.forIn_nil]
  refine wpAny_pure ?_
  have X := ((X₀.trans X₁).trans X₂).trans (Ext.put (tk := s₂.toks + G.tk.draws ks) (List.mem_of_getElem? ha) hs)
  refine ⟨_, _, μ₂, X, R₂.put (o' := .dict (dput es ks vu) ep') hn ha hs fun tk => ⟨_, hd', Nat.le_trans (dput_length _ _ _) (by (first | lia | omega)), ?_⟩, ?_, hq ep'⟩
  · obtain ⟨_, _, _, _, _, _, _, hnd⟩ := hd
    exact ER.put (VR.mono tk (List.prefix_refl _) x₂) (her.mono tk (List.prefix_refl _)) hnd
  · rw [VR]; exact ⟨_, rfl, ha⟩

theorem quietEq_tuple {A : Around} {E : Value → Shared → Prop} {s : Shared} {v : Value} {P : Bool → Shared → Prop} (hT : s.TypeIs v "tuple") (h : P false s) (hv : ∃ a, v = .ref a := by exact ⟨_, rfl⟩) : wpAny G.M A (Builtin.Dict.quietEq v) P E s := by
  obtain ⟨a, rfl⟩ := hv
  unfold Builtin.Dict.quietEq
  exact wpAny_bind (wpAny_specialOf hT F.slot_tuple_eq.lookup (wpAny_pure h))
-- dict(d), of at most one pair
theorem CB_dict {n ep : Nat} {es : Ent} (hn : H[n]? = some (.dict es ep)) (h1 : es.length ≤ 1) (h : ∀ ep', Q (.loc H.length) (H ++ [.dict es ep'])) : CB G k (.type "dict") [.loc n] H Q := by
  intro A E s μ vs hA R x
  rw [VRs] at x; obtain ⟨v, r, rfl, x, y⟩ := x; rw [VRs] at y; subst y
  rw [VR] at x; obtain ⟨a, rfl, ha⟩ := x
  obtain ⟨a', ha', xs, hd, hlen, her⟩ := R.obj n _ hn
  rw [ha] at ha'; cases ha'
  have hsm := (R.new a (List.mem_of_getElem? ha)).2
  obtain ⟨o, ees, ho, hc, hdat, he, hks, hnd⟩ := id hd
  have hxl : xs.length ≤ 1 := by rw [her.length]; exact h1
  have hesz : ees.size = xs.length := size_of_entries he
  have hda : s.heap.objs.size ≠ a := fun e => absurd (Heap.lt_size ho) (by rw [e]; exact Nat.lt_irrefl _)
  refine callType_codes (Q₁ := fun obj s₁ => obj = .ref s.heap.objs.size ∧ s₁ = { s with heap := s.heap.push { cls := .type "dict", data := .dict #[] } }) PySem.F.kt_called_dict (PySem.F.kt_typeCall_dict_1 _) PySem.F.entry_dict_init (kt_code_dict_new _ ⟨rfl, rfl⟩) ?_
  rintro obj s₁ ⟨rfl, rfl⟩
  generalize hnew : s.heap.push { cls := .type "dict", data := .dict #[] } = h₀
  have hk₀ : ∀ b ob, s.heap.get? b = some ob → h₀.get? b = some ob := by rw [← hnew]; exact push_keep _ _
  have hg₀ : h₀.get? s.heap.objs.size = some { cls := .type "dict", data := .dict #[] } := by rw [← hnew]; exact Heap.get?_push_size _ rfl
  have hT : Shared.TypeIs { s with heap := h₀ } (.ref s.heap.objs.size) "dict" := ⟨_, hg₀, rfl⟩
  have hTa : Shared.TypeIs { s with heap := h₀ } (.ref a) "dict" := ⟨_, hk₀ _ _ ho, hc.1⟩
  have done : ∀ (h' : Heap) (ep' : Nat), (∀ b ob, s.heap.get? b = some ob → h'.get? b = some ob) → (∃ o', h'.get? s.heap.objs.size = some o' ∧ o'.ExactDict ∧ o'.data = .dict ees ep') → Ret G μ s Q (.ref s.heap.objs.size) { s with heap := h' } := fun h' ep' hk ⟨o', ho', hc', hd'⟩ => by
    have tk : TKeep s.heap h' := fun c ws m t => hk _ _ t
    refine ⟨.loc H.length, _, μ ++ [s.heap.objs.size], Ext.alloc (tk := s.toks) (get_size_none _) hk, R.alloc (o := .dict es ep') (get_size_none _) R.lowA hk ⟨xs, ⟨o', ees, ho', hc', hd', he, fun y hy => ?_, hnd⟩, hlen, her.mono tk (List.prefix_append _ _)⟩, ?_, h ep'⟩
    · obtain ⟨ws, m, t, l, i⟩ := hks y hy
      exact ⟨ws, m, tk _ _ _ t, l, i⟩
    · rw [VR]; exact ⟨_, rfl, mem_last R.len⟩
  refine ⟨hT, PySem.F.args_dict_init_2 _ _, ?_⟩
  unfold Builtin.«dict.__init__»
  refine wpAny_bind ?_
  unfold Builtin.Dict.selfAndRest
  refine wpAny_bind (wpAny_notOrdered_dict hT ?_)
  show wpAny _ _ (pure (s.heap.objs.size, [Value.ref a])) _ _ _
  refine wpAny_pure ?_
  show wpAny _ _ (Builtin.Dict.updateFrom "dict.__init__" s.heap.objs.size (.ref a) [] .none) _ _ _
  unfold Builtin.Dict.updateFrom
  refine wpAny_bind (wpAny_typeOf hTa ?_)
  rw [if_neg (by decide)]
  refine wpAny_bind ?_
  unfold Builtin.Dict.merge
  refine wpAny_bind ?_
  unfold Builtin.Dict.readDirectly
  refine wpAny_bind (wpAny_isInstance hTa isSubtype_dict_dict ?_)
  simp only [Bool.not_true, Bool.false_eq_true, if_false]
  refine wpAny_bind (wpAny_specialOf hTa PySem.F.slot_dict_iter.lookup (wpAny_pure ?_))
  simp only [beq_self_eq_true, if_true]
  refine wpAny_bind (wpAny_pure ?_)
  unfold Builtin.Dict.mergeDict
  rw [if_neg (by simpa using hda)]
  unfold Builtin.Dict.showsAll
  rw [if_neg (by rw [hsm]; exact Bool.false_ne_true)]
  refine wpAny_bind (wpAny_pure (wpAny_bind (wpAny_dictEntries (s := { s with heap := h₀ }) (hk₀ _ _ ho) hdat ?_)))
  cases xs with
  | nil =>
    have e0 : ees = #[] := Array.toList_inj.mp (by rw [he]; rfl)
    subst e0
    dsimp only
    rw [if_neg (by simp)]
    refine wpAny_bind (wpAny_dictEpoch (s := { s with heap := h₀ }) (hk₀ _ _ ho) hdat (wpAny_bind (wpAny_dictEntries (s := { s with heap := h₀ }) (hk₀ _ _ ho) hdat ?_)))
    rw [Std.Legacy.Range.forIn_eq_forIn_range']
    simp only [Std.Legacy.Range.size, List.size_toArray, List.length_nil, Nat.sub_zero, Nat.add_sub_cancel, Nat.div_one, List.range'_zero, List.forIn_nil]
    exact wpAny_bind (wpAny_pure (wpAny_pure (wpAny_bind (wpAny_pure (wpAny_pure ⟨rfl, done h₀ 0 hk₀ ⟨_, hg₀, ⟨rfl, rfl, rfl⟩, rfl⟩⟩)))))
  | cons x xs' =>
    have : xs' = [] := by
      cases xs' with
      | nil => rfl
      | cons _ _ => simp at hxl
    subst this
    have e1 : ees = #[entryOfKey G.tk x] := Array.toList_inj.mp (by rw [he]; rfl)
    subst e1
    obtain ⟨xk, xa, xv⟩ := x
    obtain ⟨ws, wn, ht, hwl, hwi⟩ := hks _ List.mem_cons_self
    have hTx : Shared.TypeIs { s with heap := h₀ } (.ref xa) "tuple" := ⟨_, hk₀ _ _ ht, rfl⟩
    dsimp only
    rw [if_pos (by simp [entryOfKey, keyPart])]
    refine wpAny_bind (wpAny_dictEntries (s := { s with heap := h₀ }) hg₀ rfl ?_)
    rw [if_pos (by rfl)]
    unfold Builtin.Dict.entriesForEmpty
    refine wpAny_bind (wpAny_bind (wpAny_dictEntries (s := { s with heap := h₀ }) (hk₀ _ _ ho) hdat ?_))
    rw [← Array.forIn_toList]
    show wpAny _ _ (forIn [entryOfKey G.tk (xk, xa, xv)] _ _ >>= _) _ _ _
    rw [List.forIn_cons]
    refine wpAny_bind (wpAny_bind (wpAny_bind (quietEq_tuple hTx ?_)))
    rw [if_pos (by rfl), if_neg (by simp)]
    refine wpAny_pure ?_
    dsimp only
    rw [List.forIn_nil]
    refine wpAny_pure (wpAny_pure ?_)
    rw [if_pos (by rfl)]
    refine wpAny_bind (wpAny_updateDictKeys (s := { s with heap := h₀ }) (hf := by simp) hg₀ rfl (wpAny_pure (wpAny_bind (wpAny_pure (wpAny_pure ⟨rfl, done _ 1 (fun b ob e => ?_) ⟨_, Heap.get?_update_self _ hg₀ rfl, ⟨rfl, rfl, rfl⟩, rfl⟩⟩)))))
    exact (Heap.get?_update_other _ _ (fun q => by rw [← q, get_size_none] at e; cases e)).trans (hk₀ _ _ e)
end
end Mine

end

section
open PySem.AutoSeq1 (wpAny_loadPart')
open PySem.MeetsSeq PySem.MeetsSeq2 PySem.MeetsSeq3 PySem.SeqRoads2
namespace Mine
section
variable {G : Gh} {k : Nat} {sc : Scope} {ρ : Rho} {H : MH} {Q : V → MH → Prop}

-- d.pop(key, x), the dict of one pair
theorem pop_body {d ka : Addr} {ks : List Int} {kv : Value} {dflt : Value} {va : Addr} {ep : Nat} :
    MeetsIn G.prog G.w (Builtin.«dict.pop» ⟨[.ref d, .ref ka, dflt], []⟩) (fun A R s => G.tk.room A.in1 ∧ KeyAt G s.heap ks ka ∧ DictE G s.heap d [(ks, va, kv)] ep ∧
      ∀ h', Heap.SameBut d s.heap h' → (∃ o', h'.get? d = some o' ∧ o'.ExactDict ∧ o'.data = .dict #[] (ep + 1)) → R (.ok (.ret kv)) { s with heap := h', toks := s.toks + G.tk.draws ks }) :=
  .of_wp fun A R s ⟨hu, hka, hd, h⟩ => by
    obtain ⟨o, es, ho, hc, hdat, he, hk, hn⟩ := id hd
    have e1 : es = #[entryOfKey G.tk (ks, va, kv)] := Array.toList_inj.mp (by rw [he]; rfl)
    subst e1
    have fin : ∀ (P : Option DictEntry → Shared → Prop), (∀ h', Heap.SameBut d s.heap h' → (∃ o', h'.get? d = some o' ∧ o'.ExactDict ∧ o'.data = .dict #[] (ep + 1)) → P (some (entryOfKey G.tk (ks, va, kv))) { s with heap := h', toks := s.toks + G.tk.draws ks }) →
        wpAny G.M A.in1 (Builtin.Dict.takeOut d (.ref ka)) P (fun e s' => R (.error e) s') s := fun P hP => by
      unfold Builtin.Dict.takeOut
      try with_reducible refine wpAny_holding ?_
      refine wpAny_bind (G.tk.pyHash hu hka.key ?_)
      refine wpAny_bind (wpAny_dictFind_heap (knd := G.tk) (s := { s with toks := s.toks + G.tk.draws ks }) hu hka.key ho hdat he (fun y hy => (hk y hy).key) hn (fun hno => absurd rfl (hno 0 (va, kv))) fun j p hj => ?_)
      have hj0 : j = 0 := by
        cases j with
        | zero => rfl
        | succ j => simp at hj
      subst hj0
      refine wpAny_bind (wpAny_dictEntries (s := { s with toks := s.toks + G.tk.draws ks }) ho hdat ?_)
      refine wpAny_bind (wpAny_updateDictKeys (hz := by simp [sizeLine]) (s := { s with toks := s.toks + G.tk.draws ks }) ho hdat (wpAny_pure (hP _ (Heap.SameBut.update ..) ?_)))
      exact ⟨_, Heap.get?_update_self _ ho (Obj.isFreed_of_dict (Obj.data_mapDictKeys hdat _)), hc.mapDictKeys _, (Obj.data_mapDictKeys hdat _).trans (by simp [Array.eraseIdxIfInBounds, Array.eraseIdx])⟩
    unfold Builtin.«dict.pop»
    refine wpAny_bind ?_
    unfold Builtin.Dict.keyAndDefault
    refine wpAny_bind (wpAny_notOrdered_dict ⟨o, ho, hc.1⟩ ?_)
    show wpAny _ _ (pure (d, Value.ref ka, some dflt)) _ _ s
    refine wpAny_pure ?_
    dsimp only
    rw [if_neg (by simp [keyPart])]
    refine wpAny_bind (wpAny_dictEntries ho hdat (wpAny_bind (wpAny_pure ?_)))
    rw [if_neg (by simp)]
    refine wpAny_bind (fin _ fun h' hs ho' => ?_)
    simp only [Option.isNone_some, Bool.false_eq_true, if_false]
    exact wpAny_bind (wpAny_letGo (wpAny_pure ⟨_, rfl, h h' hs ho'⟩))
theorem CB_pop1 {n ep : Nat} {ks : List Int} {u x : V} (hn : H[n]? = some (.dict [(ks, u)] ep)) (h : ∀ ep', Q u (H.set n (.dict [] ep'))) : CB G k (.builtin "dict.pop") [.loc n, .tup (ks.map .int), x] H Q := by
  intro A E s μ vs hA R y
  rw [VRs] at y; obtain ⟨v, r, rfl, y1, y⟩ := y; rw [VRs] at y; obtain ⟨v2, r2, rfl, y2, y⟩ := y; rw [VRs] at y; obtain ⟨v3, r3, rfl, y3, y⟩ := y; rw [VRs] at y; subst y
  rw [VR] at y1; obtain ⟨a, rfl, ha⟩ := y1
  obtain ⟨ka, rfl, hka⟩ := y2.key
  obtain ⟨a', ha', xs, hd, hlen, her⟩ := R.obj n _ hn
  rw [ha] at ha'; cases ha'
  obtain ⟨va, kv, r, rfl, hr, hr2⟩ := her
  rw [ER] at hr2; subst hr2
  refine call_meetsIn F.slot_dict_pop hd.dict.typeIs F.entry_dict_pop (F.args_dict_pop_3 _ _ _) (pop_body (ks := ks) (va := va) (kv := kv) (ep := ep) (dflt := v3)) ⟨hA.units1, hka, hd, fun h' hs ⟨o', ho', hc', hd'⟩ => ?_⟩
  have X := Ext.put (tk := s.toks + G.tk.draws ks) (List.mem_of_getElem? ha) hs
  refine ⟨u, _, μ, X, R.put (o' := .dict [] (ep + 1)) hn ha hs fun tk => ⟨[], ⟨o', #[], ho', hc', hd', rfl, fun _ hx => (nomatch hx), List.nodup_nil⟩, by simp [lim], rfl⟩, X.vr R hr, h _⟩

-- a method of a dict
theorem TE_MethodD {o e : Expr} {es : List Expr} {name : Str} {id : String} {apos pos : Pos} (slot : Slot "dict" name id) (hty : typeOf (.builtin id) = pure (.type "method_descriptor"))
    (h : TE G k sc o ρ H fun vo H₁ => (∃ n es ep, vo = .loc n ∧ H₁[n]? = some (.dict es ep)) ∧ TEs G k sc (e :: es) ρ H₁ fun us H₂ => CB G k (.builtin id) (vo :: us) H₂ Q)
    (hbase : ∀ env, attributeBase o name env (eval o env) = eval o env := by intro _; rfl)
    (hfew : ∀ env, ((backTo pos (starEach (e :: es) env)).all (fun x => !x.1) && (backToKw pos (keywordEach [] env)).all (fun x => x.1.isSome)
      && decide ((e :: es).length + ([] : List Keyword).length + (if ([] : List Keyword).isEmpty then 0 else 1) < 30)) = true := by intro _; rfl)
    (hline : (apos.endLine == pos.line) = true := by rfl) (he : ∀ env, starEach (e :: es) env = (false, eval e env) :: starEach es env := by intro _; rfl)
    (hp : ∀ env, (backTo pos (starEach (e :: es) env)).any (·.1) = false := by intro _; rfl) :
    TE G k sc (.Call (.Attribute o name apos) (e :: es) [] pos) ρ H Q := by
  intro env A E s μ hsc hA V R
  refine wpAny_Call_method (hbase env) (hfew env) hline PySem.F.plainAttrs_dict slot hty (wpAny_mono (h env A E s μ hsc hA V R) ?_ fun _ _ e => e)
  rintro ov s₁ ⟨vo, H₁, μ₁, X, R₁, x, ⟨n, ees, ep, rfl, hn⟩, q⟩
  have x' := x
  rw [VR] at x; obtain ⟨a, rfl, ha⟩ := x
  obtain ⟨a', ha', xs, hd, hlen, her⟩ := R₁.obj n _ hn
  rw [ha] at ha'; cases ha'
  refine ⟨hd.dict.typeIs, dictOfH_noDict hd.dict, callWith_builtin (hp env) (args_of (he env) (wpAny_mono (q env A E s₁ μ₁ pos hsc hA (V.ext X R) R₁) ?_ fun _ _ e => e))⟩
  rintro vs s₂ ⟨us, H₂, μ₂, X₂, R₂, y, q₂⟩
  exact wpAny_mono (q₂ A E s₂ μ₂ _ hA R₂ (VRs.cons (X₂.vr R₁ x') y)) (fun v s'' => Ret.up (X.trans X₂) v s'') fun _ _ e => e

-- l.pop()
theorem TE_PopL {o : Expr} {apos pos : Pos} (h : TE G k sc o ρ H fun vo H₁ => ∃ n l u, vo = .loc n ∧ H₁[n]? = some (.list (l ++ [u])) ∧ Q u (H₁.set n (.list l)))
    (hbase : ∀ env, attributeBase o "pop" env (eval o env) = eval o env := by intro _; rfl) (hline : (apos.endLine == pos.line) = true := by rfl) :
    TE G k sc (.Call (.Attribute o "pop" apos) [] [] pos) ρ H Q := by
  intro env A E s μ hsc hA V R
  refine wpAny_Call_method (hbase env) rfl hline PySem.F.plainAttrs_list PySem.F.slot_list_pop PySem.F.type_list_pop (wpAny_mono (h env A E s μ hsc hA V R) ?_ fun _ _ e => e)
  rintro ov s₁ ⟨vo, H₁, μ₁, X, R₁, x, n, l, u, rfl, hn, q⟩
  rw [VR] at x; obtain ⟨a, rfl, ha⟩ := x
  obtain ⟨a', ha', vs, m, hl, hlen, hvs⟩ := R₁.obj n _ hn
  rw [ha] at ha'; cases ha'
  have hsz : vs.size = l.length + 1 := by have := hvs.length; simpa using this
  obtain ⟨v, hv, hr⟩ := hvs.get (i := l.length) (u := u) (by simp)
  refine ⟨⟨_, hl, rfl⟩, fun b e => (by injection e with e; subst e; exact ⟨_, hl, rfl⟩), PySem.P.pop_list (hsz := by rw [hsz]; simp at hlen; simp [sizeLine]; have : lim = 1000 := rfl; (first | lia | omega)) hl (y := v) (by rw [hsz]; simpa using hv) ?_⟩
  have hs : Heap.SameBut a s₁.heap (s₁.heap.update a (Obj.mapSeq fun xs => xs.eraseIdxIfInBounds (vs.size - 1))) := Heap.SameBut.update ..
  have X₂ := Ext.put (tk := s₁.toks) (List.mem_of_getElem? ha) hs
  refine ⟨u, _, μ₁, X.trans X₂, R₁.put (o' := .list l) hn ha hs fun tk => ⟨_, _, hl.update _, by simp at hlen; (first | lia | omega), ?_⟩, X₂.vr R₁ hr, q⟩
  have e : (vs.eraseIdxIfInBounds (vs.size - 1)).toList = vs.toList.take l.length := by
    have hlt : l.length < vs.size := by (first | lia | omega)
    have e0 : vs.size - 1 = l.length := by (first | lia | omega)
    rw [e0, Array.eraseIdxIfInBounds, dif_pos hlt, Array.toList_eraseIdx]
    rw [List.eraseIdx_eq_take_drop_succ]
    rw [List.drop_of_length_le (by simp; (first | lia | omega))]
    simp
  rw [e]
  have := VRs.take l.length (VRs.mono tk (List.prefix_refl _) hvs)
  simpa using this
end
end Mine

end

section
open PySem.MeetsSeq PySem.MeetsSeq2 PySem.MeetsSeq3 PySem.SeqRoads2
namespace Mine
section
variable {G : Gh} {k : Nat} {sc : Scope} {ρ : Rho} {H : MH} {Q : V → MH → Prop}

noncomputable def sliceObj (vl vu : Value) : Obj := { cls := .type "slice", data := .fields #[vl, vu, .none] }
noncomputable def PSlice (G : Gh) (k : Nat) (o : V) (lo hi : Option Int) (H : MH) (Q : V → MH → Prop) : Prop :=
  ∀ (A : Around) (E : Value → Shared → Prop) (s : Shared) (μ : List Addr) (vo vl vu : Value), AOk k A → HRel G H μ s.heap → VR G.hb μ s.heap o vo → IsPart vl lo → IsPart vu hi →
    ∃ T id, Shared.TypeIs { s with heap := s.heap.push (sliceObj vl vu) } vo T ∧ typeLookup (.type T) "__getitem__" = pure (some (.builtin id)) ∧
      wpAny G.M A (getItem vo (.ref s.heap.objs.size)) (Ret G μ s Q) E { s with heap := s.heap.push (sliceObj vl vu) }
theorem TE_SliceTo {o hi : Expr} {p pos : Pos} (h : TE G k sc o ρ H fun vo H₁ => TE G k sc hi ρ H₁ fun u H₂ => ∃ i, u = .int i ∧ PSlice G k vo none (some i) H₂ Q) : TE G k sc (.Subscript o (.Slice none (some hi) none p) pos) ρ H Q := by
  intro env A E s μ hs hA V R
  refine PyProof.Rows.Subscript_ (wpAny_mono (h env A E s μ hs hA V R) ?_ fun _ _ e => e)
  rintro vo s₁ ⟨uo, H₁, μ₁, X₁, R₁, x₁, q₁⟩
  refine wpAny_Slice (wpAny_evalPart_none (wpAny_evalPart_some (wpAny_mono (q₁ env A E s₁ μ₁ hs hA (V.ext X₁ R) R₁) ?_ fun _ _ e => e)))
  rintro vu s₂ ⟨u, H₂, μ₂, X₂, R₂, x₂, i, rfl, q₂⟩
  rw [VR] at x₂; obtain ⟨t, rfl⟩ := x₂
  refine wpAny_evalPart_none ?_
  obtain ⟨T, id, hT, hl, hg⟩ := q₂ A E s₂ μ₂ vo .none (.int i t) hA R₂ (X₂.vr R₁ x₁) .none (.int i t)
  obtain ⟨ops, ho⟩ := subscripted_any (.Slice none (some hi) none p) vo (.ref s₂.heap.objs.size)
  exact tail_any hT hl (wpAny_mono hg (fun v s'' => Ret.up (X₁.trans X₂) v s'') fun _ _ e => e) ho
theorem TE_SliceFrom {o lo : Expr} {p pos : Pos} (h : TE G k sc o ρ H fun vo H₁ => TE G k sc lo ρ H₁ fun u H₂ => ∃ i, u = .int i ∧ PSlice G k vo (some i) none H₂ Q) : TE G k sc (.Subscript o (.Slice (some lo) none none p) pos) ρ H Q := by
  intro env A E s μ hs hA V R
  refine PyProof.Rows.Subscript_ (wpAny_mono (h env A E s μ hs hA V R) ?_ fun _ _ e => e)
  rintro vo s₁ ⟨uo, H₁, μ₁, X₁, R₁, x₁, q₁⟩
  refine wpAny_Slice (wpAny_evalPart_some (wpAny_mono (q₁ env A E s₁ μ₁ hs hA (V.ext X₁ R) R₁) ?_ fun _ _ e => e))
  rintro vu s₂ ⟨u, H₂, μ₂, X₂, R₂, x₂, i, rfl, q₂⟩
  rw [VR] at x₂; obtain ⟨t, rfl⟩ := x₂
  refine wpAny_evalPart_none (wpAny_evalPart_none ?_)
  obtain ⟨T, id, hT, hl, hg⟩ := q₂ A E s₂ μ₂ vo (.int i t) .none hA R₂ (X₂.vr R₁ x₁) (.int i t) .none
  obtain ⟨ops, ho⟩ := subscripted_any (.Slice (some lo) none none p) vo (.ref s₂.heap.objs.size)
  exact tail_any hT hl (wpAny_mono hg (fun v s'' => Ret.up (X₁.trans X₂) v s'') fun _ _ e => e) ho

theorem slice_list_go {A : Around} {E : Value → Shared → Prop} {s : Shared} {μ : List Addr} {a : Addr} {vs : Array Value} {l l' : List V} {vl vu : Value} {lo hi : Option Int} (R : HRel G H μ s.heap) (hl : s.heap.IsList a vs) (hlen : l.length ≤ lim) (hvs : VRs G.hb μ s.heap l vs.toList) (pl : IsPart vl lo) (pu : IsPart vu hi)
    (hp : ∀ h', VRs G.hb μ h' l vs.toList → VRs G.hb μ h' l' (slicePick vs lo hi none).toList) (hl' : l'.length ≤ lim) (q : Q (.loc H.length) (H ++ [.list l'])) :
    wpAny G.M A (getItem (.ref a) (.ref s.heap.objs.size)) (Ret G μ s Q) E { s with heap := s.heap.push (sliceObj vl vu) } := by
  have hsz : vs.size = l.length := by have := hvs.length; simpa using this
  have hk := push_keep s.heap (sliceObj vl vu)
  have X : Ext μ s μ { s with heap := s.heap.push (sliceObj vl vu) } := Ext.grow (tk := s.toks) hk
  refine wpAny_getItem_list_slice (hsz := by rw [hsz]; exact Nat.le_trans hlen lim_le) (s := { s with heap := s.heap.push (sliceObj vl vu) }) (hl.push _) (Heap.IsSliceOf.new ..) pl pu .none (by simp) ?_
  have := Ret.list (Q := Q) (s := { s with heap := s.heap.push (sliceObj vl vu) }) (R.grow hk) (hp _ (X.vrs R hvs)) hl' q
  exact Ret.up X _ _ this
theorem PSl_to {n : Nat} {l : List V} {i : Int} (hn : H[n]? = some (.list l)) (h0 : 0 ≤ i) (h : Q (.loc H.length) (H ++ [.list (l.take i.toNat)])) : PSlice G k (.loc n) none (some i) H Q := by
  intro A E s μ vo vl vu hA R x pl pu
  rw [VR] at x; obtain ⟨a, rfl, ha⟩ := x
  obtain ⟨a', ha', vs, m, hl, hlen, hvs⟩ := R.obj n _ hn
  rw [ha] at ha'; cases ha'
  refine ⟨"list", _, (Heap.IsList.push (IsL.isList hl) _).typeIs, list_getitem_lookup, slice_list_go R (IsL.isList hl) hlen hvs pl pu (fun h' z => ?_) (Nat.le_trans (by rw [List.length_take]; exact Nat.min_le_right _ _) hlen) h⟩
  obtain ⟨j, rfl⟩ := Int.eq_ofNat_of_zero_le h0
  rw [show some (j : Int) = some ((j : Nat) : Int) from rfl, slicePick_upto']
  exact z.take j
theorem PSl_but1 {n : Nat} {l : List V} (hn : H[n]? = some (.list l)) (h : Q (.loc H.length) (H ++ [.list l.dropLast])) : PSlice G k (.loc n) none (some (-1)) H Q := by
  intro A E s μ vo vl vu hA R x pl pu
  rw [VR] at x; obtain ⟨a, rfl, ha⟩ := x
  obtain ⟨a', ha', vs, m, hl, hlen, hvs⟩ := R.obj n _ hn
  rw [ha] at ha'; cases ha'
  have hsz : vs.size = l.length := by have := hvs.length; simpa using this
  refine ⟨"list", _, (Heap.IsList.push (IsL.isList hl) _).typeIs, list_getitem_lookup, slice_list_go R (IsL.isList hl) hlen hvs pl pu (fun h' z => ?_) (by simp; (first | lia | omega)) h⟩
  have := slicePick_butLast vs 1 (Nat.le_refl 1)
  rw [show (-((1 : Nat) : Int)) = -1 from rfl] at this
  rw [this, hsz, List.dropLast_eq_take]
  exact z.take _
theorem PSl_base {l : List V} {i : Int} (h0 : 0 ≤ i) (h : Q (.loc H.length) (H ++ [.list (l.take i.toNat)])) : PSlice G k (.base l) none (some i) H Q := by
  intro A E s μ vo vl vu hA R x pl pu
  rw [VR] at x; obtain ⟨a, vs, rfl, ⟨o, ho, hc, m, hd⟩, hlen, hvs⟩ := x
  have hl : s.heap.IsList a vs := ⟨o, R.base _ _ ho, hc, m, hd⟩
  refine ⟨"list", _, (Heap.IsList.push hl _).typeIs, list_getitem_lookup, slice_list_go R hl hlen hvs pl pu (fun h' z => ?_) (Nat.le_trans (by rw [List.length_take]; exact Nat.min_le_right _ _) hlen) h⟩
  obtain ⟨j, rfl⟩ := Int.eq_ofNat_of_zero_le h0
  rw [show some (j : Int) = some ((j : Nat) : Int) from rfl, slicePick_upto']
  exact z.take j

-- the part of a tuple
noncomputable def tupPick (l : List V) (a : Int) (m : Nat) : List V := (List.range m).filterMap fun (i : Nat) => l[(a + (i : Int) * 1).toNat]?
theorem VRs.pick {hb : Heap} {μ : List Addr} {h : Heap} {l : List V} {vs : List Value} (x : VRs hb μ h l vs) (f : Nat → Nat) : ∀ (is : List Nat), VRs hb μ h (is.filterMap fun i => l[f i]?) (is.filterMap fun i => vs[f i]?)
  | [] => VRs.nil
  | i :: is => by
    have ih := VRs.pick x f is
    rw [List.filterMap_cons, List.filterMap_cons]
    cases q : l[f i]? with
    | some u =>
      obtain ⟨v, hv, hr⟩ := x.get q
      rw [hv]
      exact VRs.cons hr ih
    | none =>
      have : vs[f i]? = Option.none := by rw [List.getElem?_eq_none_iff] at q ⊢; rw [x.length]; exact q
      rw [this]; exact ih
theorem slicePart_of {A : Around} {E : Value → Shared → Prop} {s : Shared} {v : Value} {lo : Option Int} {P : Option Int → Shared → Prop} (pl : IsPart v lo) (h : P lo s) : wpAny G.M A (Builtin.Slice.slicePartIndex v) P E s := by
  cases pl with
  | none => exact slicePart_none h
  | int i t => exact slicePart_int h
theorem PSl_tup {l : List V} {lo hi : Option Int} {a b : Int} {m : Nat} (hadj : Builtin.Slice.sliceAdjust lo hi 1 l.length = (a, b)) (hpl : Builtin.Slice.slicePlaces a b 1 = m) (hno : (a == 0 && (1 : Int) == 1 && m == l.length) = false) (hm : m ≤ lim) (h : Q (.tup (tupPick l a m)) H) :
    PSlice G k (.tup l) lo hi H Q := by
  intro A E s μ vo vl vu hA R x pl pu
  rw [VR] at x; obtain ⟨t, vs, n, rfl, ht, hlen, hvs⟩ := x
  have hsz : vs.size = l.length := by have := hvs.length; simpa using this
  have hk := push_keep s.heap (sliceObj vl vu)
  have X : Ext μ s μ { s with heap := s.heap.push (sliceObj vl vu) } := Ext.grow (tk := s.toks) hk
  have hIs : Shared.TypeIs { s with heap := s.heap.push (sliceObj vl vu) } (.ref s.heap.objs.size) "slice" := ⟨_, Heap.get?_push_size _ rfl, rfl⟩
  have hos : (s.heap.push (sliceObj vl vu)).get? s.heap.objs.size = some (sliceObj vl vu) := Heap.get?_push_size _ rfl
  have ht' : IsTup (s.heap.push (sliceObj vl vu)) t vs := IsT.isTup (hk _ _ ht)
  refine ⟨"tuple", _, ht'.typeIs, slot_tuple_getitem.lookup, ?_⟩
  unfold getItem
  try with_reducible refine wpAny_holding ?_
  refine wpAny_bind (wpAny_sequenceKey ht'.typeIs (by decide) ?_)
  refine wpAny_bind (wpAny_callSpecial?_slot (name := Str.ofString "__getitem__") ht'.typeIs slot_tuple_getitem
    (wpAny_call_entry slot_tuple_getitem ht'.typeIs entry_tuple_getitem ?_ (args_tuple_getitem _ _)))
  show wpAny _ _ (Builtin.Tuple.tupleItemsOf (.ref t) >>= _) _ _ _
  refine wpAny_bind (tupleItemsOf_ ht' (wpAny_bind (wpAny_typeOf hIs ?_)))
  rw [if_pos (by decide)]
  have app : ∀ (P : Int × Int × Nat → Shared → Prop) (E' : Value → Shared → Prop), P (a, 1, m) { s with heap := s.heap.push (sliceObj vl vu) } → wpAny G.M A.in1 (Builtin.Slice.sliceApplied (.ref s.heap.objs.size) (pure (vs.size : Int))) P E' { s with heap := s.heap.push (sliceObj vl vu) } := fun P E' hP => by
    unfold Builtin.Slice.sliceApplied Builtin.Slice.sliceFields
    refine wpAny_bind (wpAny_bind (wpAny_field hos rfl (x := vl) rfl (wpAny_bind (wpAny_field hos rfl (x := vu) rfl (wpAny_bind (wpAny_field hos rfl (x := .none) rfl (wpAny_pure ?_)))))))
    refine wpAny_bind (slicePart_none ?_)
    show wpAny _ _ (if ((1 : Int) == 0) = true then _ else _) _ _ _
    rw [if_neg (by decide)]
    refine wpAny_bind (slicePart_of pl (wpAny_bind (slicePart_of pu (wpAny_bind (wpAny_pure ?_)))))
    show wpAny _ _ (match Builtin.Slice.sliceAdjust lo hi 1 (vs.size : Int) with | (lo, hi) => pure (lo, (1 : Int), Builtin.Slice.slicePlaces lo hi 1)) _ _ _
    rw [hsz, hadj]
    show wpAny _ _ (pure (a, (1 : Int), Builtin.Slice.slicePlaces a b 1)) _ _ _
    rw [hpl]
    exact wpAny_pure hP
  refine wpAny_bind (app _ _ ?_)
  show wpAny _ _ (if (a == 0 && (1 : Int) == 1 && m == vs.size) = true then _ else _) _ _ _
  rw [if_neg (by rw [hsz, hno]; exact Bool.false_ne_true)]
  have hpick : VRs G.hb μ (s.heap.push (sliceObj vl vu)) (tupPick l a m) ((List.range m).filterMap fun (i : Nat) => vs[(a + (i : Int) * 1).toNat]?) := by
    have := VRs.pick (X.vrs R hvs) (fun i => (a + (i : Int) * 1).toNat) (List.range m)
    simpa [tupPick] using this
  have hlen' : ((List.range m).filterMap fun (i : Nat) => vs[(a + (i : Int) * 1).toNat]?).length ≤ m := by
    have := List.length_filterMap_le (fun (i : Nat) => vs[(a + (i : Int) * 1).toNat]?) (List.range m)
    simpa using this
  have fin := Ret.up X _ _ (Ret.tuple (Q := Q) (s := { s with heap := s.heap.push (sliceObj vl vu) }) (R.grow hk) hpick (by rw [← hpick.length]; (first | lia | omega)) h)
  have hszz : sizeOk (.seq ((List.range m).filterMap fun (i : Nat) => vs[(a + (i : Int) * 1).toNat]?).toArray) := by
    show (List.toArray _).size ≤ sizeLine
    rw [List.size_toArray]; exact Nat.le_trans hlen' (Nat.le_trans hm lim_le)
  first
    | exact wpAny_bind (m := Builtin.Tuple.tupleExact _) (wpAny_newObj_type (wpAny_pure ⟨_, rfl, wpAny_pure fin⟩) hszz)
    | exact wpAny_bind (wpAny_bind (m := Builtin.Tuple.tupleExact _) (wpAny_newObj_type (wpAny_pure (wpAny_pure ⟨_, rfl, wpAny_pure fin⟩)) hszz))
    | exact wpAny_bind (wpAny_bind (m := Builtin.Tuple.tupleExact _) (wpAny_newObj_type (wpAny_pure ⟨_, rfl, wpAny_pure fin⟩) hszz))
end
end Mine

end

section
open PySem.MeetsSeq PySem.MeetsSeq2 PySem.MeetsSeq3 PySem.SeqRoads2
namespace Mine
section
variable {G : Gh} {k : Nat} {sc : Scope} {ρ : Rho} {H : MH} {Q : V → MH → Prop}

theorem intsAre {hb : Heap} {μ : List Addr} {h : Heap} : ∀ {xs : List Int} {vs : List Value}, VRs hb μ h (xs.map .int) vs → IntsAre vs xs
  | [], vs, x => by rw [List.map_nil, VRs] at x; subst x; exact .nil
  | a :: xs, vs, x => by
    rw [List.map_cons, VRs] at x
    obtain ⟨v, r, rfl, p, q⟩ := x
    rw [VR] at p; obtain ⟨t, rfl⟩ := p
    exact .cons a t (intsAre q)
theorem PB_lne {n m : Nat} {xs ys : List Int} (hn : H[n]? = some (.list (xs.map .int))) (hm : H[m]? = some (.list (ys.map .int))) (h : Q (.bool (!decide (xs = ys))) H) : PBin G k (compareOp .NotEq) (.loc n) (.loc m) H Q := by
  intro A E s μ vo vi hA R x1 x2
  rw [VR] at x1; rw [VR] at x2
  obtain ⟨a, rfl, ha⟩ := x1; obtain ⟨b, rfl, hb⟩ := x2
  obtain ⟨a', ha', vs, m1, hla, hlen, hvs⟩ := R.obj n _ hn
  obtain ⟨b', hb', vs2, m2, hlb, hlen2, hvs2⟩ := R.obj m _ hm
  rw [ha] at ha'; cases ha'; rw [hb] at hb'; cases hb'
  have hu : A.units + 64 < cLine := by have := hA.2.2; simp only [cLine]; (first | lia | omega)
  exact ke_ne_ints (xs := vs.toList) (ys := vs2.toList) (IsL.isList hla) (IsL.isList hlb) (intsAre hvs) (intsAre hvs2) hu (Ret.here R vBool h)

-- range(..)
theorem TI_range (B : G.Ok) {e : Expr} {es : List Expr} {p pos : Pos} {Q : Src → MH → Prop} (hk : sc.names.lookup ("range" : Str) = some .globalImplicit) (hn : G.mg ("range" : Str) = none)
    (h : TEs G k sc (e :: es) ρ H fun us H' => ∃ a b c n, (us = [.int b] ∧ a = 0 ∧ c = 1 ∨ us = [.int a, .int b, .int c] ∧ c ≠ 0 ∧ c.natAbs < 1000) ∧ Builtin.Range.small a b c = true ∧ Builtin.Range.rangeSize a b c = (n : Nat) ∧ Q (.range a c n) H')
    (he : ∀ env, starEach (e :: es) env = (false, eval e env) :: starEach es env := by intro _; rfl) (hp : ∀ env, (backTo pos (starEach (e :: es) env)).any (·.1) = false := by intro _; rfl) : TI G k sc (.Call (.Name "range" p) (e :: es) [] pos) ρ H Q := by
  intro env A E s μ hsc hA V R
  refine Call_Name rfl (wpAny_builtinName B V R (by rw [Env.kindOf, hsc]; exact hk) hn boot_range ?_)
  refine PySem.callWith_type (hp env) (args_of (he env) (wpAny_mono (h env A E s μ pos hsc hA V R) ?_ fun _ _ e => e))
  rintro vs s₁ ⟨us, H₁, μ₁, X, R₁, x, a, b, c, n, hus, hsmall, hsize, q⟩
  have fin : ∀ (t u v : Tok) (tk : Nat), wpAny G.M A (pyIter (.ref s₁.heap.objs.size)) (fun it s₂ => ∃ src I P H' μ', it = .ref I ∧ Ext μ s μ' s₂ ∧ HRel G H' μ' s₂.heap ∧ IterSt G src 0 I P μ' s₂.heap ∧ POk G P μ' s₂.heap ∧ (∀ a ∈ P, s.heap.get? a = none) ∧ Q src H') E
      { s₁ with heap := s₁.heap.push { cls := .type "range", data := .fields #[.int a t, .int b u, .int c v] }, toks := tk } := fun t u v tk => by
    have hk₁ := push_keep s₁.heap { cls := .type "range", data := .fields #[.int a t, .int b u, .int c v] }
    generalize hh : s₁.heap.push { cls := .type "range", data := .fields #[.int a t, .int b u, .int c v] } = h₁ at hk₁
    have hr : IsRange h₁ s₁.heap.objs.size a b c t u v := by rw [← hh]; exact Heap.get?_push_size _ rfl
    have X₁ : Ext μ₁ s₁ μ₁ { s₁ with heap := h₁, toks := tk } := Ext.grow hk₁
    have R' := R₁.grow hk₁
    refine wpAny_pyIter_range (s := { s₁ with heap := h₁, toks := tk }) hr hsmall ?_
    generalize ho : ({ cls := .type "range_iterator", data := .fields #[rawInt a, rawInt (Builtin.Range.rangeSize a b c), rawInt c] } : Obj) = o
    have hk₂ := push_keep h₁ o
    have hI : (h₁.push o).get? h₁.objs.size = some o := by rw [← ho]; exact Heap.get?_push_size _ rfl
    refine ⟨.range a c n, h₁.objs.size, _, H₁, μ₁, rfl, (X.trans X₁).trans (Ext.grow (s := { s₁ with heap := h₁, toks := tk }) (tk := tk) hk₂), R'.grow hk₂, ⟨rfl, ?_⟩, fun d hd => ?_, fun d hd => ?_, q⟩
    · show (h₁.push o).get? _ = _
      rw [hI, ← ho, hsize]; simp
    · rw [List.mem_singleton] at hd; subst hd
      exact ⟨notIn_of_none R' (get_size_none _), base_none R' (get_size_none _), o, hI, by rw [← ho]; intro _ _ e; cases e⟩
    · rw [List.mem_singleton] at hd; subst hd
      exact (X.trans X₁).none R R' (get_size_none _)
  rcases hus with ⟨rfl, rfl, rfl⟩ | ⟨rfl, hc, hc'⟩
  · rw [VRs] at x; obtain ⟨v, r, rfl, x, y⟩ := x; rw [VRs] at y; subst y
    rw [VR] at x; obtain ⟨t, rfl⟩ := x
    exact call_range_1 (fin _ _ _ _)
  · rw [VRs] at x; obtain ⟨v, r, rfl, x, y⟩ := x; rw [VRs] at y; obtain ⟨v2, r2, rfl, y, z⟩ := y; rw [VRs] at z; obtain ⟨v3, r3, rfl, z, z2⟩ := z; rw [VRs] at z2; subst z2
    rw [VR] at x; obtain ⟨t, rfl⟩ := x; rw [VR] at y; obtain ⟨u, rfl⟩ := y; rw [VR] at z; obtain ⟨v, rfl⟩ := z
    exact call_range_3 hc (fin _ _ _ _) (.inl (PyProof.noPylong_small (by (first | lia | omega))))

-- dicts of the same pairs are equal
noncomputable def Gh.at (G : Gh) (prog : Program) (w : World) : Gh := { G with prog := prog, w := w }
theorem KeyAt.at {h : Heap} {ks : List Int} {a : Addr} (x : KeyAt G h ks a) (prog : Program) (w : World) : KeyAt (G.at prog w) h ks a := by
  obtain ⟨vs, n, t, l, i⟩ := x
  exact ⟨vs, n, t, l, items_of (μ := []) (hb := h) (h := h) (of_items i)⟩
theorem hash_at (ks : List Int) (prog : Program) (w : World) : G.tk.hash ks = (G.at prog w).tk.hash ks := rfl
theorem DictE.at {h : Heap} {a : Addr} {xs : List (List Int × Addr × Value)} {ep : Nat} (x : DictE G h a xs ep) (prog : Program) (w : World) : DictE (G.at prog w) h a xs ep := by
  obtain ⟨o, es, ho, hc, hd, he, hk, hn⟩ := x
  exact ⟨o, es, ho, hc, hd, he, fun y hy => (hk y hy).at prog w, hn⟩

noncomputable def Flats (es : Ent) : Prop := ∀ e ∈ es, ∃ xs : List Int, e.2 = .tup (xs.map .int)
theorem val_eqAt {A : Around} {s : Shared} {μ : List Addr} {xs : List Int} {v v' : Value} (x : VR G.hb μ s.heap (.tup (xs.map .int)) v) (y : VR G.hb μ s.heap (.tup (xs.map .int)) v') (hu : A.units < cLine) : SeqAt.EqAt A s v v' true := by
  rw [VR] at x; rw [VR] at y
  obtain ⟨a, vs, n, rfl, t, hlen, hvs⟩ := x; obtain ⟨b, us, m, rfl, t2, hlen2, hvs2⟩ := y
  by_cases hab : a = b
  · subst hab; exact SeqAt.EqAt.same _
  · have := tup_eqAt t t2 hvs hvs2 hu
    rw [decide_eq_true rfl] at this
    exact SeqAt.EqAt.of_refs hab this
theorem ER.getI {μ : List Addr} {h : Heap} : ∀ {es : Ent} {xs : List (List Int × Addr × Value)}, ER G μ h es xs → ∀ (i : Nat) (e : List Int × V), es[i]? = some e → ∃ a v, xs[i]? = some (e.1, a, v) ∧ VR G.hb μ h e.2 v
  | [], _, x, i, e, q => by simp at q
  | e :: es, _, x, i, e', q => by
    obtain ⟨a, v, r, rfl, p, y⟩ := x
    cases i with
    | zero => simp at q; subst q; exact ⟨a, v, rfl, p⟩
    | succ i => simp at q; simpa using ER.getI y i e' q
theorem samePairs_ok {A : Around} {E : Value → Shared → Prop} {s : Shared} {μ : List Addr} {nm : String} {a b : Addr} {xs ys : List (List Int × Addr × Value)} {ep ep' : Nat} {es : Ent} {P : Bool → Shared → Prop} (ha : (a == sysModules) = false) (hb : (b == sysModules) = false)
    (da : DictE G s.heap a xs ep) (db : DictE G s.heap b ys ep') (ea : ER G μ s.heap es xs) (eb : ER G μ s.heap es ys) (hf : Flats es) (hu : A.units < cLine) (h : P true s) : wpAny G.M A (Builtin.Dict.samePairs nm a b) P E s := by
  obtain ⟨oa, fs, hoa, _, hda, hea, hka, hna⟩ := da
  obtain ⟨ob, gs, hob, _, hdb, heb, hkb, hnb⟩ := db
  have hfs : fs.size = es.length := by rw [size_of_entries hea, ea.length]
  have hgs : gs.size = es.length := by rw [size_of_entries heb, eb.length]
  unfold Builtin.Dict.samePairs Builtin.Dict.showsAll
  rw [if_neg (by rw [ha]; exact Bool.false_ne_true), if_neg (by rw [hb]; exact Bool.false_ne_true)]
  refine wpAny_bind (wpAny_pure (wpAny_bind (wpAny_pure (wpAny_bind (wpAny_dictEntries hoa hda ?_)))))
  dsimp only
  refine wpAny_bind (wpAny_dictEntries hob hdb ?_)
  rw [if_neg (by rw [hfs, hgs]; simp)]
  refine wpAny_bind (wpAny_dictEpoch hoa hda (wpAny_bind ?_))
  rw [Std.Legacy.Range.forIn_eq_forIn_range']
  simp only [Std.Legacy.Range.size, Nat.sub_zero, Nat.add_sub_cancel, Nat.div_one]
  refine wpAny_forIn_list _ (fun rest q s' => s' = s ∧ q = (none, ()) ∧ ∀ i ∈ rest, i < es.length) _ ?_ ?_ _ _ ⟨rfl, rfl, fun i hi => by rw [List.mem_range'_1] at hi; (first | lia | omega)⟩
  · rintro x rest q s' ⟨rfl, rfl, hall⟩
    have hx := hall x List.mem_cons_self
    refine wpAny_bind (wpAny_dictEntries hoa hda ?_)
    obtain ⟨va, vv, h1, h2⟩ := ea.getI x es[x] (by simp [hx])
    obtain ⟨wa, wv, h3, h4⟩ := eb.getI x es[x] (by simp [hx])
    rw [entry_at (knd := G.tk) hea x, h1]
    show wpAny _ _ (holding [Value.ref va, vv] _ >>= _) _ _ _
    refine wpAny_bind (wpAny_holding ?_)
    have hk1 := (hka _ (List.mem_of_getElem? h1)).key
    refine wpAny_bind (wpAny_dictFind_heap (knd := G.tk) hu hk1 hob hdb heb (fun y hy => (hkb y hy).key) hnb (fun hno => absurd h3 (hno x (wa, wv))) fun j p hj => ?_)
    have hjx : j = x := idxH_unique hnb hj h3
    subst hjx
    rw [h3] at hj
    have hp : p = (wa, wv) := by injection hj with hj; injection hj with _ hj; exact hj.symm
    subst hp
    refine wpAny_bind (wpAny_dictEntries hob hdb ?_)
    rw [entry_at (knd := G.tk) heb j, h3]
    show wpAny _ _ (holding [wv] (eqBool vv wv)) _ _ _
    obtain ⟨fl, hfl⟩ := hf _ (List.getElem_mem hx)
    rw [hfl] at h2 h4
    refine wpAny_holding (val_eqAt h2 h4 hu G.prog G.w _ _ ?_)
    rw [if_neg (by simp)]
    refine wpAny_bind (wpAny_dictEpoch hoa hda ?_)
    rw [if_neg (by simp)]
    exact wpAny_pure ⟨rfl, rfl, fun i hi => hall i (List.mem_cons_of_mem _ hi)⟩
  · rintro q s' ⟨rfl, rfl, _⟩
    exact wpAny_pure h

theorem ER.at {μ : List Addr} {h : Heap} (prog : Program) (w : World) : ∀ {es : Ent} {xs : List (List Int × Addr × Value)}, ER G μ h es xs → ER (G.at prog w) μ h es xs
  | [], _, x => x
  | e :: es, _, x => by
    obtain ⟨a, v, r, rfl, p, q⟩ := x
    exact ⟨a, v, r, rfl, p, ER.at prog w q⟩
-- both comparisons of equal dicts
theorem dict_cmp {A : Around} {E : Value → Shared → Prop} {s : Shared} {μ : List Addr} {a b : Addr} {xs ys : List (List Int × Addr × Value)} {ep ep' : Nat} {es : Ent} {P : Value → Shared → Prop} (ha : (a == sysModules) = false) (hb : (b == sysModules) = false)
    (da : DictE G s.heap a xs ep) (db : DictE G s.heap b ys ep') (ea : ER G μ s.heap es xs) (eb : ER G μ s.heap es ys) (hf : Flats es) (hu : A.units < cLine) (hu1 : A.in1.units < cLine) :
    (P (.bool true) s → wpAny G.M A (richCompare .Eq (.ref a) (.ref b)) P E s) ∧ (P (.bool false) s → wpAny G.M A (richCompare .NotEq (.ref a) (.ref b)) P E s) := by
  have ta := da.dict.typeIs (s := s)
  have tb := db.dict.typeIs (s := s)
  constructor
  · intro h
    refine PySem.wpAny_richCompare_same_room (op := .Eq) ta tb PySem.F.slot_dict_eq (wpAny_call_entry PySem.F.slot_dict_eq ta PySem.F.entry_dict_eq ?_ (PySem.F.args_dict_eq_2 _ _)) hu
    show wpAny _ _ (Builtin.Dict.dictSlotArgs "__eq__" ⟨[.ref a, .ref b], []⟩ >>= _) _ _ s
    refine wpAny_bind ?_
    unfold Builtin.Dict.dictSlotArgs
    refine wpAny_bind (wpAny_notOrdered_dict ta ?_)
    show wpAny _ _ (pure (Value.ref a, Value.ref b)) _ _ s
    refine wpAny_pure (wpAny_bind (wpAny_isInstance (T := "dict") tb PySem.F.sub_dict_dict ?_))
    simp only [Bool.not_true, Bool.false_eq_true, if_false]
    refine wpAny_bind (wpAny_pure (wpAny_bind (wpAny_pure (wpAny_bind (samePairs_ok ha hb da db ea eb hf hu1 ?_)))))
    exact wpAny_pure ⟨_, rfl, fun x => (nomatch x), by simpa using h⟩
  · intro h
    refine PySem.wpAny_richCompare_same_room (op := .NotEq) ta tb PySem.F.slot_dict_ne (wpAny_call_entry PySem.F.slot_dict_ne ta PySem.F.entry_dict_ne ?_ (PySem.F.args_dict_ne_2 _ _)) hu
    show wpAny _ _ (Builtin.Dict.dictSlotArgs "__ne__" ⟨[.ref a, .ref b], []⟩ >>= _) _ _ s
    refine wpAny_bind ?_
    unfold Builtin.Dict.dictSlotArgs
    refine wpAny_bind (wpAny_notOrdered_dict ta ?_)
    show wpAny _ _ (pure (Value.ref a, Value.ref b)) _ _ s
    refine wpAny_pure (wpAny_bind (wpAny_isInstance (T := "dict") tb PySem.F.sub_dict_dict ?_))
    simp only [Bool.not_true, Bool.false_eq_true, if_false]
    refine wpAny_bind (wpAny_pure (wpAny_bind (wpAny_pure (wpAny_bind (samePairs_ok ha hb da db ea eb hf hu1 ?_)))))
    exact wpAny_pure ⟨_, rfl, fun x => (nomatch x), by simpa using h⟩
theorem PB_deq {n m ep ep' : Nat} {es : Ent} (hn : H[n]? = some (.dict es ep)) (hm : H[m]? = some (.dict es ep')) (hf : Flats es) (h : Q (.bool true) H) : PBin G k (compareOp .Eq) (.loc n) (.loc m) H Q := by
  intro A E s μ vo vi hA R x1 x2
  rw [VR] at x1; rw [VR] at x2
  obtain ⟨a, rfl, ha⟩ := x1; obtain ⟨b, rfl, hb⟩ := x2
  obtain ⟨a', ha', xs, da, hlen, ea⟩ := R.obj n _ hn
  obtain ⟨b', hb', ys, db, hlen2, eb⟩ := R.obj m _ hm
  rw [ha] at ha'; cases ha'; rw [hb] at hb'; cases hb'
  exact (dict_cmp (R.new a (List.mem_of_getElem? ha)).2 (R.new b (List.mem_of_getElem? hb)).2 da db ea eb hf hA.units (by have := hA.2.2; simp only [cLine, Around.in1_units]; (first | lia | omega))).1 (Ret.here R vBool h)
theorem PB_dne {n m ep ep' : Nat} {es : Ent} (hn : H[n]? = some (.dict es ep)) (hm : H[m]? = some (.dict es ep')) (hf : Flats es) (h : Q (.bool false) H) : PBin G k (compareOp .NotEq) (.loc n) (.loc m) H Q := by
  intro A E s μ vo vi hA R x1 x2
  rw [VR] at x1; rw [VR] at x2
  obtain ⟨a, rfl, ha⟩ := x1; obtain ⟨b, rfl, hb⟩ := x2
  obtain ⟨a', ha', xs, da, hlen, ea⟩ := R.obj n _ hn
  obtain ⟨b', hb', ys, db, hlen2, eb⟩ := R.obj m _ hm
  rw [ha] at ha'; cases ha'; rw [hb] at hb'; cases hb'
  exact (dict_cmp (R.new a (List.mem_of_getElem? ha)).2 (R.new b (List.mem_of_getElem? hb)).2 da db ea eb hf hA.units (by have := hA.2.2; simp only [cLine, Around.in1_units]; (first | lia | omega))).2 (Ret.here R vBool h)

-- two lists of dicts, the same one by one
theorem PB_ldeq {n m : Nat} {us ws : List V} (hn : H[n]? = some (.list us)) (hm : H[m]? = some (.list ws)) (hl : us.length = ws.length)
    (he : ∀ (i : Nat) (p q : V), us[i]? = some p → ws[i]? = some q → ∃ (x y : Nat) (es : Ent) (ep ep' : Nat), p = .loc x ∧ q = .loc y ∧ H[x]? = some (.dict es ep) ∧ H[y]? = some (.dict es ep') ∧ Flats es) (h : Q (.bool true) H) : PBin G k (compareOp .Eq) (.loc n) (.loc m) H Q := by
  intro A E s μ vo vi hA R x1 x2
  rw [VR] at x1; rw [VR] at x2
  obtain ⟨a, rfl, ha⟩ := x1; obtain ⟨b, rfl, hb⟩ := x2
  obtain ⟨a', ha', vs, m1, hla, hlen, hvs⟩ := R.obj n _ hn
  obtain ⟨b', hb', vs2, m2, hlb, hlen2, hvs2⟩ := R.obj m _ hm
  rw [ha] at ha'; cases ha'; rw [hb] at hb'; cases hb'
  have s1 : vs.size = us.length := by have := hvs.length; simpa using this
  have s2 : vs2.size = ws.length := by have := hvs2.length; simpa using this
  refine SeqAt.eq_listAt (e := fun _ => true) (IsL.isList hla) (IsL.isList hlb) (by rw [s1, s2, hl]) hA.units (fun j g1 g2 => ?_) (Ret.here R vBool (by rw [List.all_eq_true.mpr (fun _ _ => rfl)]; exact h))
  have j1 : j < us.length := by (first | lia | omega)
  have j2 : j < ws.length := by (first | lia | omega)
  obtain ⟨v, e1, r1⟩ := hvs.get (i := j) (u := us[j]) (by simp [j1])
  obtain ⟨v', e2, r2⟩ := hvs2.get (i := j) (u := ws[j]) (by simp [j2])
  rw [Array.getElem?_toList, Array.getElem?_eq_getElem g1] at e1
  rw [Array.getElem?_toList, Array.getElem?_eq_getElem g2] at e2
  cases e1; cases e2
  obtain ⟨x, y, es, ep, ep', h1, h2, h3, h4, hf⟩ := he j us[j] ws[j] (by simp [j1]) (by simp [j2])
  rw [h1] at r1; rw [h2] at r2
  rw [VR] at r1; rw [VR] at r2
  obtain ⟨c, ec, hc⟩ := r1; obtain ⟨d, ed, hd⟩ := r2
  rw [ec, ed]
  obtain ⟨c', hc', xs, da, _, ea⟩ := R.obj x _ h3
  obtain ⟨d', hd', ys, db, _, eb⟩ := R.obj y _ h4
  rw [hc] at hc'; cases hc'; rw [hd] at hd'; cases hd'
  by_cases hcd : c = d
  · subst hcd; exact SeqAt.EqAt.same _
  · refine SeqAt.EqAt.of_refs hcd fun prog w E P hP => ?_
    exact (dict_cmp (G := G.at prog w) (A := A.in1) (R.new c (List.mem_of_getElem? hc)).2 (R.new d (List.mem_of_getElem? hd)).2 (da.at prog w) (db.at prog w) (ea.at prog w) (eb.at prog w) hf (by have := hA.2.2; simp only [cLine, Around.in1_units]; (first | lia | omega)) (by have := hA.2.2; simp only [cLine, Around.in1_units]; (first | lia | omega))).1 hP
end
end Mine

end

section
namespace Mine
theorem lk_hit {x : Str} {u : V} {ρ : Rho} : List.lookup x ((x, u) :: ρ) = some u := by simp [List.lookup_cons]
theorem lk_miss {x y : Str} {u : V} {ρ : Rho} {r : Option V} (h : (x == y) = false) (h' : List.lookup x ρ = r) : List.lookup x ((y, u) :: ρ) = r := by rw [List.lookup_cons, h]; exact h'
theorem lu_hit {x : Str} {u : V} {ρ : Rho} : List.lookup x (upd x u ρ) = some u := by rw [upd_lookup, if_pos rfl]
theorem lu_miss {x y : Str} {u : V} {ρ : Rho} {r : Option V} (h : (y == x) = false) (h' : List.lookup y ρ = r) : List.lookup y (upd x u ρ) = r := by rw [upd_lookup, if_neg (by simpa using h)]; exact h'
theorem ls_miss {x : Str} {cs : Scope} {ρ : Rho} {r : Option V} (h : (cs.names.lookup x == some .local) = false) (h' : List.lookup x ρ = r) : List.lookup x (strip cs ρ) = r := by rw [strip_lookup, if_neg (by simpa using h)]; exact h'

theorem lb_cons {x y : Str} {u : V} {xs : List Str} {us : List V} {ρ : Rho} {r : Option V} (h : List.lookup y (bindN xs us (upd x u ρ)) = r) : List.lookup y (bindN (x :: xs) (u :: us) ρ) = r := h
theorem lb_nil {y : Str} {ρ : Rho} {r : Option V} (h : List.lookup y ρ = r) : List.lookup y (bindN [] [] ρ) = r := h

theorem get_new {H : MH} {x : O} : (H ++ [x])[H.length]? = some x := by simp
theorem lim_ok {n : Nat} (h : Nat.ble n lim = true) : n ≤ lim := Nat.le_of_ble_eq_true h
noncomputable def stI (i : Nat) : Stmt := PySem.Challenge.pw_rh0031_01.main.body.getD i (.Pass ⟨0, 0, 0, 0⟩)
noncomputable def pI (i : Nat) : Arguments := match stI i with | .FunctionDef _ p _ _ _ _ _ _ _ _ => p | _ => { posonlyargs := [], args := [], vararg := none, kwonlyargs := [], kw_defaults := [], kwarg := none, defaults := [] }
noncomputable def bI (i : Nat) : List Stmt := match stI i with | .FunctionDef _ _ b _ _ _ _ _ _ _ => b | _ => []
noncomputable def sI (i : Nat) : Scope := match stI i with | .FunctionDef _ _ _ _ _ _ s _ _ _ => s | _ => default
noncomputable abbrev look (ρ : Rho) (x : Str) : Option V := List.lookup x ρ
noncomputable abbrev FN (G : Gh) (i : Nat) (f : Str) : Prop := FnAt G f (pI i) (bI i) (sI i)
structure Pr (G : Gh) : Prop where
  ok : G.Ok
  nb : ∀ x ∈ (["abs", "len", "enumerate", "max", "min", "any", "tuple", "list", "dict", "range"] : List Str), G.mg x = none
  gcd : FN G 8 "gcd"
  bits : FN G 9 "bits_of"
  rat : FN G 14 "rat"
  radd : FN G 15 "radd"
  rmul : FN G 16 "rmul"
  rdiv : FN G 17 "rdiv"
  rneg : FN G 18 "rneg"
  rinv : FN G 19 "rinv"
  vast : FN G 20 "is_vast"
  mvterm : FN G 22 "mvterm"
  mvnumber : FN G 23 "mvnumber"
  mvadd : FN G 24 "mvadd"
  add_term : FN G 25 "add_term"
  mvneg : FN G 26 "mvneg"
  mvsub : FN G 27 "mvsub"
  mvscale : FN G 28 "mvscale"
  mvshift : FN G 29 "mvshift"
  mvmul : FN G 30 "mvmul"
  mvlead : FN G 31 "mvlead"
  mvmonic : FN G 32 "mvmonic"
  degree_in : FN G 33 "degree_in"
  last_letter : FN G 34 "last_letter"
  by_letter : FN G 35 "by_letter"
  from_letter : FN G 36 "from_letter"
  first_divisor : FN G 40 "first_divisor"
  mvdivide : FN G 41 "mvdivide"
  mvexact : FN G 42 "mvexact"
  trimmed : FN G 44 "trimmed_rows"
  pseudo : FN G 45 "pseudo_rest"
  content : FN G 46 "rows_content"
  primitive : FN G 47 "rows_primitive"
  mvcontent : FN G 48 "mvcontent"
  monic : FN G 49 "rows_monic"
  rgcd : FN G 50 "rows_gcd"
  mvgcd : FN G 51 "mvgcd"
  okey : FN G 3 "order_key"
  product : FN G 4 "powers_product"
  divide : FN G 5 "powers_divide"
  quotient : FN G 6 "powers_quotient"
  take : FN G 53 "_law_take"
  row : FN G 54 "_law_row"
  prod : FN G 55 "_law_product"
  shared : FN G 56 "_law_shared"
  rest : FN G 57 "_law_rest"
  lmonic : FN G 58 "_law_monic"
  poly : FN G 59 "_law_poly"
  law : FN G 60 "law"
  r0 : ∃ v, G.mg "R0" = some v ∧ ∀ μ h, (∀ (a : Addr) (o : Obj), G.hb.get? a = some o → h.get? a = some o) → VR G.hb μ h (.tup [.int 0, .int 1]) v
  r1 : ∃ v, G.mg "R1" = some v ∧ ∀ μ h, (∀ (a : Addr) (o : Obj), G.hb.get? a = some o → h.get? a = some o) → VR G.hb μ h (.tup [.int 1, .int 1]) v
  mbits : ∃ t, G.mg "MOST_BITS" = some (.int 200000 t)
  mfar : ∃ t, G.mg "MOST_FAR" = some (.int 20000 t)
  mwork : ∃ t, G.mg "MOST_WORK" = some (.int 3000000 t)
noncomputable def prNames : List String := ["gcd", "bits_of", "rat", "radd", "rmul", "rdiv", "rneg", "rinv", "is_vast", "mvterm", "mvnumber", "mvadd", "add_term", "mvneg", "mvsub", "mvscale", "mvshift", "mvmul", "mvlead", "mvmonic", "degree_in", "last_letter", "by_letter", "from_letter", "first_divisor", "mvdivide", "mvexact", "trimmed_rows", "pseudo_rest", "rows_content", "rows_primitive", "mvcontent", "rows_monic", "rows_gcd", "mvgcd", "order_key", "powers_product", "powers_divide", "powers_quotient", "_law_take", "_law_row", "_law_product", "_law_shared", "_law_rest", "_law_monic", "_law_poly", "law"]
theorem prNames_ok : ∀ x ∈ prNames, (Str.ofString x == ("__debug__" : Str)) = false := by decide +kernel
theorem Pr.any {G : Gh} (P : Pr G) : ∀ f ∈ prNames, ∃ params body scope, FnAt G (Str.ofString f) params body scope := by
  unfold prNames
  simp only [List.forall_mem_cons]
  exact ⟨⟨_, _, _, P.gcd⟩, ⟨_, _, _, P.bits⟩, ⟨_, _, _, P.rat⟩, ⟨_, _, _, P.radd⟩, ⟨_, _, _, P.rmul⟩, ⟨_, _, _, P.rdiv⟩, ⟨_, _, _, P.rneg⟩, ⟨_, _, _, P.rinv⟩, ⟨_, _, _, P.vast⟩, ⟨_, _, _, P.mvterm⟩, ⟨_, _, _, P.mvnumber⟩, ⟨_, _, _, P.mvadd⟩, ⟨_, _, _, P.add_term⟩, ⟨_, _, _, P.mvneg⟩, ⟨_, _, _, P.mvsub⟩, ⟨_, _, _, P.mvscale⟩, ⟨_, _, _, P.mvshift⟩, ⟨_, _, _, P.mvmul⟩, ⟨_, _, _, P.mvlead⟩, ⟨_, _, _, P.mvmonic⟩, ⟨_, _, _, P.degree_in⟩, ⟨_, _, _, P.last_letter⟩, ⟨_, _, _, P.by_letter⟩, ⟨_, _, _, P.from_letter⟩, ⟨_, _, _, P.first_divisor⟩, ⟨_, _, _, P.mvdivide⟩, ⟨_, _, _, P.mvexact⟩, ⟨_, _, _, P.trimmed⟩, ⟨_, _, _, P.pseudo⟩, ⟨_, _, _, P.content⟩, ⟨_, _, _, P.primitive⟩, ⟨_, _, _, P.mvcontent⟩, ⟨_, _, _, P.monic⟩, ⟨_, _, _, P.rgcd⟩, ⟨_, _, _, P.mvgcd⟩, ⟨_, _, _, P.okey⟩, ⟨_, _, _, P.product⟩, ⟨_, _, _, P.divide⟩, ⟨_, _, _, P.quotient⟩, ⟨_, _, _, P.take⟩, ⟨_, _, _, P.row⟩, ⟨_, _, _, P.prod⟩, ⟨_, _, _, P.shared⟩, ⟨_, _, _, P.rest⟩, ⟨_, _, _, P.lmonic⟩, ⟨_, _, _, P.poly⟩, ⟨_, _, _, P.law⟩, fun _ hx => (nomatch hx)⟩
noncomputable def builtOk (l : List String) (sc : Scope) (f : String) : Bool := l.contains f && sc.names.lookup (Str.ofString f) == some .globalImplicit
section
variable {G : Gh} {k : Nat} {sc : Scope} {ρ : Rho} {H : MH} {Q : V → MH → Prop}
theorem TE_CallP (P : Pr G) {f : String} {p pos : Pos} {e : Expr} {es : List Expr} (hk : builtOk prNames sc f = true) (h : TEs G k sc (e :: es) ρ H fun us H' => CT G k (Str.ofString f) us H' Q) (he : ∀ env, starEach (e :: es) env = (false, eval e env) :: starEach es env := by intro _; rfl) :
    TE G k sc (.Call (.Name (Str.ofString f) p) (e :: es) [] pos) ρ H Q := by
  obtain ⟨h1, h2⟩ := Bool.and_eq_true_iff.mp hk
  have h1 := List.contains_iff_mem.mp h1
  obtain ⟨_, _, _, F⟩ := P.any f h1
  exact TE_Call P.ok F (eq_of_beq h2) h he (prNames_ok f h1)
noncomputable def bNames : List String := ["abs", "len", "max", "min", "any"]
noncomputable def tNames : List String := ["tuple", "list", "dict"]
theorem bNames_ok : ∀ x ∈ bNames, (Str.ofString x) ∈ (["abs", "len", "enumerate", "max", "min", "any", "tuple", "list", "dict", "range"] : List Str) ∧ bootBuiltins (Str.ofString x) = some (.builtin x) ∧ (Str.ofString x == ("__debug__" : Str)) = false ∧ Str.ofString x ≠ "__name__" := by
  unfold bNames
  simp only [List.forall_mem_cons]
  exact ⟨⟨by decide +kernel, boot_abs, by decide +kernel, by decide +kernel⟩, ⟨by decide +kernel, boot_len, by decide +kernel, by decide +kernel⟩, ⟨by decide +kernel, boot_max, by decide +kernel, by decide +kernel⟩, ⟨by decide +kernel, boot_min, by decide +kernel, by decide +kernel⟩, ⟨by decide +kernel, boot_any, by decide +kernel, by decide +kernel⟩, fun _ hx => (nomatch hx)⟩
theorem tNames_ok : ∀ x ∈ tNames, (Str.ofString x) ∈ (["abs", "len", "enumerate", "max", "min", "any", "tuple", "list", "dict", "range"] : List Str) ∧ bootBuiltins (Str.ofString x) = some (.type x) ∧ (Str.ofString x == ("__debug__" : Str)) = false ∧ Str.ofString x ≠ "__name__" := by
  unfold tNames
  simp only [List.forall_mem_cons]
  exact ⟨⟨by decide +kernel, boot_tuple, by decide +kernel, by decide +kernel⟩, ⟨by decide +kernel, boot_list, by decide +kernel, by decide +kernel⟩, ⟨by decide +kernel, boot_dict, by decide +kernel, by decide +kernel⟩, fun _ hx => (nomatch hx)⟩
theorem TE_CallBP (P : Pr G) {f : String} {p pos : Pos} {e : Expr} {es : List Expr} (hk : builtOk bNames sc f = true) (h : TEs G k sc (e :: es) ρ H fun us H' => CB G k (.builtin f) us H' Q)
    (he : ∀ env, starEach (e :: es) env = (false, eval e env) :: starEach es env := by intro _; rfl) (hp : ∀ env, (backTo pos (starEach (e :: es) env)).any (·.1) = false := by intro _; rfl) :
    TE G k sc (.Call (.Name (Str.ofString f) p) (e :: es) [] pos) ρ H Q := by
  obtain ⟨h1, h2⟩ := Bool.and_eq_true_iff.mp hk
  obtain ⟨a, b, c, d⟩ := bNames_ok f (List.contains_iff_mem.mp h1)
  exact TE_CallB P.ok (eq_of_beq h2) (P.nb _ a) b h he hp c d
theorem TE_CallTP (P : Pr G) {f : String} {p pos : Pos} {e : Expr} {es : List Expr} (hk : builtOk tNames sc f = true) (h : TEs G k sc (e :: es) ρ H fun us H' => CB G k (.type f) us H' Q)
    (he : ∀ env, starEach (e :: es) env = (false, eval e env) :: starEach es env := by intro _; rfl) (hp : ∀ env, (backTo pos (starEach (e :: es) env)).any (·.1) = false := by intro _; rfl) :
    TE G k sc (.Call (.Name (Str.ofString f) p) (e :: es) [] pos) ρ H Q := by
  obtain ⟨h1, h2⟩ := Bool.and_eq_true_iff.mp hk
  obtain ⟨a, b, c, d⟩ := tNames_ok f (List.contains_iff_mem.mp h1)
  exact TE_CallT P.ok (eq_of_beq h2) (P.nb _ a) b h he hp c d
end
end Mine

end

set_option maxRecDepth 100000
namespace Mine
local macro_rules | `(tactic| tm_at "lk") => `(tactic| first
  | assumption
  | with_reducible exact lk_hit
  | with_reducible exact lu_hit
  | (with_reducible refine lk_miss (by kernel_rfl!) ?_; tm_at "lk")
  | (with_reducible refine lu_miss (by kernel_rfl!) ?_; tm_at "lk")
  | (with_reducible refine lb_cons ?_; tm_at "lk")
  | (with_reducible refine lb_nil ?_; tm_at "lk")
  | (with_reducible refine ls_miss (by kernel_rfl!) ?_; tm_at "lk"))
local macro_rules | `(tactic| tm_at "k") => `(tactic| first
  | kernel_rfl!
  | decide +kernel
  | rfl)
local macro_rules | `(tactic| tm_at "nb") => `(tactic| exact Pr.nb ‹_› _ (by decide +kernel))
local macro_rules | `(tactic| tm_at "e") => `(tactic| first
  | ((with_reducible show TE _ _ _ (Expr.Name _ _) _ _ _); first
    | refine TE_local (by tm_at "lk") ?_ (by tm_at "k")
    | refine TE_cell (by tm_at "lk") ?_ (by tm_at "k")
    | refine TE_free (by tm_at "lk") ?_ (by tm_at "k"))
  | ((with_reducible show TE _ _ _ (Expr.Call (Expr.Name _ _) _ _ _) _ _ _); first
    | with_reducible refine TE_CallBP ‹_› (by kernel_rfl!) ?_ (he := by with_unfolding_all (intro _; rfl)) (hp := by with_unfolding_all (intro _; rfl))
    | with_reducible refine TE_CallTP ‹_› (by kernel_rfl!) ?_ (he := by with_unfolding_all (intro _; rfl)) (hp := by with_unfolding_all (intro _; rfl))
    | with_reducible refine TE_CallP ‹_› (by kernel_rfl!) ?_ (he := by with_unfolding_all (intro _; rfl)))
  | with_reducible (first
    | refine TE_int ?_
    | refine TE_str ?_
    | refine TE_none ?_
    | refine TE_bool ?_
    | refine TE_BinOp ?_
    | refine TE_UnaryOp ?_
    | refine TE_IfExp ?_
    | refine TE_SliceTo ?_
    | refine TE_SliceFrom ?_
    | refine TE_Subscript ?_
    | refine TE_Tuple ?_
    | refine TE_List ?_
    | refine TE_Dict0 ?_
    | refine TE_Dict1 ?_
    | refine TE_And2 ?_
    | refine TEs_nil ?_
    | refine TB_BoolOp ?_
    | refine TAll_Or_nil ?_
    | refine TAll_And_nil ?_
    | refine TAll_Or_cons ?_
    | refine TAll_And_cons ?_
    | refine TS_nil ?_
    | refine TS_cons ?_
    | refine TX_Return ?_
    | refine TX_If ?_
    | refine TX_Cont ?_
    | refine PB_add ?_
    | refine PB_sub ?_
    | refine PB_iadd ?_
    | refine PB_isub ?_
    | refine PB_lt ?_
    | refine PB_le ?_
    | refine PB_gt ?_
    | refine PB_ge ?_
    | refine PB_eq ?_
    | refine PB_ne ?_
    | refine PB_is ?_
    | refine PB_isnot ?_
    | refine PB_eqstr ?_
    | refine PU_neg ?_
    | refine CB_abs ?_
    | refine CB_max2 ?_
    | refine CB_min2 ?_
    | refine ⟨_, (rfl : V.bool _ = V.bool _), ?_⟩)
  | ((with_reducible show TEs _ _ _ (_ :: _) _ _ _); refine TEs_cons ?_)
  | ((with_reducible show TE _ _ _ (Expr.Compare _ _ _ _) _ _ _); refine TE_Cmp ?_)
  | ((with_reducible show TB _ _ _ (Expr.Compare _ _ _ _) _ _ _); refine TB_Cmp ?_)
  | ((with_reducible show TX _ _ _ (Stmt.Assign [Expr.Name _ _] _ _) _ _ _); refine TX_Assign ?_ (by tm_at "k"))
  | ((with_reducible show PItem _ _ (V.tup (_ :: _)) (V.int _) _ _); refine PI_tup rfl (by decide) (by decide) rfl ?_))
section
section
variable {G : Gh} {k : Nat} {H : MH} {Q : V → MH → Prop}
theorem fmod_pos {x y : Int} (hy : 0 < y) : x.fmod y = x % y := Int.fmod_eq_emod_of_nonneg x (Int.le_of_lt hy)
theorem gcd_step {x y : Int} (hx : 0 ≤ x) (hy : 0 < y) : Int.gcd y (x.fmod y) = Int.gcd x y := by
  rw [fmod_pos hy, Int.gcd_comm y]
  obtain ⟨m, rfl⟩ := Int.eq_ofNat_of_zero_le hx
  obtain ⟨n, rfl⟩ := Int.eq_ofNat_of_zero_le (Int.le_of_lt hy)
  have e : ((m : Int) % (n : Int)) = ((m % n : Nat) : Int) := by simp
  rw [e]
  show Nat.gcd (m % n) n = Nat.gcd m n
  rw [← Nat.gcd_rec, Nat.gcd_comm]
theorem gcd_ct (P : Pr G) {a b : Int} (h : Q (.int (Int.gcd a b)) H) : CT G (k + 1) "gcd" [.int a, .int b] H Q := by
  refine CT_enter2 P.ok P.gcd (x := "a") (y := "b") (by decide +kernel) (fun _ _ _ _ _ => rfl) ?_
  refine TS_cons ?_
  refine TX_AssignSw (names := ["a", "b"]) (by decide +kernel) ?_
  tm_at "e"
  tm_at "e"
  tm_at "e"
  tm_at "e"
  tm_at "e"
  tm_at "e"
  refine CB_abs ?_
  tm_at "e"
  tm_at "e"
  tm_at "e"
  tm_at "e"
  tm_at "e"
  refine CB_abs ?_
  tm_at "e"
  refine ⟨lim_ok rfl, _, rfl, rfl, ?_⟩
  simp only [List.reverse_cons, List.reverse_nil, List.nil_append, List.cons_append, bindN]
  refine TS_cons ?_
  refine TX_While (fun n ρ H' => ∃ x y : Int, look ρ "a" = some (.int x) ∧ look ρ "b" = some (.int y) ∧ 0 ≤ x ∧ 0 ≤ y ∧ n = y.natAbs ∧ Int.gcd x y = Int.gcd a b ∧ H' = H) b.natAbs ⟨_, _, by tm_at "lk", by tm_at "lk", by (first | lia | omega), by (first | lia | omega), by (first | lia | omega), by simp [Int.gcd], rfl⟩ ?_
  rintro n ρ H' ⟨x, y, ha, hb, hx, hy, rfl, hg, rfl⟩
  tm_at "e"
  tm_at "e"
  tm_at "e"
  refine PB_ne ⟨_, rfl, ?_⟩
  by_cases hy0 : y = 0
  · subst hy0
    simp only [ne_eq, not_true, decide_false, Bool.false_eq_true, if_false]
    tm_at "e"
    tm_at "e"
    tm_at "e"
    have e : x = (Int.gcd a b : Int) := by rw [← hg, Int.gcd_zero_right]; (first | lia | omega)
    rw [e]; exact h
  · simp only [ne_eq, hy0, not_false_eq_true, decide_true, if_true]
    tm_at "e"
    refine TX_AssignSw (names := ["a", "b"]) (by decide +kernel) ?_
    tm_at "e"
    tm_at "e"
    tm_at "e"
    tm_at "e"
    tm_at "e"
    tm_at "e"
    tm_at "e"
    refine PB_mod hy0 ?_
    tm_at "e"
    refine ⟨lim_ok rfl, _, rfl, rfl, ?_⟩
    simp only [List.reverse_cons, List.reverse_nil, List.nil_append, List.cons_append, bindN]
    tm_at "e"
    have hyp : 0 < y := by (first | lia | omega)
    have e := fmod_pos (x := x) hyp
    have e1 := Int.emod_nonneg x hy0
    have e2 := Int.emod_lt_of_pos x hyp
    exact ⟨(x.fmod y).natAbs, by rw [e]; (first | lia | omega), _, _, by tm_at "lk", by tm_at "lk", hy, by rw [e]; exact e1, rfl, by rw [gcd_step hx hyp, hg], rfl⟩
end
end
section
section
variable {G : Gh} {k : Nat} {H : MH} {Q : V → MH → Prop}

noncomputable abbrev ratV (q : Rat) : V := .tup [.int q.num, .int (q.den : Int)]

theorem Bi.of_le {n : Nat} {a b : Int} (h : Bi n b) (hl : a.natAbs ≤ b.natAbs) : Bi n a := Nat.le_trans hl h
theorem Bi.mul {n m : Nat} {a b : Int} (h : Bi n a) (h' : Bi m b) : Bi (n + m) (a * b) := by
  unfold Bi at *
  rw [Int.natAbs_mul, Nat.pow_add]
  exact Nat.mul_le_mul h h'
theorem Bi.add {n : Nat} {a b : Int} (h : Bi n a) (h' : Bi n b) : Bi (n + 1) (a + b) := by
  unfold Bi at *
  rw [Nat.pow_succ]
  have := Int.natAbs_add_le a b
  (first | lia | omega)
theorem rat_num {a b : Int} (hb : 0 < b) : a.fdiv (Int.gcd a b) = (Rat.divInt a b).num := by
  rw [Rat.num_divInt, Int.sign_eq_one_of_pos hb, Int.one_mul, Int.gcd_comm, Int.fdiv_eq_ediv_of_nonneg _ (by (first | lia | omega))]
theorem rat_den {a b : Int} (hb : 0 < b) : b.fdiv (Int.gcd a b) = ((Rat.divInt a b).den : Int) := by
  rw [Rat.den_divInt, if_neg (by (first | lia | omega)), Int.gcd_comm, Int.fdiv_eq_ediv_of_nonneg _ (by (first | lia | omega)), Int.natCast_ediv]
  congr 1; (first | lia | omega)
theorem rat_num' {a b : Int} (hb : b < 0) : a.fdiv (0 - Int.gcd a b) = (Rat.divInt a b).num := by
  have hd : ((Int.gcd a b : Nat) : Int) ∣ a := Int.gcd_dvd_left ..
  rw [Rat.num_divInt, Int.sign_eq_neg_one_of_neg hb, Int.gcd_comm b a]
  rw [Int.fdiv_eq_ediv_of_dvd (by simpa using hd)]
  rw [Int.zero_sub, Int.ediv_neg, Int.neg_mul, Int.one_mul, Int.neg_ediv_of_dvd hd]
theorem rat_den' {a b : Int} (hb : b < 0) : b.fdiv (0 - Int.gcd a b) = ((Rat.divInt a b).den : Int) := by
  have hd : ((Int.gcd a b : Nat) : Int) ∣ b := Int.gcd_dvd_right ..
  rw [Rat.den_divInt, if_neg (by (first | lia | omega)), Int.gcd_comm b a]
  rw [Int.fdiv_eq_ediv_of_dvd (by simpa using hd)]
  rw [Int.zero_sub, Int.ediv_neg, Int.natCast_ediv, ← Int.neg_ediv_of_dvd hd]
  congr 1; (first | lia | omega)
theorem rat_ct (P : Pr G) {a b : Int} {n : Nat} (hb : b ≠ 0) (hbb : Bi n b) (hn : n ≤ 8500) (h : Q (ratV (Rat.divInt a b)) H) : CT G (k + 2) "rat" [.int a, .int b] H Q := by
  refine CT_enter2 P.ok P.rat (x := "top") (y := "bottom") (by decide +kernel) (fun _ _ _ _ _ => rfl) ?_
  refine TS_cons ?_
  repeat tm_at "e"
  simp only [hb, decide_false, Bool.false_eq_true, if_false]
  repeat tm_at "e"
  have hg : Bi n (Int.gcd a b : Int) := hbb.of_le (by
    have := Int.gcd_le_natAbs_right a hb
    simpa using this)
  have hg0 : (Int.gcd a b : Int) ≠ 0 := by
    have := Int.gcd_pos_of_ne_zero_right a hb
    (first | lia | omega)
  by_cases hp : 0 < b
  · simp only [hp, decide_true, if_true]
    repeat tm_at "e"
    refine gcd_ct P ?_
    repeat tm_at "e"
    refine PB_fdiv hg0 hg (by (first | lia | omega)) ?_
    repeat tm_at "e"
    refine PB_fdiv hg0 hg (by (first | lia | omega)) ?_
    repeat tm_at "e"
    rw [rat_num hp, rat_den hp]
    exact ⟨lim_ok rfl, h⟩
  · simp only [hp, decide_false, Bool.false_eq_true, if_false]
    have hlt : b < 0 := by (first | lia | omega)
    have hg' : Bi n (0 - (Int.gcd a b : Int)) := by unfold Bi at *; (first | lia | omega)
    repeat tm_at "e"
    refine gcd_ct P ?_
    repeat tm_at "e"
    refine PB_fdiv (by (first | lia | omega)) hg' (by (first | lia | omega)) ?_
    repeat tm_at "e"
    refine PB_fdiv (by (first | lia | omega)) hg' (by (first | lia | omega)) ?_
    repeat tm_at "e"
    rw [rat_num' hlt, rat_den' hlt]
    exact ⟨lim_ok rfl, h⟩
end
end
section
section
variable {G : Gh} {k : Nat} {H : MH} {Q : V → MH → Prop}

structure Bd (n : Nat) (q : Rat) : Prop where
  num : Bi n q.num
  den : Bi n (q.den : Int)
theorem Bd.mono {n m : Nat} {q : Rat} (h : Bd n q) (hm : n ≤ m) : Bd m q := ⟨h.num.mono hm, h.den.mono hm⟩
theorem divInt_num_le (a b : Int) (hb : b ≠ 0) : (Rat.divInt a b).num.natAbs ≤ a.natAbs := by
  rw [Rat.num_divInt]
  refine Nat.le_trans (Int.natAbs_ediv_le_natAbs _ _) ?_
  rw [Int.natAbs_mul]
  have : b.sign.natAbs ≤ 1 := by rw [Int.natAbs_sign]; split <;> (first | lia | omega)
  exact Nat.le_trans (Nat.mul_le_mul_right _ this) (by (first | lia | omega))
theorem divInt_den_le (a b : Int) (hb : b ≠ 0) : (Rat.divInt a b).den ≤ b.natAbs := by
  rw [Rat.den_divInt, if_neg hb]
  exact Nat.div_le_self _ _
theorem Bd.divInt {n : Nat} {a b : Int} (hb : b ≠ 0) (h1 : Bi n a) (h2 : Bi n b) : Bd n (Rat.divInt a b) := ⟨h1.of_le (divInt_num_le a b hb), h2.of_le (by have := divInt_den_le a b hb; simpa using this)⟩
theorem den_ne (q : Rat) : (q.den : Int) ≠ 0 := by have := q.den_nz; (first | lia | omega)
theorem add_divInt (p q : Rat) : Rat.divInt (p.num * q.den + q.num * p.den) (p.den * q.den) = p + q := by
  rw [← Rat.divInt_add_divInt _ _ (den_ne p) (den_ne q), Rat.num_divInt_den, Rat.num_divInt_den]
theorem mul_divInt (p q : Rat) : Rat.divInt (p.num * q.num) (p.den * q.den) = p * q := by
  rw [← Rat.divInt_mul_divInt, Rat.num_divInt_den, Rat.num_divInt_den]
theorem div_divInt (p q : Rat) : Rat.divInt (p.num * q.den) (p.den * q.num) = p / q := by
  rw [Rat.div_def, Rat.inv_def, ← Rat.divInt_mul_divInt, Rat.num_divInt_den]
theorem inv_divInt' (p : Rat) : Rat.divInt p.den p.num = p⁻¹ := (Rat.inv_def p).symm
theorem Bd.add {n : Nat} {p q : Rat} (h : Bd n p) (h' : Bd n q) : Bd (n + n + 1) (p + q) := by
  rw [← add_divInt]
  refine Bd.divInt (Int.mul_ne_zero (den_ne p) (den_ne q)) ((h.num.mul h'.den).add (h'.num.mul h.den)) ((h.den.mul h'.den).mono (by (first | lia | omega)))
theorem Bd.mul {n m : Nat} {p q : Rat} (h : Bd n p) (h' : Bd m q) : Bd (n + m) (p * q) := by
  rw [← mul_divInt]
  exact Bd.divInt (Int.mul_ne_zero (den_ne p) (den_ne q)) (h.num.mul h'.num) (h.den.mul h'.den)
theorem num_ne {q : Rat} (h : q ≠ 0) : q.num ≠ 0 := fun e => h (Rat.num_eq_zero.mp e)
theorem Bd.inv {n : Nat} {p : Rat} (h : Bd n p) (h0 : p ≠ 0) : Bd n p⁻¹ := by
  rw [← inv_divInt']
  exact Bd.divInt (num_ne h0) h.den h.num
theorem Bd.neg {n : Nat} {p : Rat} (h : Bd n p) : Bd n (-p) := ⟨by rw [Rat.neg_num]; exact h.num.of_le (by (first | exact get_new | simp)), by rw [Rat.neg_den]; exact h.den⟩

theorem radd_ct (P : Pr G) {p q : Rat} {n m : Nat} (hp : Bd n p) (hq : Bd m q) (hn : n ≤ 4000) (hm : m ≤ 4000) (h : Q (ratV (p + q)) H) : CT G (k + 3) "radd" [ratV p, ratV q] H Q := by
  refine CT_enter2 P.ok P.radd (x := "a") (y := "b") (by decide +kernel) (fun _ _ _ _ _ => rfl) ?_
  refine TS_cons ?_
  repeat tm_at "e"
  refine PB_mul hp.num hq.den (by (first | lia | omega)) (by (first | lia | omega)) ?_
  repeat tm_at "e"
  refine PB_mul hq.num hp.den (by (first | lia | omega)) (by (first | lia | omega)) ?_
  repeat tm_at "e"
  refine PB_mul hp.den hq.den (by (first | lia | omega)) (by (first | lia | omega)) ?_
  repeat tm_at "e"
  refine rat_ct P (Int.mul_ne_zero (den_ne p) (den_ne q)) (hp.den.mul hq.den) (by (first | lia | omega)) ?_
  rw [add_divInt]; exact h
theorem rmul_ct (P : Pr G) {p q : Rat} {n m : Nat} (hp : Bd n p) (hq : Bd m q) (hn : n ≤ 4000) (hm : m ≤ 4000) (h : Q (ratV (p * q)) H) : CT G (k + 3) "rmul" [ratV p, ratV q] H Q := by
  refine CT_enter2 P.ok P.rmul (x := "a") (y := "b") (by decide +kernel) (fun _ _ _ _ _ => rfl) ?_
  refine TS_cons ?_
  repeat tm_at "e"
  refine PB_mul hp.num hq.num (by (first | lia | omega)) (by (first | lia | omega)) ?_
  repeat tm_at "e"
  refine PB_mul hp.den hq.den (by (first | lia | omega)) (by (first | lia | omega)) ?_
  repeat tm_at "e"
  refine rat_ct P (Int.mul_ne_zero (den_ne p) (den_ne q)) (hp.den.mul hq.den) (by (first | lia | omega)) ?_
  rw [mul_divInt]; exact h
theorem rdiv_ct (P : Pr G) {p q : Rat} {n m : Nat} (h0 : q ≠ 0) (hp : Bd n p) (hq : Bd m q) (hn : n ≤ 4000) (hm : m ≤ 4000) (h : Q (ratV (p / q)) H) : CT G (k + 3) "rdiv" [ratV p, ratV q] H Q := by
  refine CT_enter2 P.ok P.rdiv (x := "a") (y := "b") (by decide +kernel) (fun _ _ _ _ _ => rfl) ?_
  refine TS_cons ?_
  repeat tm_at "e"
  refine PB_mul hp.num hq.den (by (first | lia | omega)) (by (first | lia | omega)) ?_
  repeat tm_at "e"
  refine PB_mul hp.den hq.num (by (first | lia | omega)) (by (first | lia | omega)) ?_
  repeat tm_at "e"
  refine rat_ct P (Int.mul_ne_zero (den_ne p) (num_ne h0)) (hp.den.mul hq.num) (by (first | lia | omega)) ?_
  rw [div_divInt]; exact h
theorem rinv_ct (P : Pr G) {p : Rat} {n : Nat} (h0 : p ≠ 0) (hp : Bd n p) (hn : n ≤ 4000) (h : Q (ratV p⁻¹) H) : CT G (k + 3) "rinv" [ratV p] H Q := by
  refine CT_enter1 P.ok P.rinv (x := "a") (by decide +kernel) (fun _ _ _ _ => rfl) ?_
  refine TS_cons ?_
  repeat tm_at "e"
  refine rat_ct P (num_ne h0) hp.num (by (first | lia | omega)) ?_
  rw [inv_divInt']; exact h
theorem rneg_ct (P : Pr G) {p : Rat} (h : Q (ratV (-p)) H) : CT G (k + 1) "rneg" [ratV p] H Q := by
  refine CT_enter1 P.ok P.rneg (x := "a") (by decide +kernel) (fun _ _ _ _ => rfl) ?_
  refine TS_cons ?_
  repeat tm_at "e"
  refine ⟨lim_ok rfl, ?_⟩
  rw [Int.zero_sub, ← Rat.neg_num, ← Rat.neg_den]; exact h
end
end
section
noncomputable def nth (b : List Stmt) (i : Nat) : Stmt := b.getD i (.Pass ⟨0, 0, 0, 0⟩)
noncomputable def kid : Stmt → List Stmt
  | .For _ _ b _ _ => b
  | .While _ b _ _ => b
  | .If _ b _ _ => b
  | _ => []
section
variable {G : Gh} {k : Nat} {H : MH} {Q : V → MH → Prop}

theorem PB_pow2 {m : Nat} (hm : m ≤ 5000) (h : Q (.int ((2 : Int) ^ m)) H) : PBin G k (binaryOp .Pow) (.int 2) (.int (m : Int)) H Q := by
  refine PB_pow (by (first | lia | omega)) ?_ (by simpa using h)
  have e : (Builtin.Int.intBits 2 : Int) = 2 := by decide +kernel
  rw [e]; (first | lia | omega)
theorem pow2_pos (m : Nat) : (0 : Int) < 2 ^ m := Int.pow_pos (by decide)
theorem pow2_ge {m : Nat} (hm : 1 ≤ m) : (2 : Int) ≤ 2 ^ m := by
  obtain ⟨j, rfl⟩ : ∃ j, m = j + 1 := ⟨m - 1, by (first | lia | omega)⟩
  rw [Int.pow_succ]
  have := pow2_pos j
  (first | lia | omega)
theorem pow2_bi (m : Nat) : Bi m ((2 : Int) ^ m) := by
  unfold Bi
  rw [Int.natAbs_pow]; exact Nat.le_refl _
theorem bits_div {n : Int} {m r : Nat} (h0 : 0 ≤ n) (hm : 1 ≤ m) (hge : (2 : Int) ^ m ≤ n) (hr : n < (2 : Int) ^ r) : 0 ≤ n.fdiv (2 ^ m) ∧ n.fdiv (2 ^ m) < n ∧ m < r ∧ n.fdiv (2 ^ m) < (2 : Int) ^ (r - m) := by
  obtain ⟨N, rfl⟩ := Int.eq_ofNat_of_zero_le h0
  have e : ((N : Int)).fdiv (2 ^ m) = ((N / 2 ^ m : Nat) : Int) := by
    rw [Int.fdiv_eq_ediv_of_nonneg _ (Int.le_of_lt (pow2_pos m)), Int.natCast_ediv]; simp
  have hge' : 2 ^ m ≤ N := by exact_mod_cast hge
  have hr' : N < 2 ^ r := by exact_mod_cast hr
  have hp : 0 < N := Nat.lt_of_lt_of_le (Nat.pow_pos (by decide)) hge'
  have hmr : m < r := (Nat.pow_lt_pow_iff_right (by decide)).mp (Nat.lt_of_le_of_lt hge' hr')
  have h2 : 1 < 2 ^ m := Nat.one_lt_two_pow (by (first | lia | omega))
  rw [e]
  refine ⟨Int.natCast_nonneg _, ?_, hmr, ?_⟩
  · have := Nat.div_lt_self hp h2
    exact_mod_cast this
  · have : N / 2 ^ m < 2 ^ (r - m) := by
      refine Nat.div_lt_of_lt_mul ?_
      rw [← Nat.pow_add, Nat.add_sub_cancel' (Nat.le_of_lt hmr)]; exact hr'
    exact_mod_cast this

theorem bits_turn (P : Pr G) {m : Nat} (hm : 1 ≤ m) (hm2 : m ≤ 5000) {ρ : Rho} {n f : Int} {r T : Nat} {Q' : Fl → Rho → MH → Prop} (a1 : look ρ "n" = some (.int n)) (a2 : look ρ "found" = some (.int f)) {mi : Int} (a3 : look ρ "many" = some (.int mi)) (hmi : mi = (m : Int)) (h0 : 0 ≤ n) (h1 : 0 ≤ f) (h2 : n < (2 : Int) ^ r) (h3 : f + r = T)
    (h : ∀ ρ' n' f' (r' : Nat), look ρ' "n" = some (.int n') → look ρ' "found" = some (.int f') → 0 ≤ n' → 0 ≤ f' → n' < (2 : Int) ^ r' → f' + (r' : Nat) = T → n' < (2 : Int) ^ m → Q' .next ρ' H) : TS G k (sI 9) (kid (nth (bI 9) 1)) ρ H Q' := by
  subst hmi
  refine TS_cons ?_
  repeat tm_at "e"
  refine PB_pow2 hm2 ?_
  refine TS_cons ?_
  refine TX_While (fun c ρ H' => ∃ n f : Int, ∃ r : Nat, look ρ "n" = some (.int n) ∧ look ρ "found" = some (.int f) ∧ look ρ "many" = some (.int (m : Int)) ∧ look ρ "step" = some (.int ((2 : Int) ^ m)) ∧ 0 ≤ n ∧ 0 ≤ f ∧ n < (2 : Int) ^ r ∧ f + r = T ∧ c = n.natAbs ∧ H' = H) n.natAbs
    ⟨n, f, r, by tm_at "lk", by tm_at "lk", by tm_at "lk", by tm_at "lk", h0, h1, h2, h3, rfl, rfl⟩ ?_
  rintro c ρ H' ⟨n, f, r, b1, b2, b3, b4, g0, g1, g2, g3, rfl, rfl⟩
  repeat tm_at "e"
  by_cases hc : (2 : Int) ^ m ≤ n
  · simp only [hc, decide_true, if_true]
    obtain ⟨d1, d2, d3, d4⟩ := bits_div g0 hm hc g2
    tm_at "e"
    refine TX_AssignSw (names := ["n", "found"]) (by decide +kernel) ?_
    repeat tm_at "e"
    refine PB_fdiv (Int.ne_of_gt (pow2_pos m)) (pow2_bi m) (by (first | lia | omega)) ?_
    repeat tm_at "e"
    refine ⟨lim_ok rfl, _, rfl, rfl, ?_⟩
    simp only [List.reverse_cons, List.reverse_nil, List.nil_append, List.cons_append, bindN]
    repeat tm_at "e"
    exact ⟨_, by (first | lia | omega), _, _, r - m, by tm_at "lk", by tm_at "lk", by tm_at "lk", by tm_at "lk", d1, by (first | lia | omega), d4, by (first | lia | omega), rfl, rfl⟩
  · simp only [hc, decide_false, Bool.false_eq_true, if_false]
    repeat tm_at "e"
    exact h _ n f r b1 b2 g0 g1 g2 g3 (by (first | lia | omega))
theorem bits_ct (P : Pr G) {n : Int} {r : Nat} (h0 : 0 ≤ n) (hr : n < (2 : Int) ^ r) (h : ∀ m : Int, m ≤ r + 1 → Q (.int m) H) : CT G (k + 1) "bits_of" [.int n] H Q := by
  refine CT_enter1 P.ok P.bits (x := "n") (by decide +kernel) (fun _ _ _ _ => rfl) ?_
  refine TS_cons ?_
  repeat tm_at "e"
  refine TX_For (TI_val ?_) (by decide +kernel)
  repeat tm_at "e"
  refine ⟨lim_ok rfl, ⟨_, _, rfl⟩, trivial, _, rfl, ?_⟩
  refine bits_turn P (m := 4096) (mi := 4096) (n := n) (f := 0) (r := r) (T := r) (by decide) (by decide) (by tm_at "lk") (by tm_at "lk") (by tm_at "lk") rfl h0 (by decide) hr (by (first | lia | omega)) ?_
  intro ρ1 n1 f1 r1 a1 a2 a3 a4 a5 a6 _
  refine ⟨trivial, _, rfl, ?_⟩
  refine bits_turn P (m := 64) (mi := 64) (n := n1) (f := f1) (r := r1) (T := r) (by decide) (by decide) (by tm_at "lk") (by tm_at "lk") (by tm_at "lk") rfl a3 a4 a5 a6 ?_
  intro ρ2 n2 f2 r2 b1 b2 b3 b4 b5 b6 _
  refine ⟨trivial, _, rfl, ?_⟩
  refine bits_turn P (m := 1) (mi := 1) (n := n2) (f := f2) (r := r2) (T := r) (by decide) (by decide) (by tm_at "lk") (by tm_at "lk") (by tm_at "lk") rfl b3 b4 b5 b6 ?_
  intro ρ3 n3 f3 r3 c1 c2 c3 c4 c5 c6 c7
  refine ⟨trivial, ?_⟩
  repeat tm_at "e"
  exact h _ (by simp at c7; (first | lia | omega))
theorem vast_ct (P : Pr G) {q : Rat} {n : Nat} (hq : Bd n q) (hn : n ≤ 9000) (h : Q (.bool false) H) : CT G (k + 2) "is_vast" [ratV q] H Q := by
  refine CT_enter1 P.ok P.vast (x := "a") (by decide +kernel) (fun _ _ _ _ => rfl) ?_
  refine TS_cons ?_
  repeat tm_at "e"
  refine PB_pow2 (m := 64) (by decide) ?_
  repeat tm_at "e"
  generalize hg : max (q.num.natAbs : Int) (q.den : Int) = g
  have g0 : 0 ≤ g := by (first | lia | omega)
  have g1 : g < (2 : Int) ^ 9001 := by
    have h1 : (q.num.natAbs : Int) ≤ (2 : Int) ^ n := by exact_mod_cast hq.num
    have h2 : (q.den : Int) ≤ (2 : Int) ^ n := by have := hq.den; unfold Bi at this; simp at this; exact_mod_cast this
    have h3 : (2 : Int) ^ n < (2 : Int) ^ 9001 := Int.pow_lt_pow_of_lt (by decide) (by (first | lia | omega))
    (first | lia | omega)
  by_cases hc : (2 : Int) ^ 64 ≤ g
  · first | refine if_T hc ?_ | rw [decide_eq_true hc, if_pos rfl]
    repeat tm_at "e"
    refine bits_ct P g0 g1 fun m hm => ?_
    obtain ⟨t, hb⟩ := P.mbits
    refine TE_global P.ok hb (u := .int 200000) (fun _ _ _ => vInt) (by decide +kernel) ?_
    repeat tm_at "e"
    have : ¬ (200000 < m) := by (first | lia | omega)
    rw [decide_eq_false this]; exact h
  · first | refine if_F hc ?_ | rw [decide_eq_false hc, if_neg Bool.false_ne_true]
    exact h
end
end
section
section
variable {G : Gh} {k : Nat} {sc : Scope} {ρ : Rho} {H : MH} {Q : V → MH → Prop}

noncomputable abbrev kV (ks : List Int) : V := .tup (ks.map .int)
noncomputable def pE (es : List (List Int × Rat)) : Ent := es.map fun e => (e.1, ratV e.2)
noncomputable def dOf (z : List Int) (q : Rat) : List (List Int × Rat) := if q = 0 then [] else [(z, q)]
theorem dOf_zero (z : List Int) : dOf z 0 = [] := if_pos rfl
theorem dOf_ne {z : List Int} {q : Rat} (h : q ≠ 0) : dOf z q = [(z, q)] := if_neg h
theorem pre_get {H H' : MH} (h : H <+: H') {n : Nat} {o : O} (e : H[n]? = some o) : H'[n]? = some o := by
  obtain ⟨r, rfl⟩ := h
  rw [List.getElem?_append_left (List.getElem?_eq_some_iff.mp e).1]; exact e
theorem pre_len {H H' : MH} (h : H <+: H') : H.length ≤ H'.length := h.length_le
-- a new dict
noncomputable def Fresh (H H' : MH) (n : Nat) (es : Ent) : Prop := H <+: H' ∧ H.length ≤ n ∧ ∃ ep, H'[n]? = some (.dict es ep)
noncomputable def DictAt (H : MH) (n : Nat) (es : Ent) : Prop := ∃ ep, H[n]? = some (.dict es ep)
theorem DictAt.mono {H H' : MH} (h : H <+: H') {n : Nat} {es : Ent} (x : DictAt H n es) : DictAt H' n es := let ⟨ep, e⟩ := x; ⟨ep, pre_get h e⟩
theorem Fresh.at {H H' : MH} {n : Nat} {es : Ent} (x : Fresh H H' n es) : DictAt H' n es := x.2.2
theorem fresh_new (H : MH) (es : Ent) (ep : Nat) : Fresh H (H ++ [.dict es ep]) H.length es := ⟨List.prefix_append _ _, Nat.le_refl _, ep, by (first | exact get_new | simp)⟩
theorem Fresh.trans {H H₁ H₂ : MH} {n : Nat} {es : Ent} (h : H <+: H₁) (x : Fresh H₁ H₂ n es) : Fresh H H₂ n es := ⟨h.trans x.1, Nat.le_trans (pre_len h) x.2.1, x.2.2⟩
theorem set_last (H : MH) (a b : O) : (H ++ [a]).set H.length b = H ++ [b] := by simp

theorem PB_req {p q : Rat} (h : Q (.bool (decide (p = q))) H) : PBin G k (compareOp .Eq) (ratV p) (ratV q) H Q := by
  have := PB_teq (G := G) (k := k) (H := H) (Q := Q) (xs := [p.num, (p.den : Int)]) (ys := [q.num, (q.den : Int)])
  refine this ?_
  have e : decide ([p.num, (p.den : Int)] = [q.num, (q.den : Int)]) = decide (p = q) := by
    rw [decide_eq_decide]
    constructor
    · intro h
      injection h with h1 h2
      injection h2 with h2 _
      exact Rat.ext h1 (by (first | lia | omega))
    · rintro rfl; rfl
  rw [e]; exact h
theorem TE_R0 (P : Pr G) {pos : Pos} (hk : sc.names.lookup ("R0" : Str) = some .globalImplicit) (h : Q (ratV 0) H) : TE G k sc (.Name "R0" pos) ρ H Q := by
  obtain ⟨v, h1, h2⟩ := P.r0
  exact TE_global P.ok h1 h2 hk h
theorem TE_R1 (P : Pr G) {pos : Pos} (hk : sc.names.lookup ("R1" : Str) = some .globalImplicit) (h : Q (ratV 1) H) : TE G k sc (.Name "R1" pos) ρ H Q := by
  obtain ⟨v, h1, h2⟩ := P.r1
  exact TE_global P.ok h1 h2 hk h

theorem mvterm_ct (P : Pr G) {ks : List Int} {q : Rat} (h : ∀ n H', Fresh H H' n (pE (dOf ks q)) → Q (.loc n) H') : CT G (k + 1) "mvterm" [kV ks, ratV q] H Q := by
  refine CT_enter2 P.ok P.mvterm (x := "powers") (y := "rational") (by decide +kernel) (fun _ _ _ _ _ => rfl) ?_
  refine TS_cons ?_
  repeat tm_at "e"
  refine TE_R0 P (by decide +kernel) (PB_req ?_)
  repeat tm_at "e"
  by_cases hq : q = 0
  · subst hq
    simp only [decide_true, if_true]
    repeat tm_at "e"
    exact h _ _ (dOf_zero ks ▸ fresh_new H [] 0)
  · simp only [hq, decide_false, Bool.false_eq_true, if_false]
    repeat tm_at "e"
    refine ⟨ks, [], 0, rfl, by (first | exact get_new | simp), lim_ok rfl, fun ep' => ?_⟩
    rw [set_last]
    exact h _ _ (dOf_ne hq ▸ fresh_new H _ ep')
theorem mvnumber_ct (P : Pr G) {n : Nat} {q : Rat} (hn : n ≤ 2) (h : ∀ m H', Fresh H H' m (pE (dOf (List.replicate n 0) q)) → Q (.loc m) H') : CT G (k + 2) "mvnumber" [ratV q, .int (n : Int)] H Q := by
  refine CT_enter2 P.ok P.mvnumber (x := "rational") (y := "n") (by decide +kernel) (fun _ _ _ _ _ => rfl) ?_
  refine TS_cons ?_
  repeat tm_at "e"
  refine ⟨lim_ok rfl, ?_⟩
  repeat tm_at "e"
  refine PB_tmul (by (first | lia | omega)) (by (first | lia | omega)) ?_
  repeat tm_at "e"
  have e : V.tup (List.replicate (n : Int).toNat (V.int 0)) = kV (List.replicate n 0) := by simp [kV]
  rw [e]
  exact mvterm_ct P h

theorem pE_get_none {es : List (List Int × Rat)} {ks : List Int} (h : ∀ e ∈ es, e.1 ≠ ks) : dget (pE es) ks = none := by
  induction es with
  | nil => rfl
  | cons e r ih =>
    have := ih fun x hx => h x (List.mem_cons_of_mem _ hx)
    have h0 := h e List.mem_cons_self
    simp only [pE, dget, List.map_cons, List.find?_cons, h0, decide_false] at this ⊢
    exact this
theorem pE_put_new {es : List (List Int × Rat)} {ks : List Int} {q : Rat} (h : ∀ e ∈ es, e.1 ≠ ks) : dput (pE es) ks (ratV q) = pE (es ++ [(ks, q)]) := by
  induction es with
  | nil => rfl
  | cons e r ih =>
    have := ih fun x hx => h x (List.mem_cons_of_mem _ hx)
    have h0 := h e List.mem_cons_self
    simp only [pE, List.map_cons, List.cons_append, dput, h0, if_false] at this ⊢
    rw [this]
theorem add_new_ct (P : Pr G) {n ep : Nat} {es : List (List Int × Rat)} {ks : List Int} {q : Rat} (hn : H[n]? = some (.dict (pE es) ep)) (hl : es.length < lim) (hks : ∀ e ∈ es, e.1 ≠ ks) (hq : q ≠ 0)
    (h : ∀ u ep', Q u (H.set n (.dict (pE (es ++ [(ks, q)])) ep'))) : CT G (k + 1) "add_term" [.loc n, kV ks, ratV q] H Q := by
  refine CT_enter3 P.ok P.add_term (x := "found") (y := "powers") (z := "rational") (by decide +kernel) (fun _ _ _ _ _ _ => rfl) ?_
  refine TS_cons ?_
  repeat tm_at "e"
  refine PB_in hn ?_
  repeat tm_at "e"
  rw [pE_get_none hks]
  simp only [Option.isSome_none, Bool.false_eq_true, if_false]
  repeat tm_at "e"
  refine TE_R0 P (by decide +kernel) (PB_req ?_)
  repeat tm_at "e"
  simp only [hq, decide_false, Bool.false_eq_true, if_false]
  tm_at "e"
  refine TX_SetItem ?_
  repeat tm_at "e"
  refine PS_dict hn (by simpa [pE] using hl) fun ep' => ?_
  rw [pE_put_new hks]
  repeat tm_at "e"
  exact h _ ep'
theorem add_one_ct (P : Pr G) {n ep m m' : Nat} {ks : List Int} {p q : Rat} (hn : H[n]? = some (.dict (pE [(ks, p)]) ep)) (hp : Bd m p) (hq : Bd m' q) (hm : m ≤ 4000) (hm' : m' ≤ 4000)
    (h : ∀ u ep', Q u (H.set n (.dict (pE (dOf ks (p + q))) ep'))) : CT G (k + 4) "add_term" [.loc n, kV ks, ratV q] H Q := by
  refine CT_enter3 P.ok P.add_term (x := "found") (y := "powers") (z := "rational") (by decide +kernel) (fun _ _ _ _ _ _ => rfl) ?_
  have hg : dget (pE [(ks, p)]) ks = some (ratV p) := by simp [dget, pE]
  refine TS_cons ?_
  repeat tm_at "e"
  refine PB_in hn ?_
  repeat tm_at "e"
  rw [hg]
  simp only [Option.isSome_some, if_true]
  repeat tm_at "e"
  refine PI_dict hn hg ?_
  repeat tm_at "e"
  refine radd_ct P hp hq hm hm' ?_
  repeat tm_at "e"
  refine TE_R0 P (by decide +kernel) (PB_req ?_)
  repeat tm_at "e"
  by_cases hz : p + q = 0
  · simp only [hz, decide_true, if_true]
    tm_at "e"
    refine TX_Expr ?_ rfl
    refine TE_MethodD PySem.F.slot_dict_pop PySem.F.type_dict_pop ?_
    tm_at "e"
    refine ⟨⟨n, _, _, rfl, hn⟩, ?_⟩
    repeat tm_at "e"
    refine CB_pop1 (u := ratV p) hn fun ep' => ?_
    repeat tm_at "e"
    have := h V.none ep'
    rw [hz, dOf_zero] at this
    exact this
  · simp only [hz, decide_false, Bool.false_eq_true, if_false]
    tm_at "e"
    refine TX_SetItem ?_
    repeat tm_at "e"
    refine PS_dict hn (by simp [pE, lim]) fun ep' => ?_
    repeat tm_at "e"
    have := h V.none ep'
    rw [dOf_ne hz] at this
    have e : dput (pE [(ks, p)]) ks (ratV (p + q)) = pE [(ks, p + q)] := by simp [dput, pE]
    rw [e]
    exact this
end
end
section
section
variable {G : Gh} {k : Nat} {sc : Scope} {ρ : Rho} {H : MH} {Q : V → MH → Prop}

theorem pE_get_one (ks : List Int) (q : Rat) : dget (pE [(ks, q)]) ks = some (ratV q) := by simp [dget, pE]
theorem row_items (ks : List Int) (q : Rat) : (Src.dict n (pE [(ks, q)]) ep).items = [kV ks] := rfl

-- the sum of two rows
theorem mvadd_ct (P : Pr G) {n m a b : Nat} {z : List Int} {p q : Rat} (hn : DictAt H n (pE (dOf z p))) (hm : DictAt H m (pE (dOf z q))) (hp : Bd a p) (hq : Bd b q) (ha : a ≤ 4000) (hb : b ≤ 4000)
    (h : ∀ r H', Fresh H H' r (pE (dOf z (p + q))) → Q (.loc r) H') : CT G (k + 5) "mvadd" [.loc n, .loc m] H Q := by
  refine CT_enter2 P.ok P.mvadd (x := "a") (y := "b") (by decide +kernel) (fun _ _ _ _ _ => rfl) ?_
  obtain ⟨ep1, hn⟩ := hn
  obtain ⟨ep2, hm⟩ := hm
  have hpl : (pE (dOf z p)).length ≤ 1 := by unfold dOf; split <;> simp [pE]
  refine TS_cons ?_
  repeat tm_at "e"
  refine CB_dict hn hpl fun ep' => ?_
  repeat tm_at "e"
  refine TX_For (TI_val ?_) (by decide +kernel)
  repeat tm_at "e"
  have hm' := pre_get (List.prefix_append H [.dict (pE (dOf z p)) ep']) hm
  simp only [hm']
  refine ⟨⟨_, _, rfl⟩, ?_⟩
  by_cases hq0 : q = 0
  · subst hq0
    rw [dOf_zero]
    refine ⟨by rw [dOf_zero] at hm'; exact hm', ?_⟩
    repeat tm_at "e"
    have := h H.length _ (fresh_new H _ ep')
    rw [Rat.add_zero] at this
    exact this
  · rw [dOf_ne hq0] at hm' ⊢
    refine ⟨hm', _, rfl, ?_⟩
    refine TS_cons ?_
    refine TX_Expr ?_ rfl
    repeat tm_at "e"
    refine PI_dict hm' (pE_get_one z q) ?_
    repeat tm_at "e"
    have fin : ∀ ep'', Fresh H ((H ++ [O.dict (pE (dOf z p)) ep']).set H.length (.dict (pE (dOf z (p + q))) ep'')) H.length (pE (dOf z (p + q))) := fun ep'' => by rw [set_last]; exact fresh_new H _ ep''
    have okm : ∀ ep'', ((H ++ [O.dict (pE (dOf z p)) ep']).set H.length (.dict (pE (dOf z (p + q))) ep''))[m]? = some (.dict (pE [(z, q)]) ep2) := fun ep'' => by
      rw [set_last]
      have := pre_get (List.prefix_append H [.dict (pE (dOf z (p + q))) ep'']) hm
      rw [dOf_ne hq0] at this; exact this
    by_cases hp0 : p = 0
    · subst hp0
      rw [Rat.zero_add, dOf_ne hq0] at fin okm h
      rw [dOf_zero] at fin okm ⊢
      refine add_new_ct P (es := []) (by simp [pE]; rfl) (lim_ok rfl) (fun _ hx => nomatch hx) hq0 fun u ep'' => ?_
      repeat tm_at "e"
      refine ⟨okm ep'', ?_⟩
      repeat tm_at "e"
      exact h _ _ (fin ep'')
    · have e1 : (H ++ [O.dict (pE (dOf z p)) ep'])[H.length]? = some (.dict (pE [(z, p)]) ep') := by rw [dOf_ne hp0]; simp
      refine add_one_ct P e1 hp hq ha hb fun u ep'' => ?_
      repeat tm_at "e"
      refine ⟨okm ep'', ?_⟩
      repeat tm_at "e"
      exact h _ _ (fin ep'')

-- minus a row
theorem mvneg_ct (P : Pr G) {n : Nat} {z : List Int} {p : Rat} (hn : DictAt H n (pE (dOf z p))) (h : ∀ r H', Fresh H H' r (pE (dOf z (-p))) → Q (.loc r) H') : CT G (k + 2) "mvneg" [.loc n] H Q := by
  refine CT_enter1 P.ok P.mvneg (x := "a") (by decide +kernel) (fun _ _ _ _ => rfl) ?_
  obtain ⟨ep1, hn⟩ := hn
  refine TS_cons ?_
  repeat tm_at "e"
  refine TE_DictComp (by decide +kernel) (by decide +kernel) (TI_val ?_)
  repeat tm_at "e"
  simp only [hn]
  refine ⟨⟨_, _, rfl⟩, ?_⟩
  by_cases hp0 : p = 0
  · subst hp0
    rw [dOf_zero] at hn ⊢
    refine ⟨hn, [], 0, rfl, ?_⟩
    have := h H.length _ (fresh_new H _ 0)
    rw [show -(0 : Rat) = 0 from rfl, dOf_zero] at this
    exact this
  · rw [dOf_ne hp0] at hn ⊢
    refine ⟨hn, _, rfl, [], 0, rfl, lim_ok rfl, ?_⟩
    repeat tm_at "e"
    refine PI_dict hn (pE_get_one z p) ?_
    repeat tm_at "e"
    refine rneg_ct P ?_
    refine ⟨z, rfl, fun ep' => ⟨hn, _, _, rfl, ?_⟩⟩
    have hne : -p ≠ 0 := by intro q; apply hp0; have : p = -(-p) := by simp
                            rw [this, q]; rfl
    have := h H.length _ (fresh_new H _ ep')
    rw [dOf_ne hne] at this
    exact this
theorem mvsub_ct (P : Pr G) {n m a b : Nat} {z : List Int} {p q : Rat} (hn : DictAt H n (pE (dOf z p))) (hm : DictAt H m (pE (dOf z q))) (hp : Bd a p) (hq : Bd b q) (ha : a ≤ 4000) (hb : b ≤ 4000)
    (h : ∀ r H', Fresh H H' r (pE (dOf z (p - q))) → Q (.loc r) H') : CT G (k + 6) "mvsub" [.loc n, .loc m] H Q := by
  refine CT_enter2 P.ok P.mvsub (x := "a") (y := "b") (by decide +kernel) (fun _ _ _ _ _ => rfl) ?_
  refine TS_cons ?_
  repeat tm_at "e"
  refine mvneg_ct P (k := k + 3) hm fun r H₁ F => ?_
  repeat tm_at "e"
  refine mvadd_ct P (hn.mono F.1) F.at hp hq.neg ha hb fun r' H₂ F' => h _ _ ?_
  rw [show p - q = p + -q from Rat.sub_eq_add_neg _ _]
  exact F'.trans F.1

-- powers
theorem product_ct (P : Pr G) {as bs : List Int} (hl : as.length = bs.length) (h2 : as.length ≤ 2) (h : ∀ H', H <+: H' → Q (kV (List.zipWith (· + ·) as bs)) H') : CT G (k + 1) "powers_product" [kV as, kV bs] H Q := by
  refine CT_enter2 P.ok P.product (x := "a") (y := "b") (by decide +kernel) (fun _ _ _ _ _ => rfl) ?_
  refine TS_cons ?_
  repeat tm_at "e"
  refine TE_ListComp (by decide +kernel) (by decide +kernel) (TI_enum P.ok (by decide +kernel) (by tm_at "nb") ?_)
  repeat tm_at "e"
  refine ⟨⟨_, _, _, rfl⟩, ?_⟩
  match as, bs, hl, h2 with
  | [], [], _, _ =>
    refine ⟨trivial, [], rfl, ?_⟩
    repeat tm_at "e"
    refine CB_tuple (by simp; rfl) ?_
    exact h _ (List.prefix_append _ _)
  | [x], [y], _, _ =>
    refine ⟨trivial, _, rfl, [], rfl, lim_ok rfl, ?_⟩
    simp only [kV, List.map_cons, List.map_nil]
    repeat tm_at "e"
    refine ⟨trivial, _, rfl, ?_⟩
    repeat tm_at "e"
    refine CB_tuple (by simp; rfl) ?_
    exact h _ (List.prefix_append _ _)
  | [x, x'], [y, y'], _, _ =>
    refine ⟨trivial, _, rfl, [], rfl, lim_ok rfl, ?_⟩
    simp only [kV, List.map_cons, List.map_nil]
    repeat tm_at "e"
    refine ⟨trivial, _, rfl, _, rfl, lim_ok rfl, ?_⟩
    repeat tm_at "e"
    refine ⟨trivial, _, rfl, ?_⟩
    repeat tm_at "e"
    refine CB_tuple (by simp; rfl) ?_
    exact h _ (List.prefix_append _ _)
end
end
section
section
variable {G : Gh} {k : Nat} {sc : Scope} {ρ : Rho} {H : MH} {Q : V → MH → Prop}

theorem TS.mono {b : List Stmt} {Q Q' : Fl → Rho → MH → Prop} (h : TS G k sc b ρ H Q) (hq : ∀ f ρ H, Q f ρ H → Q' f ρ H) : TS G k sc b ρ H Q' :=
  fun env A E s μ hs hA V R => wpAny_mono (h env A E s μ hs hA V R) (fun f s' ⟨fl, ρ', H', μ', X, R', V', hf, q⟩ => ⟨fl, ρ', H', μ', X, R', V', hf, hq _ _ _ q⟩) fun _ _ e => e
-- what is asked behind a turn of a for
noncomputable abbrev forQ (I : Rho → MH → Prop) (Q : Fl → Rho → MH → Prop) : Fl → Rho → MH → Prop := fun fl ρ₂ H₂ => match fl with
      | .next => I ρ₂ H₂
      | .cont => I ρ₂ H₂
      | .brk => Q .next ρ₂ H₂
      | .ret w => Q (.ret w) ρ₂ H₂
theorem loopS_ind {tg : Expr} {body : List Stmt} {ok : MH → Prop} {Q : Fl → Rho → MH → Prop} (I : List V → Rho → MH → Prop)
    (nil : ∀ ρ H, I [] ρ H → ok H ∧ Q .next ρ H)
    (cons : ∀ u us ρ H, I (u :: us) ρ H → ok H ∧ ∃ ρ₁, bindT tg u ρ = some ρ₁ ∧ TS G k sc body ρ₁ H (forQ (I us) Q)) : ∀ (us : List V) (ρ : Rho) (H : MH), I us ρ H → LoopS G k sc tg body ok Q us ρ H
  | [], ρ, H, h => nil ρ H h
  | u :: us, ρ, H, h => by
    obtain ⟨h1, ρ₁, h2, h3⟩ := cons u us ρ H h
    refine ⟨h1, ρ₁, h2, h3.mono fun f ρ H q => ?_⟩
    cases f with
    | next => exact loopS_ind I nil cons us ρ H q
    | cont => exact loopS_ind I nil cons us ρ H q
    | brk => exact q
    | ret w => exact q
-- the turn speaks of a J that the invariant gives
theorem loopS_indJ {tg : Expr} {body : List Stmt} {ok : MH → Prop} {Q : Fl → Rho → MH → Prop} (I : List V → Rho → MH → Prop)
    (nil : ∀ ρ H, I [] ρ H → ok H ∧ Q .next ρ H)
    (cons : ∀ u us ρ H, I (u :: us) ρ H → ok H ∧ ∃ ρ₁, bindT tg u ρ = some ρ₁ ∧ ∀ J : Fl → Rho → MH → Prop, (∀ ρ H, I us ρ H → J .next ρ H ∧ J .cont ρ H) → (∀ w ρ H, Q (.ret w) ρ H → J (.ret w) ρ H) → TS G k sc body ρ₁ H J) (us : List V) (ρ : Rho) (H : MH) (h : I us ρ H) : LoopS G k sc tg body ok Q us ρ H :=
  loopS_ind I nil (fun u us ρ H h => let ⟨a, ρ₁, b, c⟩ := cons u us ρ H h; ⟨a, ρ₁, b, c (forQ (I us) Q) (fun _ _ q => ⟨q, q⟩) fun _ _ _ q => q⟩) us ρ H h
noncomputable def EmMono (em : Rho → O → MH → (Rho → O → MH → Prop) → Prop) : Prop := ∀ ρ acc H (K K' : Rho → O → MH → Prop), (∀ ρ a H, K ρ a H → K' ρ a H) → em ρ acc H K → em ρ acc H K'
theorem emL_mono {elt : Expr} : EmMono (emL G k sc elt) := fun ρ acc H K K' hk ⟨l, e, hl, h⟩ => ⟨l, e, hl, h.mono fun _ _ q => hk _ _ _ q⟩
theorem emD_mono {kx vx : Expr} : EmMono (emD G k sc kx vx) := fun ρ acc H K K' hk ⟨l, ep, e, hl, h⟩ => ⟨l, ep, e, hl, h.mono fun _ _ q => q.mono fun _ _ ⟨ks, e, q⟩ => ⟨ks, e, fun ep' => hk _ _ _ (q ep')⟩⟩
theorem loopC_ind {em : Rho → O → MH → (Rho → O → MH → Prop) → Prop} {tg : Expr} {ok : MH → Prop} {Q : Rho → O → MH → Prop} (hm : EmMono em) (I : List V → Rho → O → MH → Prop)
    (nil : ∀ ρ acc H, I [] ρ acc H → ok H ∧ Q ρ acc H)
    (cons : ∀ u us ρ acc H, I (u :: us) ρ acc H → ok H ∧ ∃ ρ₁, bindT tg u ρ = some ρ₁ ∧ em ρ₁ acc H fun ρ₂ acc' H₂ => I us ρ₂ acc' H₂) : ∀ (us : List V) (ρ : Rho) (acc : O) (H : MH), I us ρ acc H → LoopC em tg ok Q us ρ acc H
  | [], ρ, acc, H, h => nil ρ acc H h
  | u :: us, ρ, acc, H, h => by
    obtain ⟨h1, ρ₁, h2, h3⟩ := cons u us ρ acc H h
    exact ⟨h1, ρ₁, h2, hm _ _ _ _ _ (fun ρ a H q => loopC_ind hm I nil cons us ρ a H q) h3⟩
theorem loopC_indJ {em : Rho → O → MH → (Rho → O → MH → Prop) → Prop} {tg : Expr} {ok : MH → Prop} {Q : Rho → O → MH → Prop} (hm : EmMono em) (I : List V → Rho → O → MH → Prop)
    (nil : ∀ ρ acc H, I [] ρ acc H → ok H ∧ Q ρ acc H)
    (cons : ∀ u us ρ acc H, I (u :: us) ρ acc H → ok H ∧ ∃ ρ₁, bindT tg u ρ = some ρ₁ ∧ ∀ J : Rho → O → MH → Prop, (∀ ρ acc H, I us ρ acc H → J ρ acc H) → em ρ₁ acc H J) (us : List V) (ρ : Rho) (acc : O) (H : MH) (h : I us ρ acc H) : LoopC em tg ok Q us ρ acc H :=
  loopC_ind hm I nil (fun u us ρ acc H h => let ⟨a, ρ₁, b, c⟩ := cons u us ρ acc H h; ⟨a, ρ₁, b, c (I us) fun _ _ _ q => q⟩) us ρ acc H h

noncomputable abbrev PL := List (List Int × Rat)
theorem pE_get {es : PL} (hn : (es.map (·.1)).Nodup) {e : List Int × Rat} (he : e ∈ es) : dget (pE es) e.1 = some (ratV e.2) := by
  induction es with
  | nil => cases he
  | cons x r ih =>
    simp only [pE, dget, List.map_cons, List.find?_cons] at ih ⊢
    by_cases hx : x.1 = e.1
    · simp only [hx, decide_true, Option.map_some]
      rcases List.mem_cons.mp he with rfl | h
      · rfl
      · exact absurd (List.mem_map.mpr ⟨e, h, hx.symm⟩) (List.nodup_cons.mp hn).1
    · simp only [hx, decide_false]
      rcases List.mem_cons.mp he with rfl | h
      · exact absurd rfl hx
      · exact ih (List.nodup_cons.mp hn).2 h

theorem mvscale_ct (P : Pr G) {n m m' : Nat} {es : PL} {q : Rat} (hn : DictAt H n (pE es)) (hnd : (es.map (·.1)).Nodup) (hl : es.length < lim) (hb : ∀ e ∈ es, Bd m e.2) (hq : Bd m' q) (hq0 : q ≠ 0) (hm : m ≤ 4000) (hm' : m' ≤ 4000)
    (h : ∀ r H', Fresh H H' r (pE (es.map fun e => (e.1, e.2 * q))) → Q (.loc r) H') : CT G (k + 4) "mvscale" [.loc n, ratV q] H Q := by
  refine CT_enter2 P.ok P.mvscale (x := "a") (y := "rational") (by decide +kernel) (fun _ _ _ _ _ => rfl) ?_
  obtain ⟨ep1, hn⟩ := hn
  refine TS_cons ?_
  repeat tm_at "e"
  refine TE_R0 P (by decide +kernel) (PB_req ?_)
  repeat tm_at "e"
  simp only [hq0, decide_false, Bool.false_eq_true, if_false]
  repeat tm_at "e"
  refine TE_DictComp (by decide +kernel) (by decide +kernel) (TI_val ?_)
  repeat tm_at "e"
  simp only [hn]
  refine ⟨⟨_, _, rfl⟩, ?_⟩
  refine loopC_ind emD_mono (fun us ρ acc H' => ∃ done rest ep, es = done ++ rest ∧ us = rest.map (fun e => kV e.1) ∧ acc = .dict (pE (done.map fun e => (e.1, e.2 * q))) ep ∧ H' = H ∧ look ρ "a" = some (.loc n) ∧ look ρ "rational" = some (ratV q)) ?_ ?_ _ _ _ _ ⟨[], es, 0, rfl, ?_, rfl, rfl, by tm_at "lk", by tm_at "lk"⟩
  · rintro ρ acc H' ⟨done, rest, ep, e1, e2, rfl, rfl, _, _⟩
    have : rest = [] := by
      cases rest with
      | nil => rfl
      | cons _ _ => cases e2
    subst this
    rw [List.append_nil] at e1; subst e1
    exact ⟨hn, _, _, rfl, h _ _ (fresh_new _ _ ep)⟩
  · rintro u us ρ acc H' ⟨done, rest, ep, e1, e2, rfl, rfl, l1, l2⟩
    cases rest with
    | nil => cases e2
    | cons e rest =>
      simp only [List.map_cons] at e2
      injection e2 with e2 e3
      subst e2 e3
      have he : e ∈ es := by rw [e1]; simp
      have hlen : done.length < lim := by have := congrArg List.length e1; simp at this; (first | lia | omega)
      refine ⟨hn, _, rfl, _, _, rfl, by simpa [pE] using hlen, ?_⟩
      repeat tm_at "e"
      refine PI_dict hn (pE_get hnd he) ?_
      repeat tm_at "e"
      refine rmul_ct P (hb e he) hq hm hm' ?_
      refine ⟨e.1, rfl, fun ep' => ⟨done ++ [e], rest, ep', by simp [e1], rfl, ?_, rfl, by tm_at "lk", by tm_at "lk"⟩⟩
      rw [List.map_append]
      refine congrArg (fun x => O.dict x ep') (pE_put_new (es := done.map fun e => (e.1, e.2 * q)) (ks := e.1) (q := e.2 * q) fun x hx => ?_)
      obtain ⟨y, hy, rfl⟩ := List.mem_map.mp hx
      intro hc
      rw [e1, List.map_append, List.nodup_append] at hnd
      exact hnd.2.2 y.1 (List.mem_map.mpr ⟨y, hy, rfl⟩) e.1 (by (first | exact get_new | simp)) hc
  · simp [pE, List.map_map, Src.items]
end
end
section
section
variable {G : Gh} {k : Nat} {sc : Scope} {ρ : Rho} {H : MH} {Q : V → MH → Prop}

theorem pre_set {H H' : MH} (h : H <+: H') {n : Nat} (hn : H.length ≤ n) (o : O) : H <+: H'.set n o := by
  obtain ⟨r, rfl⟩ := h
  rw [List.set_append_right _ _ hn]
  exact List.prefix_append _ _
theorem get_set {H : MH} {n : Nat} {o o' : O} (h : H[n]? = some o) : (H.set n o')[n]? = some o' := by
  have := (List.getElem?_eq_some_iff.mp h).1
  simp [this]
theorem zip_zero : ∀ (ks : List Int), List.zipWith (· + ·) (List.replicate ks.length 0) ks = ks
  | [] => rfl
  | a :: r => by simp [List.replicate_succ, zip_zero r]
noncomputable abbrev zr (n : Nat) : List Int := List.replicate n 0
theorem row_keys (z : List Int) (p : Rat) : ((dOf z p).map (·.1)).Nodup := by unfold dOf; split <;> simp
noncomputable def mulR (p : Rat) (es : PL) : PL := if p = 0 then [] else es.map fun e => (e.1, p * e.2)

theorem mvmul_ct (P : Pr G) {n i j a b : Nat} {p : Rat} {es : PL} (hi : DictAt H i (pE (dOf (zr n) p))) (hj : DictAt H j (pE es)) (hn2 : n ≤ 2) (hnd : (es.map (·.1)).Nodup) (hl : es.length < lim) (hkl : ∀ e ∈ es, e.1.length = n) (hv : ∀ e ∈ es, e.2 ≠ 0)
    (hp : Bd a p) (hb : ∀ e ∈ es, Bd b e.2) (ha4 : a ≤ 4000) (hb4 : b ≤ 4000)
    (h : ∀ r H', Fresh H H' r (pE (mulR p es)) → Q (.loc r) H') : CT G (k + 4) "mvmul" [.loc i, .loc j] H Q := by
  refine CT_enter2 P.ok P.mvmul (x := "a") (y := "b") (by decide +kernel) (fun _ _ _ _ _ => rfl) ?_
  obtain ⟨ep1, hi⟩ := hi
  obtain ⟨ep2, hj⟩ := hj
  refine TS_cons ?_
  repeat tm_at "e"
  refine TX_For (TI_val ?_) (by decide +kernel)
  repeat tm_at "e"
  have hj' := pre_get (List.prefix_append H [.dict [] 0]) hj
  simp only [hj']
  refine ⟨⟨_, _, rfl⟩, ?_⟩
  refine loopS_ind (fun us ρ H' => ∃ (done rest : PL) (ep : Nat), es = done ++ rest ∧ us = rest.map (fun e => kV e.1) ∧ H <+: H' ∧ H'[H.length]? = some (.dict (pE (mulR p done)) ep) ∧ look ρ "a" = some (.loc i) ∧ look ρ "b" = some (.loc j) ∧ look ρ "found" = some (.loc H.length)) ?_ ?_ _ _ _ ⟨[], es, 0, rfl, ?_, List.prefix_append _ _, ?_, by tm_at "lk", by tm_at "lk", by tm_at "lk"⟩
  · rintro ρ H' ⟨done, rest, ep, e1, e2, hp', hf, l1, l2, l3⟩
    have : rest = [] := by
      cases rest with
      | nil => rfl
      | cons _ _ => cases e2
    subst this
    rw [List.append_nil] at e1; subst e1
    refine ⟨pre_get hp' hj, ?_⟩
    repeat tm_at "e"
    exact h _ _ ⟨hp', Nat.le_refl _, ep, hf⟩
  · rintro u us ρ H' ⟨done, rest, ep, e1, e2, hp', hf, l1, l2, l3⟩
    cases rest with
    | nil => cases e2
    | cons e rest =>
      simp only [List.map_cons] at e2
      injection e2 with e2 e3
      subst e2 e3
      have he : e ∈ es := by rw [e1]; simp
      have hlen : done.length < lim := by have := congrArg List.length e1; simp at this; (first | lia | omega)
      refine ⟨pre_get hp' hj, _, rfl, ?_⟩
      refine TS_cons (TX_For (TI_val ?_) (by decide +kernel))
      repeat tm_at "e"
      have hi' := pre_get hp' hi
      simp only [hi']
      refine ⟨⟨_, _, rfl⟩, ?_⟩
      by_cases hp0 : p = 0
      · subst hp0
        rw [dOf_zero] at hi' ⊢
        refine ⟨hi', ?_⟩
        repeat tm_at "e"
        refine ⟨done ++ [e], rest, ep, by simp [e1], rfl, hp', ?_, by tm_at "lk", by tm_at "lk", by tm_at "lk"⟩
        simp only [mulR, if_true] at hf ⊢
        exact hf
      · rw [dOf_ne hp0] at hi' ⊢
        refine ⟨hi', _, rfl, ?_⟩
        refine TS_cons ?_
        refine TX_Expr ?_ rfl
        repeat tm_at "e"
        have hzl : (zr n).length = e.1.length := by simp [hkl e he]
        refine product_ct P hzl (by simpa using hn2) fun H₁ hH₁ => ?_
        have hz : List.zipWith (· + ·) (zr n) e.1 = e.1 := by
          have := zip_zero e.1
          rw [hkl e he] at this; exact this
        rw [hz]
        repeat tm_at "e"
        refine PI_dict (pre_get hH₁ hi') (pE_get_one _ _) ?_
        repeat tm_at "e"
        refine PI_dict (pre_get hH₁ (pre_get hp' hj)) (pE_get hnd he) ?_
        repeat tm_at "e"
        refine rmul_ct P hp (hb e he) ha4 hb4 ?_
        repeat tm_at "e"
        have hf1 := pre_get hH₁ hf
        have hm : mulR p done = done.map fun e => (e.1, p * e.2) := if_neg hp0
        rw [hm] at hf1
        have hne : p * e.2 ≠ 0 := fun q => (Rat.mul_eq_zero.mp q).elim hp0 (hv e he)
        refine add_new_ct P hf1 (by simpa using hlen) (fun x hx => ?_) hne fun u ep' => ?_
        · obtain ⟨y, hy, rfl⟩ := List.mem_map.mp hx
          intro hc
          rw [e1, List.map_append, List.nodup_append] at hnd
          exact hnd.2.2 y.1 (List.mem_map.mpr ⟨y, hy, rfl⟩) e.1 (by (first | exact get_new | simp)) hc
        · have hp2 : H <+: H₁.set H.length (.dict (pE ((done.map fun e => (e.1, p * e.2)) ++ [(e.1, p * e.2)])) ep') := pre_set (hp'.trans hH₁) (Nat.le_refl _) _
          repeat tm_at "e"
          have hi2 := pre_get hp2 hi
          rw [dOf_ne hp0] at hi2
          refine ⟨hi2, ?_⟩
          repeat tm_at "e"
          refine ⟨done ++ [e], rest, ep', by simp [e1], rfl, hp2, ?_, by tm_at "lk", by tm_at "lk", by tm_at "lk"⟩
          rw [get_set hf1]
          simp [mulR, hp0]
  · simp [pE, List.map_map, Src.items]
  · simp [mulR, pE]
end
end
section
section
variable {G : Gh} {k : Nat} {sc : Scope} {ρ : Rho} {H : MH} {Q : V → MH → Prop}

theorem okey_ct (P : Pr G) {ks : List Int} (h : Q (kV ks) H) : CT G (k + 1) "order_key" [.str "lex", kV ks] H Q := by
  refine CT_enter2 P.ok P.okey (x := "order") (y := "powers") (by decide +kernel) (fun _ _ _ _ _ => rfl) ?_
  refine TS_cons ?_
  repeat tm_at "e"
  simp only [beq_self_eq_true, if_true]
  repeat tm_at "e"
  exact h
noncomputable def lastV (es : PL) : V := match es.getLast? with
  | none => .none
  | some e => kV e.1
theorem lastV_snoc (es : PL) (e : List Int × Rat) : lastV (es ++ [e]) = kV e.1 := by simp [lastV]
noncomputable def Asc (es : PL) : Prop := ∀ d e e' r, es = d ++ e :: e' :: r → gtL e'.1 e.1 = true
theorem mvlead_ct (P : Pr G) {i n : Nat} {es : PL} {e : List Int × Rat} {d : PL} (hi : DictAt H i (pE es)) (hnd : (es.map (·.1)).Nodup) (hkl : ∀ e ∈ es, e.1.length = n) (ha : Asc es) (he : es = d ++ [e]) (h : Q (.tup [kV e.1, ratV e.2]) H) :
    CT G (k + 2) "mvlead" [.loc i, .str "lex"] H Q := by
  refine CT_enter2 P.ok P.mvlead (x := "a") (y := "order") (by decide +kernel) (fun _ _ _ _ _ => rfl) ?_
  obtain ⟨ep1, hi⟩ := hi
  refine TS_cons ?_
  refine TX_AssignT (names := ["best", "highest"]) rfl (by decide +kernel) ?_
  repeat tm_at "e"
  refine ⟨lim_ok rfl, _, rfl, rfl, ?_⟩
  refine TS_cons (TX_For (TI_val ?_) (by decide +kernel))
  repeat tm_at "e"
  simp only [hi]
  refine ⟨⟨_, _, rfl⟩, ?_⟩
  refine loopS_ind (fun us ρ H' => ∃ (done rest : PL), es = done ++ rest ∧ us = rest.map (fun e => kV e.1) ∧ H' = H ∧ look ρ "a" = some (.loc i) ∧ look ρ "order" = some (.str "lex") ∧ look ρ "best" = some (lastV done) ∧ look ρ "highest" = some (lastV done)) ?_ ?_ _ _ _ ⟨[], es, rfl, ?_, rfl, by tm_at "lk", by tm_at "lk", by (show _ = some V.none; tm_at "lk"), by (show _ = some V.none; tm_at "lk")⟩
  · rintro ρ H' ⟨done, rest, e1, e2, rfl, l1, l2, l3, l4⟩
    have : rest = [] := by
      cases rest with
      | nil => rfl
      | cons _ _ => cases e2
    subst this
    rw [List.append_nil] at e1; subst e1
    refine ⟨hi, ?_⟩
    rw [he, lastV_snoc] at l3 l4
    repeat tm_at "e"
    simp only [V.isNone, Bool.false_eq_true, if_false]
    repeat tm_at "e"
    refine PI_dict hi (pE_get (e := e) hnd (by rw [he]; simp)) ?_
    repeat tm_at "e"
    exact ⟨lim_ok rfl, h⟩
  · rintro u us ρ H' ⟨done, rest, e1, e2, rfl, l1, l2, l3, l4⟩
    cases rest with
    | nil => cases e2
    | cons f rest =>
      simp only [List.map_cons] at e2
      injection e2 with e2 e3
      subst e2 e3
      refine ⟨hi, _, rfl, ?_⟩
      refine TS_cons ?_
      repeat tm_at "e"
      refine okey_ct P ?_
      have fin : TS G (k + 1) (sI 31) (kid (nth (kid (nth (bI 31) 1)) 1)) (upd (Str.ofString "place") (kV f.1) (upd (Str.ofString "powers") (kV f.1) ρ)) H' fun fl ρ₂ H₂ => match fl with
          | .next => ∃ (done rest' : PL), es = done ++ rest' ∧ rest.map (fun e => kV e.1) = rest'.map (fun e => kV e.1) ∧ H₂ = H' ∧ look ρ₂ "a" = some (.loc i) ∧ look ρ₂ "order" = some (.str "lex") ∧ look ρ₂ "best" = some (lastV done) ∧ look ρ₂ "highest" = some (lastV done)
          | _ => False := by
        refine TS_cons ?_
        refine TX_AssignSw (names := ["best", "highest"]) (by decide +kernel) ?_
        repeat tm_at "e"
        refine ⟨lim_ok rfl, _, rfl, rfl, ?_⟩
        simp only [List.reverse_cons, List.reverse_nil, List.nil_append, List.cons_append]
        repeat tm_at "e"
        exact ⟨done ++ [f], rest, by simp [e1], rfl, rfl, by tm_at "lk", by tm_at "lk", by rw [lastV_snoc]; tm_at "lk", by rw [lastV_snoc]; tm_at "lk"⟩
      have fin' := fun (Q' : Fl → Rho → MH → Prop) (hq : ∀ ρ₂ H₂, (∃ (done rest' : PL), es = done ++ rest' ∧ rest.map (fun e => kV e.1) = rest'.map (fun e => kV e.1) ∧ H₂ = H' ∧ look ρ₂ "a" = some (.loc i) ∧ look ρ₂ "order" = some (.str "lex") ∧ look ρ₂ "best" = some (lastV done) ∧ look ρ₂ "highest" = some (lastV done)) → Q' .next ρ₂ H₂) =>
        TS.mono (Q' := Q') fin fun fl ρ₂ H₂ q => by cases fl with
          | next => exact hq _ _ q
          | _ => exact q.elim
      repeat tm_at "e"
      rcases List.eq_nil_or_concat done with hd | ⟨d', g, hd⟩
      · subst hd
        rw [show V.isNone (lastV []) = true from rfl, if_pos rfl]
        refine fin' _ fun ρ₂ H₂ q => ?_
        repeat tm_at "e"
        exact q
      · rw [List.concat_eq_append] at hd
        subst hd
        rw [lastV_snoc] at l3 l4 ⊢
        simp only [V.isNone, Bool.false_eq_true, if_false]
        have hgt : gtL f.1 g.1 = true := ha d' g f rest (by rw [e1]; simp)
        repeat tm_at "e"
        refine PB_tgt (by rw [hkl f (by rw [e1]; simp), hkl g (by rw [e1]; simp)]) ?_
        repeat tm_at "e"
        rw [hgt]
        simp only [if_true]
        refine fin' _ fun ρ₂ H₂ q => ?_
        repeat tm_at "e"
        exact q
  · simp [pE, List.map_map, Src.items]
theorem mvlead_none (P : Pr G) {i : Nat} (hi : DictAt H i (pE [])) (h : Q .none H) : CT G (k + 2) "mvlead" [.loc i, .str "lex"] H Q := by
  refine CT_enter2 P.ok P.mvlead (x := "a") (y := "order") (by decide +kernel) (fun _ _ _ _ _ => rfl) ?_
  obtain ⟨ep1, hi⟩ := hi
  refine TS_cons ?_
  refine TX_AssignT (names := ["best", "highest"]) rfl (by decide +kernel) ?_
  repeat tm_at "e"
  refine ⟨lim_ok rfl, _, rfl, rfl, ?_⟩
  refine TS_cons (TX_For (TI_val ?_) (by decide +kernel))
  repeat tm_at "e"
  simp only [hi]
  refine ⟨⟨_, _, rfl⟩, hi, ?_⟩
  repeat tm_at "e"
  simp only [V.isNone, if_true]
  repeat tm_at "e"
  exact h
end
end
section
section
variable {G : Gh} {k : Nat} {sc : Scope} {ρ : Rho} {H : MH} {Q : V → MH → Prop}

theorem mvmonic_ct (P : Pr G) {i n b : Nat} {es d : PL} {e : List Int × Rat} (hi : DictAt H i (pE es)) (hnd : (es.map (·.1)).Nodup) (hkl : ∀ e ∈ es, e.1.length = n) (ha : Asc es) (he : es = d ++ [e]) (hl : es.length < lim) (he0 : e.2 ≠ 0) (hb : ∀ e ∈ es, Bd b e.2) (hb4 : b ≤ 4000)
    (h : ∀ r H', Fresh H H' r (pE (es.map fun x => (x.1, x.2 * e.2⁻¹))) → Q (.loc r) H') : CT G (k + 5) "mvmonic" [.loc i, .str "lex"] H Q := by
  refine CT_enter2 P.ok P.mvmonic (x := "a") (y := "order") (by decide +kernel) (fun _ _ _ _ _ => rfl) ?_
  refine TS_cons ?_
  repeat tm_at "e"
  refine mvlead_ct P (k := k + 2) hi hnd hkl ha he ?_
  repeat tm_at "e"
  simp only [V.isNone, Bool.false_eq_true, if_false]
  repeat tm_at "e"
  have hem : e ∈ es := by rw [he]; simp
  refine rinv_ct P he0 (hb e hem) hb4 ?_
  repeat tm_at "e"
  refine mvscale_ct P hi hnd hl hb ((hb e hem).inv he0) (fun q => he0 (by have := Rat.inv_inv e.2; rw [q] at this; rw [← this]; exact Rat.inv_zero)) hb4 hb4 h
theorem mvmonic_none (P : Pr G) {i : Nat} (hi : DictAt H i (pE [])) (h : ∀ r H', Fresh H H' r (pE []) → Q (.loc r) H') : CT G (k + 5) "mvmonic" [.loc i, .str "lex"] H Q := by
  refine CT_enter2 P.ok P.mvmonic (x := "a") (y := "order") (by decide +kernel) (fun _ _ _ _ _ => rfl) ?_
  refine TS_cons ?_
  repeat tm_at "e"
  refine mvlead_none P (k := k + 2) hi ?_
  repeat tm_at "e"
  simp only [V.isNone, if_true]
  repeat tm_at "e"
  exact h _ _ (fresh_new H [] 0)
theorem Asc_one (e : List Int × Rat) : Asc [e] := fun d a b r h => by
  have := congrArg List.length h
  simp at this
  (first | lia | omega)
theorem mvmonic_row (P : Pr G) {i n b : Nat} {p : Rat} (hi : DictAt H i (pE (dOf (zr n) p))) (hb : Bd b p) (hb4 : b ≤ 4000)
    (h : ∀ r H', Fresh H H' r (pE (dOf (zr n) (if p = 0 then 0 else 1))) → Q (.loc r) H') : CT G (k + 5) "mvmonic" [.loc i, .str "lex"] H Q := by
  by_cases hp : p = 0
  · subst hp
    rw [dOf_zero] at hi
    refine mvmonic_none P hi fun r H' F => h r H' ?_
    rw [if_pos rfl, dOf_zero]; exact F
  · rw [dOf_ne hp] at hi
    refine mvmonic_ct P (es := [(zr n, p)]) (d := []) (e := (zr n, p)) (n := n) (b := b) hi (by (first | exact get_new | simp)) (by (first | exact get_new | simp)) (Asc_one _) rfl (lim_ok rfl) hp (by simpa using hb) hb4 fun r H' F => h r H' ?_
    rw [if_neg hp, dOf_ne (by decide)]
    have e : p * p⁻¹ = 1 := Rat.mul_inv_cancel p hp
    simpa [e] using F

noncomputable def MaxAt (es : PL) (a : Nat) (M : Int) : Prop := (∃ e ∈ es, e.1[a]? = some M) ∧ ∀ e ∈ es, ∀ x, e.1[a]? = some x → x ≤ M
theorem seqIndex_nat {a n : Nat} (h : a < n) : seqIndex? (a : Int) n = some a := by
  unfold seqIndex?
  simp only [show ¬ ((a : Int) < 0) by (first | lia | omega), if_false]
  have h1 : (0 : Int) ≤ (a : Int) := by (first | lia | omega)
  have h2 : (a : Int) < (n : Int) := by (first | lia | omega)
  simp [h1, h2]
theorem PI_key {ks : List Int} {a : Nat} {x : Int} (hx : ks[a]? = some x) (hl : ks.length ≤ 100) (h : Q (.int x) H) : PItem G k (kV ks) (.int (a : Int)) H Q := by
  have hlt := (List.getElem?_eq_some_iff.mp hx).1
  exact PI_tup (by simpa using seqIndex_nat hlt) (by (first | lia | omega)) (by (first | lia | omega)) (u := .int x) (by simp [hx]) h
theorem degree_ct (P : Pr G) {i a : Nat} {es : PL} {M : Int} (hi : DictAt H i (pE es)) (hl : es.length < lim) (hk : ∀ e ∈ es, a < e.1.length ∧ e.1.length ≤ 100) (hM : MaxAt es a M) (h : ∀ H', H <+: H' → Q (.int M) H') :
    CT G (k + 1) "degree_in" [.loc i, .int (a : Int)] H Q := by
  refine CT_enter2 P.ok P.degree_in (x := "a") (y := "at") (by decide +kernel) (fun _ _ _ _ _ => rfl) ?_
  obtain ⟨ep1, hi⟩ := hi
  have hpos : 0 < es.length := by obtain ⟨⟨e, he, _⟩, _⟩ := hM; exact List.length_pos_of_mem he
  refine TS_cons ?_
  repeat tm_at "e"
  refine CB_lenD hi ?_
  repeat tm_at "e"
  have hc : (0 : Int) < ((pE es).length : Int) := by simp only [pE, List.length_map]; (first | lia | omega)
  simp only [hc, decide_true, if_true]
  repeat tm_at "e"
  refine TE_ListComp (by decide +kernel) (by decide +kernel) (TI_val ?_)
  repeat tm_at "e"
  simp only [hi]
  refine ⟨⟨_, _, rfl⟩, ?_⟩
  refine loopC_ind emL_mono (fun us ρ acc H' => ∃ (done rest : PL), es = done ++ rest ∧ us = rest.map (fun e => kV e.1) ∧ acc = .list (done.map fun e => V.int (e.1.getD a 0)) ∧ H' = H ∧ look ρ "at" = some (.int (a : Int))) ?_ ?_ _ _ _ _ ⟨[], es, rfl, ?_, rfl, rfl, by tm_at "lk"⟩
  · rintro ρ acc H' ⟨done, rest, e1, e2, rfl, rfl, _⟩
    have : rest = [] := by
      cases rest with
      | nil => rfl
      | cons _ _ => cases e2
    subst this
    rw [List.append_nil] at e1; subst e1
    refine ⟨hi, _, rfl, ?_⟩
    repeat tm_at "e"
    refine CB_maxL (xs := es.map fun e => e.1.getD a 0) (by simp [List.map_map]) (by intro q; have := List.map_eq_nil_iff.mp q; subst this; simp at hpos) fun M' h1 h2 => ?_
    have hMM : M' = M := by
      obtain ⟨⟨e, he, hex⟩, h3⟩ := hM
      obtain ⟨f, hf, hfx⟩ := List.mem_map.mp h1
      have g1 := h2 M (List.mem_map.mpr ⟨e, he, by simp [hex]⟩)
      have g2 := h3 f hf M' (by
        have := (hk f hf).1
        rw [List.getElem?_eq_getElem this]
        rw [← hfx]; simp [this])
      (first | lia | omega)
    subst hMM
    exact h _ (List.prefix_append _ _)
  · rintro u us ρ acc H' ⟨done, rest, e1, e2, rfl, rfl, l1⟩
    cases rest with
    | nil => cases e2
    | cons e rest =>
      simp only [List.map_cons] at e2
      injection e2 with e2 e3
      subst e2 e3
      have he : e ∈ es := by rw [e1]; simp
      have hlen : done.length < lim := by have := congrArg List.length e1; simp at this; (first | lia | omega)
      refine ⟨hi, _, rfl, _, rfl, by simpa using hlen, ?_⟩
      repeat tm_at "e"
      have hka := (hk e he).1
      refine PI_key (x := e.1[a]) (by simp [hka]) (hk e he).2 ?_
      refine ⟨done ++ [e], rest, by simp [e1], rfl, ?_, rfl, by tm_at "lk"⟩
      simp [hka]
  · simp [pE, List.map_map, Src.items]
end
end
section
section
variable {G : Gh} {k : Nat} {sc : Scope} {ρ : Rho} {H : MH} {Q : V → MH → Prop}

theorem degree_ct' (P : Pr G) {i a : Nat} {ai : Int} {es : PL} {M : Int} (hai : ai = (a : Int)) (hi : DictAt H i (pE es)) (hl : es.length < lim) (hk : ∀ e ∈ es, a < e.1.length ∧ e.1.length ≤ 100) (hM : MaxAt es a M) (h : ∀ H', H <+: H' → Q (.int M) H') :
    CT G (k + 1) "degree_in" [.loc i, .int ai] H Q := by subst hai; exact degree_ct P hi hl hk hM h
noncomputable def lastL (n : Nat) (D : Nat → Int) : Int := if n = 2 then (if 0 < D 1 then 1 else if 0 < D 0 then 0 else -1) else (if 0 < D 0 then 0 else -1)
theorem last_ct (P : Pr G) {i n : Nat} {es : PL} {D : Nat → Int} (hi : DictAt H i (pE es)) (hn : n = 1 ∨ n = 2) (hl : es.length < lim) (hk : ∀ e ∈ es, e.1.length = n) (hM : ∀ a, a < n → MaxAt es a (D a)) (h : ∀ H', H <+: H' → Q (.int (lastL n D)) H') :
    CT G (k + 2) "last_letter" [.loc i, .int (n : Int)] H Q := by
  refine CT_enter2 P.ok P.last_letter (x := "a") (y := "n") (by decide +kernel) (fun _ _ _ _ _ => rfl) ?_
  have hk' : ∀ a, a < n → ∀ e ∈ es, a < e.1.length ∧ e.1.length ≤ 100 := fun a ha e he => by rw [hk e he]; (first | lia | omega)
  rcases hn with rfl | rfl
  · refine TS_cons (TX_For (TI_range P.ok (by decide +kernel) (by tm_at "nb") ?_) (by decide +kernel))
    repeat tm_at "e"
    refine ⟨_, _, _, 1, .inr ⟨rfl, by decide, by decide⟩, by decide +kernel, by decide +kernel, ⟨_, _, rfl⟩, ?_⟩
    refine ⟨trivial, _, rfl, ?_⟩
    refine TS_cons ?_
    repeat tm_at "e"
    refine degree_ct' P (a := 0) (by decide) hi hl (hk' 0 (by decide)) (hM 0 (by decide)) fun H₁ h₁ => ?_
    repeat tm_at "e"
    by_cases hc : 0 < D 0
    · simp only [hc, decide_true, if_true]
      repeat tm_at "e"
      have := h _ h₁
      simp only [lastL, hc, if_true] at this
      exact this
    · simp only [hc, decide_false, Bool.false_eq_true, if_false]
      repeat tm_at "e"
      refine ⟨trivial, ?_⟩
      repeat tm_at "e"
      have := h _ h₁
      simp only [lastL, hc, if_false] at this
      exact this
  · refine TS_cons (TX_For (TI_range P.ok (by decide +kernel) (by tm_at "nb") ?_) (by decide +kernel))
    repeat tm_at "e"
    refine ⟨_, _, _, 2, .inr ⟨rfl, by decide, by decide⟩, by decide +kernel, by decide +kernel, ⟨_, _, rfl⟩, ?_⟩
    refine ⟨trivial, _, rfl, ?_⟩
    refine TS_cons ?_
    repeat tm_at "e"
    refine degree_ct' P (a := 1) (by decide) hi hl (hk' 1 (by decide)) (hM 1 (by decide)) fun H₁ h₁ => ?_
    repeat tm_at "e"
    by_cases hc : 0 < D 1
    · simp only [hc, decide_true, if_true]
      repeat tm_at "e"
      have := h _ h₁
      simp only [lastL, hc, if_true] at this
      exact this
    · simp only [hc, decide_false, Bool.false_eq_true, if_false]
      repeat tm_at "e"
      refine ⟨trivial, _, rfl, ?_⟩
      refine TS_cons ?_
      repeat tm_at "e"
      refine degree_ct' P (a := 0) (by decide) (hi.mono h₁) hl (hk' 0 (by decide)) (hM 0 (by decide)) fun H₂ h₂ => ?_
      repeat tm_at "e"
      by_cases hc' : 0 < D 0
      · simp only [hc', decide_true, if_true]
        repeat tm_at "e"
        have := h _ (h₁.trans h₂)
        simp only [lastL, hc, hc', if_true, if_false] at this
        exact this
      · simp only [hc', decide_false, Bool.false_eq_true, if_false]
        repeat tm_at "e"
        refine ⟨trivial, ?_⟩
        repeat tm_at "e"
        have := h _ (h₁.trans h₂)
        simp only [lastL, hc, hc', if_true, if_false] at this
        exact this

theorem pdivide_ct (P : Pr G) {n : Nat} (hn : n = 1 ∨ n = 2) (h : Q (.bool true) H) : CT G (k + 1) "powers_divide" [kV (zr n), kV (zr n)] H Q := by
  refine CT_enter2 P.ok P.divide (x := "a") (y := "b") (by decide +kernel) (fun _ _ _ _ _ => rfl) ?_
  rcases hn with rfl | rfl
  · refine TS_cons (TX_For (TI_enum P.ok (by decide +kernel) (by tm_at "nb") ?_) (by decide +kernel))
    repeat tm_at "e"
    refine ⟨⟨_, _, _, rfl⟩, trivial, _, rfl, ?_⟩
    simp only [kV, zr, List.replicate, List.map_cons, List.map_nil]
    refine TS_cons ?_
    repeat tm_at "e"
    simp only [show ¬ ((0 : Int) < 0) by decide, decide_false, Bool.false_eq_true, if_false]
    repeat tm_at "e"
    refine ⟨trivial, ?_⟩
    repeat tm_at "e"
    exact h
  · refine TS_cons (TX_For (TI_enum P.ok (by decide +kernel) (by tm_at "nb") ?_) (by decide +kernel))
    repeat tm_at "e"
    refine ⟨⟨_, _, _, rfl⟩, trivial, _, rfl, ?_⟩
    simp only [kV, zr, List.replicate, List.map_cons, List.map_nil]
    refine TS_cons ?_
    repeat tm_at "e"
    simp only [show ¬ ((0 : Int) < 0) by decide, decide_false, Bool.false_eq_true, if_false]
    repeat tm_at "e"
    refine ⟨trivial, _, rfl, ?_⟩
    refine TS_cons ?_
    repeat tm_at "e"
    simp only [show ¬ ((0 : Int) < 0) by decide, decide_false, Bool.false_eq_true, if_false]
    repeat tm_at "e"
    refine ⟨trivial, ?_⟩
    repeat tm_at "e"
    exact h
theorem pquot_ct (P : Pr G) {n : Nat} (hn : n = 1 ∨ n = 2) (h : ∀ H', H <+: H' → Q (kV (zr n)) H') : CT G (k + 1) "powers_quotient" [kV (zr n), kV (zr n)] H Q := by
  refine CT_enter2 P.ok P.quotient (x := "a") (y := "b") (by decide +kernel) (fun _ _ _ _ _ => rfl) ?_
  refine TS_cons ?_
  repeat tm_at "e"
  refine TE_ListComp (by decide +kernel) (by decide +kernel) (TI_enum P.ok (by decide +kernel) (by tm_at "nb") ?_)
  repeat tm_at "e"
  refine ⟨⟨_, _, _, rfl⟩, ?_⟩
  rcases hn with rfl | rfl
  · refine ⟨trivial, _, rfl, [], rfl, lim_ok rfl, ?_⟩
    simp only [kV, zr, List.replicate, List.map_cons, List.map_nil]
    repeat tm_at "e"
    refine ⟨trivial, _, rfl, ?_⟩
    repeat tm_at "e"
    refine CB_tuple (by simp; rfl) ?_
    exact h _ (List.prefix_append _ _)
  · refine ⟨trivial, _, rfl, [], rfl, lim_ok rfl, ?_⟩
    simp only [kV, zr, List.replicate, List.map_cons, List.map_nil]
    repeat tm_at "e"
    refine ⟨trivial, _, rfl, _, rfl, lim_ok rfl, ?_⟩
    repeat tm_at "e"
    refine ⟨trivial, _, rfl, ?_⟩
    repeat tm_at "e"
    refine CB_tuple (by simp; rfl) ?_
    exact h _ (List.prefix_append _ _)
end
end
section
section
variable {G : Gh} {k : Nat} {sc : Scope} {ρ : Rho} {H : MH} {Q : V → MH → Prop}

theorem fdivisor_ct (P : Pr G) {n i : Nat} (hn : n = 1 ∨ n = 2) (hi : H[i]? = some (.list [.tup [kV (zr n), ratV 1]])) (h : Q (.int 0) H) : CT G (k + 2) "first_divisor" [kV (zr n), .loc i] H Q := by
  refine CT_enter2 P.ok P.first_divisor (x := "powers") (y := "leads") (by decide +kernel) (fun _ _ _ _ _ => rfl) ?_
  refine TS_cons (TX_For (TI_enum P.ok (by decide +kernel) (by tm_at "nb") ?_) (by decide +kernel))
  repeat tm_at "e"
  simp only [hi]
  refine ⟨⟨_, _, _, rfl⟩, hi, _, rfl, ?_⟩
  refine TS_cons ?_
  repeat tm_at "e"
  simp only [V.isNone, Bool.not_false, if_true]
  refine TAll_And_cons (TB_val ?_)
  repeat tm_at "e"
  refine pdivide_ct P hn ?_
  refine PTru_bool ?_
  simp only [if_true]
  repeat tm_at "e"
  rw [if_pos rfl]
  repeat tm_at "e"
  exact h
theorem bd_one : Bd 0 1 := ⟨by unfold Bi; decide, by unfold Bi; decide⟩
theorem mvshift_ct (P : Pr G) {n i b : Nat} {q : Rat} (hn : n ≤ 2) (hi : DictAt H i (pE [(zr n, 1)])) (hq : Bd b q) (hb : b ≤ 4000) (hq0 : q ≠ 0) (h : ∀ r H', Fresh H H' r (pE (dOf (zr n) q)) → Q (.loc r) H') : CT G (k + 4) "mvshift" [.loc i, kV (zr n), ratV q] H Q := by
  refine CT_enter3 P.ok P.mvshift (x := "a") (y := "powers") (z := "rational") (by decide +kernel) (fun _ _ _ _ _ _ => rfl) ?_
  obtain ⟨ep1, hi⟩ := hi
  refine TS_cons ?_
  repeat tm_at "e"
  refine TE_R0 P (by decide +kernel) (PB_req ?_)
  repeat tm_at "e"
  simp only [hq0, decide_false, Bool.false_eq_true, if_false]
  repeat tm_at "e"
  refine TE_DictComp (by decide +kernel) (by decide +kernel) (TI_val ?_)
  repeat tm_at "e"
  simp only [hi]
  refine ⟨⟨_, _, rfl⟩, hi, _, rfl, [], 0, rfl, lim_ok rfl, ?_⟩
  repeat tm_at "e"
  refine product_ct P (by (first | exact get_new | simp)) (by simpa using hn) fun H₁ h₁ => ?_
  have hz : List.zipWith (· + ·) (zr n) (zr n) = zr n := by
    have := zip_zero (zr n)
    simpa using this
  rw [hz]
  repeat tm_at "e"
  have hi' := pre_get h₁ hi
  refine PI_dict hi' (pE_get_one _ _) ?_
  repeat tm_at "e"
  refine rmul_ct P bd_one hq (by decide) hb ?_
  refine ⟨zr n, rfl, fun ep' => ⟨hi', _, _, rfl, ?_⟩⟩
  have := h H₁.length _ ((fresh_new H₁ (pE (dOf (zr n) q)) ep').trans h₁)
  rw [dOf_ne hq0] at this
  rw [Rat.one_mul]
  exact this
theorem get_set_ne {H : MH} {n m : Nat} {o : O} (h : m ≠ n) : (H.set n o)[m]? = H[m]? := by simp [Ne.symm h]
theorem any_false : ([] : List Bool).any id = false := rfl
theorem mvdivide_loop (P : Pr G) {n j c b a1 a2 a3 lf s : Nat} {p : Rat} {ρ : Rho} {H₀ : MH} (hn : n = 1 ∨ n = 2) (hb : Bd b p) (hb4 : b ≤ 4000) (l1 : look ρ "order" = some (.str "lex")) (l2 : look ρ "some" = some (.loc j)) (l3 : look ρ "leads" = some (.loc a1)) (l4 : look ρ "quotients" = some (.loc a2))
    (l5 : look ρ "rest" = some (.loc a3)) (l6 : look ρ "left" = some (.loc lf)) (l7 : look ρ "work" = some (.int 0)) (l8 : look ρ "most" = some (.int 20000))
    (h0 : H₀ <+: H) (hj : H₀[j]? = some (.list [.loc c])) (hc : DictAt H₀ c (pE [(zr n, 1)])) (hs0 : H₀.length ≤ s) (e1 : a1 ≠ s) (e2 : a2 ≠ s) (e3 : a3 ≠ s) (e4 : lf ≠ s)
    (f1 : H[a1]? = some (.list [.tup [kV (zr n), ratV 1]])) (f2 : H[a2]? = some (.list [.loc s])) (f3 : DictAt H s (pE [])) (f4 : DictAt H a3 (pE [])) (f5 : DictAt H lf (pE (dOf (zr n) p)))
    (h : ∀ (q r s : Nat) H', H₀ <+: H' → H'[q]? = some (.list [.loc s]) → H₀.length ≤ s → DictAt H' s (pE (dOf (zr n) p)) → DictAt H' r (pE []) → Q (.tup [.loc q, .loc r]) H') :
    TS G (k + 7) (sI 41) ((bI 41).drop 4) ρ H (retQ Q) := by
  refine TS_cons ?_
  refine TX_WhileJ (fun cn ρ H' => look ρ "order" = some (.str "lex") ∧ look ρ "some" = some (.loc j) ∧ look ρ "leads" = some (.loc a1) ∧ look ρ "quotients" = some (.loc a2) ∧ look ρ "rest" = some (.loc a3) ∧ look ρ "most" = some (.int 20000) ∧
      H₀ <+: H' ∧ H'[a1]? = some (.list [.tup [kV (zr n), ratV 1]]) ∧ H'[a2]? = some (.list [.loc s]) ∧ DictAt H' a3 (pE []) ∧ ∃ lf, lf ≠ s ∧ look ρ "left" = some (.loc lf) ∧
      ((cn = 1 ∧ look ρ "work" = some (.int 0) ∧ p ≠ 0 ∧ DictAt H' s (pE []) ∧ DictAt H' lf (pE [(zr n, p)])) ∨ (cn = 0 ∧ DictAt H' s (pE (dOf (zr n) p)) ∧ DictAt H' lf (pE [])))) (if p = 0 then 0 else 1)
    ⟨l1, l2, l3, l4, l5, l8, h0, f1, f2, f4, lf, e4, l6, ?_⟩ ?_
  · by_cases hp : p = 0
    · subst hp
      rw [dOf_zero] at f5 ⊢
      exact .inr ⟨if_pos rfl, f3, f5⟩
    · rw [dOf_ne hp] at f5
      exact .inl ⟨if_neg hp, l7, hp, f3, f5⟩
  rintro cn ρ H' ⟨l1, l2, l3, l4, l5, l8, h0, f1, f2, f4, lf, e4, l6, hcase⟩ J hJ hR
  rcases hcase with ⟨rfl, l7, hp, f3, f5⟩ | ⟨rfl, f3, f5⟩
  case inr =>
    obtain ⟨ep, f5⟩ := f5
    repeat tm_at "e"
    refine CB_lenD f5 ?_
    repeat tm_at "e"
    simp only [pE, List.map_nil, List.length_nil, show ¬ ((0 : Int) < ((0 : Nat) : Int)) by decide, decide_false, Bool.false_eq_true, if_false]
    repeat tm_at "e"
    exact ⟨lim_ok rfl, h _ _ _ _ h0 f2 hs0 f3 f4⟩
  case inl =>
    have f5' := f5
    obtain ⟨ep, f5'⟩ := f5'
    repeat tm_at "e"
    refine CB_lenD f5' ?_
    repeat tm_at "e"
    simp only [pE, List.map_cons, List.map_nil, List.length_cons, List.length_nil, show ((0 : Int) < ((0 + 1 : Nat) : Int)) by decide, decide_true, if_true]
    tm_at "e"
    refine TX_AssignT (names := ["powers", "rational"]) rfl (by decide +kernel) ?_
    repeat tm_at "e"
    refine mvlead_ct P (es := [(zr n, p)]) (d := []) (e := (zr n, p)) (n := n) f5 (by (first | exact get_new | simp)) (by (first | exact get_new | simp)) (Asc_one _) rfl ?_
    refine ⟨_, rfl, rfl, ?_⟩
    simp only [bindN]
    tm_at "e"
    refine TX_Aug (by tm_at "lk") (by decide +kernel) ?_
    repeat tm_at "e"
    refine CB_lenD f5' ?_
    repeat tm_at "e"
    obtain ⟨tw, hwork⟩ := P.mwork
    refine TE_global P.ok hwork (u := .int 3000000) (fun _ _ _ => vInt) (by decide +kernel) ?_
    tm_at "e"
    tm_at "e"
    have hw : ¬ ((3000000 : Int) < 0 + ((pE [(zr n, p)]).length : Int)) := by simp [pE]
    first | refine if_F hw ?_ | rw [decide_eq_false hw, if_neg Bool.false_ne_true]
    refine TAll_Or_cons (TB_val ?_)
    repeat tm_at "e"
    refine vast_ct P hb (by (first | lia | omega)) (PTru_bool ?_)
    rw [if_neg Bool.false_ne_true]
    refine TAll_Or_cons (TB_val ?_)
    repeat tm_at "e"
    refine TE_ListComp (by decide +kernel) (by decide +kernel) (TI_val ?_)
    repeat tm_at "e"
    refine ⟨⟨_, _, rfl⟩, ?_⟩
    refine loopC_indJ emL_mono (fun us ρ' acc H'' => ∃ m r, m + r = n ∧ us = List.replicate r (V.int 0) ∧ acc = .list ((List.replicate m false).map V.bool) ∧ H'' = H' ∧ look ρ' "most" = some (.int 20000)) ?_ ?_ _ _ _ _ ⟨0, n, by (first | lia | omega), by simp [Src.items], rfl, rfl, by tm_at "lk"⟩
    case refine_2 =>
      rintro u us ρ' acc H'' ⟨m, r, hmr, hus, rfl, rfl, q1⟩
      obtain ⟨r', rfl⟩ : ∃ r', r = r' + 1 := by
        cases r with
        | zero => cases hus
        | succ r' => exact ⟨r', rfl⟩
      rw [List.replicate_succ] at hus
      injection hus with hu hus
      subst hu hus
      refine ⟨trivial, _, rfl, fun J2 hJ2 => ⟨_, rfl, by simp [lim]; (first | lia | omega), ?_⟩⟩
      repeat tm_at "e"
      refine hJ2 _ _ _ ⟨m + 1, r', by (first | lia | omega), rfl, ?_, rfl, by tm_at "lk"⟩
      simp [List.replicate_succ']
    rintro ρ' acc H'' ⟨m, r, hmr, hus, rfl, rfl, q1⟩
    refine ⟨trivial, _, rfl, ?_⟩
    clear q1 ρ'
    have q := List.prefix_append H'' [O.list ((List.replicate m false).map V.bool)]
    repeat tm_at "e"
    refine CB_any (bs := List.replicate m false) (by (first | exact get_new | simp)) (PTru_bool ?_)
    have hany : (List.replicate m false).any id = false := by simp
    rw [hany, if_neg Bool.false_ne_true]
    repeat tm_at "e"
    rw [if_neg Bool.false_ne_true]
    repeat tm_at "e"
    generalize hX : H'' ++ [O.list ((List.replicate m false).map V.bool)] = X at q ⊢
    clear hX
    have g1 := pre_get q f1
    have g2 := pre_get q f2
    refine fdivisor_ct P hn g1 ?_
    repeat tm_at "e"
    simp only [show ¬ ((0 : Int) < 0) by decide, decide_false, Bool.false_eq_true, if_false]
    repeat tm_at "e"
    refine TX_AssignSw (names := ["shift", "factor"]) (by decide +kernel) ?_
    repeat tm_at "e"
    refine PI_list g1 (by decide) rfl ?_
    repeat tm_at "e"
    refine pquot_ct P hn fun X₁ hX₁ => ?_
    have q1 := q.trans hX₁
    repeat tm_at "e"
    refine PI_list (pre_get hX₁ g1) (by decide) rfl ?_
    repeat tm_at "e"
    refine rdiv_ct P (by decide) hb bd_one hb4 (by decide) ?_
    repeat tm_at "e"
    refine ⟨lim_ok rfl, _, rfl, rfl, ?_⟩
    simp only [List.reverse_cons, List.reverse_nil, List.nil_append, List.cons_append, bindN]
    have hd1 : p / 1 = p := by grind
    rw [hd1]
    tm_at "e"
    refine TX_Expr ?_ rfl
    repeat tm_at "e"
    refine PI_list (pre_get hX₁ g2) (by decide) rfl ?_
    repeat tm_at "e"
    obtain ⟨eps, f3⟩ := f3
    have hsX : X₁[s]? = some (.dict (pE []) eps) := pre_get q1 f3
    refine add_new_ct P (es := []) hsX (lim_ok rfl) (fun _ hx => nomatch hx) hp fun u ep' => ?_
    have p3 : H₀ <+: X₁.set s (.dict (pE ([] ++ [(zr n, p)])) ep') := pre_set (h0.trans q1) hs0 _
    have hs3 := get_set (o' := .dict (pE ([] ++ [(zr n, p)])) ep') hsX
    have k1 : (X₁.set s (.dict (pE ([] ++ [(zr n, p)])) ep'))[a1]? = _ := (get_set_ne e1).trans (pre_get hX₁ g1)
    have k2 : (X₁.set s (.dict (pE ([] ++ [(zr n, p)])) ep'))[a2]? = _ := (get_set_ne e2).trans (pre_get hX₁ g2)
    have k4 : DictAt (X₁.set s (.dict (pE ([] ++ [(zr n, p)])) ep')) a3 (pE []) := by
      obtain ⟨e, x⟩ := f4.mono q1
      exact ⟨e, (get_set_ne e3).trans x⟩
    have k5 : DictAt (X₁.set s (.dict (pE ([] ++ [(zr n, p)])) ep')) lf (pE (dOf (zr n) p)) := by
      obtain ⟨e, x⟩ := f5.mono q1
      rw [dOf_ne hp]
      exact ⟨e, (get_set_ne e4).trans x⟩
    generalize X₁.set s (.dict (pE ([] ++ [(zr n, p)])) ep') = X₂ at p3 hs3 k1 k2 k4 k5 ⊢
    repeat tm_at "e"
    refine PI_list (pre_get p3 hj) (by decide) rfl ?_
    repeat tm_at "e"
    refine mvshift_ct P (k := k + 3) (by (first | lia | omega)) (hc.mono p3) hb hb4 hp fun r X₃ F => ?_
    repeat tm_at "e"
    refine mvsub_ct P (k := k + 1) (k5.mono F.1) F.at hb hb hb4 hb4 fun r' X₄ F' => ?_
    rw [Rat.sub_self, dOf_zero] at F'
    have p4 := F.1.trans F'.1
    repeat tm_at "e"
    refine (hJ 0 _ _ (by decide) ⟨by tm_at "lk", by tm_at "lk", by tm_at "lk", by tm_at "lk", by tm_at "lk", by tm_at "lk", p3.trans p4, pre_get p4 k1, pre_get p4 k2, k4.mono p4, r', ?_, by tm_at "lk", .inr ⟨rfl, ?_, F'.at⟩⟩).1
    · have h1 := F'.2.1
      have h2 := pre_len F.1
      have h3 := (List.getElem?_eq_some_iff.mp hs3).1
      (first | lia | omega)
    · rw [dOf_ne hp]
      exact ⟨ep', pre_get p4 hs3⟩
theorem mvdivide_ct (P : Pr G) {n i j c b : Nat} {p : Rat} (hn : n = 1 ∨ n = 2) (hi : DictAt H i (pE (dOf (zr n) p))) (hj : H[j]? = some (.list [.loc c])) (hc : DictAt H c (pE [(zr n, 1)])) (hb : Bd b p) (hb4 : b ≤ 4000)
    (h : ∀ (q r s : Nat) H', H <+: H' → H'[q]? = some (.list [.loc s]) → H.length ≤ s → DictAt H' s (pE (dOf (zr n) p)) → DictAt H' r (pE []) → Q (.tup [.loc q, .loc r]) H') : CT G (k + 8) "mvdivide" [.loc i, .loc j, .str "lex"] H Q := by
  refine CT_enter3 P.ok P.mvdivide (x := "f") (y := "some") (z := "order") (by decide +kernel) (fun _ _ _ _ _ _ => rfl) ?_
  obtain ⟨ep1, hi⟩ := hi
  -- the leads
  refine TS_cons ?_
  refine TX_AssignLC (by decide +kernel) (by decide +kernel) (by decide +kernel) (TI_val ?_)
  repeat tm_at "e"
  simp only [hj]
  refine ⟨⟨_, _, rfl⟩, hj, _, rfl, [], rfl, lim_ok rfl, ?_⟩
  repeat tm_at "e"
  refine mvlead_ct P (es := [(zr n, 1)]) (d := []) (e := (zr n, 1)) (n := n) hc (by (first | exact get_new | simp)) (by (first | exact get_new | simp)) (Asc_one _) rfl ?_
  refine ⟨hj, _, rfl, ?_⟩
  -- the quotients
  have p1 := List.prefix_append H [O.list ([] ++ [V.tup [kV (zr n), ratV 1]])]
  refine TS_cons ?_
  refine TX_AssignLC (by decide +kernel) (by decide +kernel) (by decide +kernel) (TI_val ?_)
  repeat tm_at "e"
  have hj1 := pre_get p1 hj
  simp only [hj1]
  refine ⟨⟨_, _, rfl⟩, hj1, _, rfl, [], rfl, lim_ok rfl, ?_⟩
  repeat tm_at "e"
  have p2 := p1.trans (List.prefix_append _ [O.dict [] 0])
  refine ⟨pre_get p2 hj, _, rfl, ?_⟩
  refine TS_cons ?_
  first
    | refine TX_AssignSw (names := ["rest", "left", "work"]) (by decide +kernel) ?_
    | refine TX_AssignT (names := ["rest", "left", "work"]) rfl (by decide +kernel) ?_
  repeat tm_at "e"
  have hpl : (pE (dOf (zr n) p)).length ≤ 1 := by unfold dOf; split <;> simp [pE]
  have p3 := p2.trans (List.prefix_append _ [O.list ([] ++ [V.loc (H ++ [O.list ([] ++ [V.tup [kV (zr n), ratV 1]])]).length])])
  have p4 := p3.trans (List.prefix_append _ [O.dict [] 0])
  refine CB_dict (pre_get p4 hi) hpl fun ep' => ?_
  repeat tm_at "e"
  refine ⟨lim_ok rfl, _, rfl, rfl, ?_⟩
  have p5 := p4.trans (List.prefix_append _ [O.dict (pE (dOf (zr n) p)) ep'])
  simp only [List.length_append, List.length_cons, List.length_nil, List.nil_append, List.reverse_cons, List.reverse_nil, List.cons_append, bindN, Nat.zero_add, Nat.add_assoc, Nat.reduceAdd] at p5 ⊢
  generalize hX : H ++ [O.list [V.tup [kV (zr n), ratV 1]]] ++ [O.dict [] 0] ++ [O.list [V.loc (H.length + 1)]] ++ [O.dict [] 0] ++ [O.dict (pE (dOf (zr n) p)) ep'] = X at p5 ⊢
  have f1 : X[H.length]? = some (.list [V.tup [kV (zr n), ratV 1]]) := by rw [← hX]; simp
  have f2 : X[H.length + 2]? = some (.list [V.loc (H.length + 1)]) := by rw [← hX]; simp
  have f3 : X[H.length + 1]? = some (.dict [] 0) := by rw [← hX]; simp
  have f4 : X[H.length + 3]? = some (.dict [] 0) := by rw [← hX]; simp
  have f5 : X[H.length + 4]? = some (.dict (pE (dOf (zr n) p)) ep') := by rw [← hX]; simp
  clear p1 p2 p3 p4 hX
  -- the most
  refine TS_cons ?_
  refine TX_Assign ?_ (by decide +kernel)
  tm_at "e"
  tm_at "e"
  tm_at "e"
  tm_at "e"
  tm_at "e"
  obtain ⟨tf, hfar⟩ := P.mfar
  refine TE_global P.ok hfar (u := .int 20000) (fun _ _ _ => vInt) (by decide +kernel) ?_
  repeat tm_at "e"
  refine ⟨lim_ok rfl, ?_⟩
  refine TE_ListComp2 (by decide +kernel) (by decide +kernel) (by decide +kernel) (TI_val ?_)
  repeat tm_at "e"
  have p6 := p5.trans (List.prefix_append _ [O.list [V.int 20000]])
  have hi6 := pre_get p6 hi
  simp only [hi6]
  refine ⟨⟨_, _, rfl⟩, ?_⟩
  have after : ∀ (zs : List Int), zs.length ≤ 2 → (∀ x ∈ zs, x ≤ 20000) → ∀ (H' : MH) (ρ : Rho) (K : V → MH → Prop), (∀ H₄, X <+: H₄ → K (.int 20000) H₄) → H' = X ++ [O.list [V.int 20000]] → PBin G (k + 7) (binaryOp .Add) (V.loc X.length) (V.loc H'.length) (H' ++ [.list (zs.map .int)]) fun u H₂ => TEs G (k + 7) (sI 41) [] ρ H₂ fun us H₃ => CB G (k + 7) (.builtin "max") (u :: us) H₃ K := by
    rintro zs hzl hz H' ρ K hK rfl
    refine PB_ladd (l := [V.int 20000]) (l' := zs.map .int) (by (first | exact get_new | simp)) (by (first | exact get_new | simp)) (by simp [lim]; (first | lia | omega)) ?_
    repeat tm_at "e"
    refine CB_maxL (xs := 20000 :: zs) (by (first | exact get_new | simp)) (by (first | exact get_new | simp)) fun M h1 h2 => ?_
    have hM : M = 20000 := by
      have g1 := h2 20000 List.mem_cons_self
      rcases List.mem_cons.mp h1 with rfl | h1
      · rfl
      · have := hz M h1; (first | lia | omega)
    subst hM
    exact hK _ (by (first | exact get_new | simp))
  have tail : ∀ (H₄ : MH), X <+: H₄ → TS G (k + 7) (sI 41) ((bI 41).drop 4) (upd (Str.ofString "most") (V.int 20000) (upd (Str.ofString "rest") (V.loc (List.length H + 3))
                (upd (Str.ofString "left") (V.loc (List.length H + 4))
                  (upd (Str.ofString "work") (V.int 0)
                    (upd (Str.ofString "quotients") (V.loc (List.length H + 2))
                      (upd (Str.ofString "leads") (V.loc (List.length H))
                        [(Str.ofString "f", V.loc i), (Str.ofString "some", V.loc j),
                          (Str.ofString "order", V.str (Str.ofString "lex"))])))))) H₄ fun fl ρ' H' => match fl with | .ret u => Q u H' | _ => Q .none H' := fun H₄ h₄ =>
    mvdivide_loop P (j := j) (c := c) (s := H.length + 1) hn hb hb4 (by tm_at "lk") (by tm_at "lk") (by tm_at "lk") (by tm_at "lk") (by tm_at "lk") (by tm_at "lk") (by tm_at "lk") (by tm_at "lk") (p5.trans h₄) hj hc (by (first | lia | omega)) (by (first | lia | omega)) (by (first | lia | omega)) (by (first | lia | omega)) (by (first | lia | omega))
      (pre_get h₄ f1) (pre_get h₄ f2) ⟨0, pre_get h₄ f3⟩ ⟨0, pre_get h₄ f4⟩ ⟨_, pre_get h₄ f5⟩ h
  by_cases hp : p = 0
  · subst hp
    rw [dOf_zero] at hi6 ⊢
    exact ⟨hi6, _, rfl, after [] (by (first | exact get_new | simp)) (by (first | exact get_new | simp)) _ _ _ (fun H₄ h₄ => tail H₄ h₄) rfl⟩
  · rw [dOf_ne hp] at hi6 ⊢
    refine ⟨hi6, _, rfl, TI_val ?_⟩
    repeat tm_at "e"
    refine ⟨⟨_, _, rfl⟩, ?_⟩
    rcases hn with rfl | rfl
    · refine ⟨trivial, _, rfl, [], rfl, lim_ok rfl, ?_⟩
      repeat tm_at "e"
      refine ⟨trivial, hi6, _, rfl, after [0] (by (first | exact get_new | simp)) (by (first | exact get_new | simp)) _ _ _ (fun H₄ h₄ => tail H₄ h₄) rfl⟩
    · refine ⟨trivial, _, rfl, [], rfl, lim_ok rfl, ?_⟩
      repeat tm_at "e"
      refine ⟨trivial, _, rfl, _, rfl, lim_ok rfl, ?_⟩
      repeat tm_at "e"
      refine ⟨trivial, hi6, _, rfl, after [0, 0] (by (first | exact get_new | simp)) (by (first | exact get_new | simp)) _ _ _ (fun H₄ h₄ => tail H₄ h₄) rfl⟩
end
end
section
section
variable {G : Gh} {k : Nat} {sc : Scope} {ρ : Rho} {H : MH} {Q : V → MH → Prop}

theorem mvexact_ct (P : Pr G) {n i c b : Nat} {p : Rat} (hn : n = 1 ∨ n = 2) (hi : DictAt H i (pE (dOf (zr n) p))) (hc : DictAt H c (pE [(zr n, 1)])) (hb : Bd b p) (hb4 : b ≤ 4000)
    (h : ∀ r H', Fresh H H' r (pE (dOf (zr n) p)) → Q (.loc r) H') : CT G (k + 9) "mvexact" [.loc i, .loc c] H Q := by
  refine CT_enter2 P.ok P.mvexact (x := "a") (y := "b") (by decide +kernel) (fun _ _ _ _ _ => rfl) ?_
  have hc' := hc
  obtain ⟨ep, hc'⟩ := hc'
  refine TS_cons ?_
  repeat tm_at "e"
  refine CB_lenD hc' ?_
  repeat tm_at "e"
  simp only [pE, List.map_cons, List.map_nil, List.length_cons, List.length_nil, show ¬ (((0 + 1 : Nat) : Int) = 0) by decide, decide_false, Bool.false_eq_true, if_false]
  repeat tm_at "e"
  refine TX_AssignT (names := ["quotients", "rest"]) rfl (by decide +kernel) ?_
  repeat tm_at "e"
  refine ⟨lim_ok rfl, ?_⟩
  repeat tm_at "e"
  have p1 := List.prefix_append H [O.list [V.loc c]]
  refine mvdivide_ct P hn (hi.mono p1) (by (first | exact get_new | simp)) (hc.mono p1) hb hb4 fun q r s H' hp hq hs hd hr => ?_
  refine ⟨_, rfl, rfl, ?_⟩
  simp only [bindN]
  repeat tm_at "e"
  obtain ⟨epr, hr⟩ := hr
  refine CB_lenD hr ?_
  repeat tm_at "e"
  simp only [pE, List.map_nil, List.length_nil, show (((0 : Nat) : Int) = 0) by decide, decide_true, if_true]
  repeat tm_at "e"
  refine PI_list hq (by decide) rfl ?_
  exact h _ _ ⟨p1.trans hp, by have := pre_len p1; (first | lia | omega), hd⟩

theorem mvgcd_min (P : Pr G) {n i j : Nat} {es fs : PL} {D D' : Nat → Int} (hn : n = 1 ∨ n = 2) (hi : DictAt H i (pE es)) (hj : DictAt H j (pE fs)) (hes : es ≠ []) (hfs : fs ≠ []) (hl : es.length < lim) (hl' : fs.length < lim) (hk : ∀ e ∈ es, e.1.length = n) (hk' : ∀ e ∈ fs, e.1.length = n)
    (hM : ∀ a, a < n → MaxAt es a (D a)) (hM' : ∀ a, a < n → MaxAt fs a (D' a)) (hmin : min (lastL n D) (lastL n D') < 0)
    (h : ∀ r H', Fresh H H' r (pE (dOf (zr n) 1)) → Q (.loc r) H') : CT G (k + 3) "mvgcd" [.loc i, .loc j, .int (n : Int)] H Q := by
  refine CT_enter3 P.ok P.mvgcd (x := "a") (y := "b") (z := "n") (by decide +kernel) (fun _ _ _ _ _ _ => rfl) ?_
  have hi' := hi
  have hj' := hj
  obtain ⟨ep, hi'⟩ := hi'
  obtain ⟨ep', hj'⟩ := hj'
  have z1 : ¬ (((pE es).length : Int) = 0) := by simp [pE]; exact hes
  have z2 : ¬ (((pE fs).length : Int) = 0) := by simp [pE]; exact hfs
  refine TS_cons ?_
  repeat tm_at "e"
  refine CB_lenD hi' ?_
  repeat tm_at "e"
  first | refine if_F z1 ?_ | rw [decide_eq_false z1, if_neg Bool.false_ne_true]
  repeat tm_at "e"
  refine CB_lenD hj' ?_
  repeat tm_at "e"
  first | refine if_F z2 ?_ | rw [decide_eq_false z2, if_neg Bool.false_ne_true]
  repeat tm_at "e"
  rw [if_neg Bool.false_ne_true]
  repeat tm_at "e"
  refine last_ct P hi hn hl hk hM fun H₁ h₁ => ?_
  repeat tm_at "e"
  refine last_ct P (hj.mono h₁) hn hl' hk' hM' fun H₂ h₂ => ?_
  repeat tm_at "e"
  first | refine if_T hmin ?_ | rw [decide_eq_true hmin, if_pos rfl]
  repeat tm_at "e"
  refine TE_R1 P (by decide +kernel) ?_
  repeat tm_at "e"
  exact mvnumber_ct P (by (first | lia | omega)) fun r H' F => h _ _ (F.trans (h₁.trans h₂))
theorem mvgcd_none (P : Pr G) {n i j b : Nat} {p q : Rat} (hi : DictAt H i (pE (dOf (zr n) p))) (hj : DictAt H j (pE (dOf (zr n) q))) (hpq : p = 0 ∨ q = 0) (hb : Bd b p) (hb' : Bd b q) (hb4 : b ≤ 4000)
    (h : ∀ r H', Fresh H H' r (pE (dOf (zr n) (if p = 0 ∧ q = 0 then 0 else 1))) → Q (.loc r) H') : CT G (k + 6) "mvgcd" [.loc i, .loc j, .int (n : Int)] H Q := by
  refine CT_enter3 P.ok P.mvgcd (x := "a") (y := "b") (z := "n") (by decide +kernel) (fun _ _ _ _ _ _ => rfl) ?_
  have hi' := hi
  have hj' := hj
  obtain ⟨ep, hi'⟩ := hi'
  obtain ⟨ep', hj'⟩ := hj'
  refine TS_cons ?_
  by_cases hp : p = 0
  · subst hp
    rw [dOf_zero] at hi'
    repeat tm_at "e"
    refine CB_lenD hi' ?_
    repeat tm_at "e"
    simp only [pE, List.map_nil, List.length_nil, show (((0 : Nat) : Int) = 0) by decide, decide_true, if_true]
    repeat tm_at "e"
    refine CB_lenD hi' ?_
    repeat tm_at "e"
    simp only [pE, List.map_nil, List.length_nil, show (((0 : Nat) : Int) = 0) by decide, decide_true, if_true]
    repeat tm_at "e"
    refine mvmonic_row P hj hb' hb4 fun r H' F => h _ _ ?_
    by_cases hq : q = 0
    · simpa [hq] using F
    · simpa [hq] using F
  · have hq : q = 0 := hpq.resolve_left hp
    subst hq
    rw [dOf_ne hp] at hi'
    rw [dOf_zero] at hj'
    repeat tm_at "e"
    refine CB_lenD hi' ?_
    repeat tm_at "e"
    simp only [pE, List.map_cons, List.map_nil, List.length_cons, List.length_nil, show ¬ (((0 + 1 : Nat) : Int) = 0) by decide, decide_false, Bool.false_eq_true, if_false]
    repeat tm_at "e"
    refine CB_lenD hj' ?_
    repeat tm_at "e"
    simp only [pE, List.map_nil, List.length_nil, show (((0 : Nat) : Int) = 0) by decide, decide_true, if_true]
    repeat tm_at "e"
    refine CB_lenD hi' ?_
    repeat tm_at "e"
    simp only [pE, List.map_cons, List.map_nil, List.length_cons, List.length_nil, show ¬ (((0 + 1 : Nat) : Int) = 0) by decide, decide_false, Bool.false_eq_true, if_false]
    repeat tm_at "e"
    refine mvmonic_row P hi hb hb4 fun r H' F => h _ _ ?_
    simpa [hp] using F
theorem max_zr (n : Nat) (p : Rat) : ∀ a, a < n → MaxAt [(zr n, p)] a 0 := fun a ha =>
  ⟨⟨_, List.mem_cons_self, by simp [ha]⟩, fun e he x hx => by rw [List.mem_singleton] at he; subst he; simp [ha] at hx; (first | lia | omega)⟩
theorem lastL_zero (n : Nat) : lastL n (fun _ => 0) = -1 := by unfold lastL; simp
theorem mvgcd_rows (P : Pr G) {n i j b : Nat} {p q : Rat} (hn : n = 1 ∨ n = 2) (hi : DictAt H i (pE (dOf (zr n) p))) (hj : DictAt H j (pE (dOf (zr n) q))) (hb : Bd b p) (hb' : Bd b q) (hb4 : b ≤ 4000)
    (h : ∀ r H', Fresh H H' r (pE (dOf (zr n) (if p = 0 ∧ q = 0 then 0 else 1))) → Q (.loc r) H') : CT G (k + 6) "mvgcd" [.loc i, .loc j, .int (n : Int)] H Q := by
  by_cases hp : p = 0
  · exact mvgcd_none P hi hj (.inl hp) hb hb' hb4 h
  · by_cases hq : q = 0
    · exact mvgcd_none P hi hj (.inr hq) hb hb' hb4 h
    · rw [dOf_ne hp] at hi
      rw [dOf_ne hq] at hj
      refine mvgcd_min P (k := k + 3) (D := fun _ => 0) (D' := fun _ => 0) hn hi hj (by (first | exact get_new | simp)) (by (first | exact get_new | simp)) (lim_ok rfl) (lim_ok rfl) (by (first | exact get_new | simp)) (by (first | exact get_new | simp)) (max_zr n p) (max_zr n q) (by rw [lastL_zero]; decide) fun r H' F => h _ _ ?_
      rw [if_neg (fun x => hp x.1)]; exact F
end
end
section
noncomputable def RowsL (n : Nat) (H : MH) : List V → List Rat → Prop
  | [], [] => True
  | u :: us, q :: qs => (∃ m, u = .loc m ∧ DictAt H m (pE (dOf (zr n) q))) ∧ RowsL n H us qs
  | _, _ => False
theorem RowsL.mono {n : Nat} {H H' : MH} (h : H <+: H') : ∀ {us : List V} {qs : List Rat}, RowsL n H us qs → RowsL n H' us qs
  | [], [], _ => trivial
  | u :: us, q :: qs, ⟨⟨m, e, d⟩, r⟩ => ⟨⟨m, e, d.mono h⟩, RowsL.mono h r⟩
  | [], _ :: _, x => x.elim
  | _ :: _, [], x => x.elim
theorem RowsL.len {n : Nat} {H : MH} : ∀ {us : List V} {qs : List Rat}, RowsL n H us qs → us.length = qs.length
  | [], [], _ => rfl
  | u :: us, q :: qs, ⟨_, r⟩ => by simp [RowsL.len r]
  | [], _ :: _, x => x.elim
  | _ :: _, [], x => x.elim
theorem RowsL.snoc {n : Nat} {H : MH} {u : V} {q : Rat} {m : Nat} (hu : u = .loc m) (hd : DictAt H m (pE (dOf (zr n) q))) : ∀ {us : List V} {qs : List Rat}, RowsL n H us qs → RowsL n H (us ++ [u]) (qs ++ [q])
  | [], [], _ => ⟨⟨m, hu, hd⟩, trivial⟩
  | _ :: us, _ :: qs, ⟨a, r⟩ => ⟨a, RowsL.snoc hu hd r⟩
  | [], _ :: _, x => x.elim
  | _ :: _, [], x => x.elim
theorem RowsL.get {n : Nat} {H : MH} : ∀ {us : List V} {qs : List Rat}, RowsL n H us qs → ∀ {t : Nat} {q : Rat}, qs[t]? = some q → ∃ m, us[t]? = some (.loc m) ∧ DictAt H m (pE (dOf (zr n) q))
  | [], [], _, t, q, e => by simp at e
  | u :: us, q :: qs, ⟨⟨m, hu, hd⟩, r⟩, t, q', e => by
    cases t with
    | zero => simp at e; subst e; exact ⟨m, by simp [hu], hd⟩
    | succ t => simp at e; simpa using RowsL.get r e
  | [], _ :: _, x, _, _, _ => x.elim
  | _ :: _, [], x, _, _, _ => x.elim
theorem RowsL.take {n : Nat} {H : MH} : ∀ {us : List V} {qs : List Rat} (t : Nat), RowsL n H us qs → RowsL n H (us.take t) (qs.take t)
  | _, _, 0, _ => by simp [RowsL]
  | [], [], _ + 1, _ => by simp [RowsL]
  | u :: us, q :: qs, t + 1, ⟨a, r⟩ => by simp only [List.take_succ_cons]; exact ⟨a, RowsL.take t r⟩
  | [], _ :: _, _ + 1, x => x.elim
  | _ :: _, [], _ + 1, x => x.elim
noncomputable def RowsAt (n : Nat) (H : MH) (i : Nat) (qs : List Rat) : Prop := ∃ us, H[i]? = some (.list us) ∧ RowsL n H us qs
theorem RowsAt.mono {n i : Nat} {H H' : MH} {qs : List Rat} (h : H <+: H') (x : RowsAt n H i qs) : RowsAt n H' i qs := let ⟨us, e, r⟩ := x; ⟨us, pre_get h e, r.mono h⟩
noncomputable def RFresh (n : Nat) (H H' : MH) (r : Nat) (qs : List Rat) : Prop := H <+: H' ∧ H.length ≤ r ∧ RowsAt n H' r qs
theorem RFresh.trans {n : Nat} {H H₁ H₂ : MH} {r : Nat} {qs : List Rat} (h : H <+: H₁) (x : RFresh n H₁ H₂ r qs) : RFresh n H H₂ r qs := ⟨h.trans x.1, Nat.le_trans (pre_len h) x.2.1, x.2.2⟩
noncomputable def BdL (b : Nat) (qs : List Rat) : Prop := ∀ q ∈ qs, Bd b q

section
variable {G : Gh} {k : Nat} {sc : Scope} {ρ : Rho} {H : MH} {Q : V → MH → Prop}

theorem content_ct (P : Pr G) {n i b : Nat} {qs : List Rat} (hn : n = 1 ∨ n = 2) (hi : RowsAt n H i qs) (hb : BdL b qs) (hb4 : b ≤ 4000) (hnz : ∃ q ∈ qs, q ≠ 0)
    (h : ∀ r H', Fresh H H' r (pE [(zr n, 1)]) → Q (.loc r) H') : CT G (k + 7) "rows_content" [.loc i, .int (n : Int)] H Q := by
  refine CT_enter2 P.ok P.content (x := "rows") (y := "n") (by decide +kernel) (fun _ _ _ _ _ => rfl) ?_
  obtain ⟨us, hi, hr⟩ := hi
  refine TS_cons ?_
  repeat tm_at "e"
  refine TX_For (TI_val ?_) (by decide +kernel)
  repeat tm_at "e"
  have p1 := List.prefix_append H [O.dict [] 0]
  have hi1 := pre_get p1 hi
  simp only [hi1]
  refine ⟨⟨_, _, rfl⟩, ?_⟩
  refine loopS_indJ (fun vs ρ H' => ∃ (rs : List Rat) (f : Nat) (s : Rat), RowsL n H' vs rs ∧ BdL b rs ∧ (s ≠ 0 ∨ ∃ q ∈ rs, q ≠ 0) ∧ (s = 0 ∨ s = 1) ∧ H <+: H' ∧ H.length ≤ f ∧ DictAt H' f (pE (dOf (zr n) s)) ∧ look ρ "found" = some (.loc f) ∧ look ρ "n" = some (.int (n : Int))) ?_ ?_ _ _ _
    ⟨qs, H.length, 0, hr.mono p1, hb, .inr hnz, .inl rfl, p1, Nat.le_refl _, ⟨0, by rw [dOf_zero]; simp [pE]⟩, by tm_at "lk", by tm_at "lk"⟩
  · rintro ρ H' ⟨rs, f, s, h1, h2, h3, h4, h5, h6, h7, l1, l2⟩
    have : rs = [] := by
      cases rs with
      | nil => rfl
      | cons _ _ => exact h1.elim
    subst this
    refine ⟨pre_get h5 hi, ?_⟩
    repeat tm_at "e"
    have hs : s = 1 := by
      rcases h3 with h3 | ⟨q, hq, _⟩
      · exact h4.resolve_left h3
      · cases hq
    subst hs
    rw [dOf_ne (by decide)] at h7
    exact h _ _ ⟨h5, h6, h7⟩
  · rintro u vs ρ H' ⟨rs, f, s, h1, h2, h3, h4, h5, h6, h7, l1, l2⟩
    cases rs with
    | nil => exact h1.elim
    | cons q rs =>
      obtain ⟨⟨m, rfl, hd⟩, h1⟩ := h1
      refine ⟨pre_get h5 hi, _, rfl, fun J hJ hR => ?_⟩
      refine TS_cons ?_
      repeat tm_at "e"
      have hbs : Bd b s := by
        rcases h4 with rfl | rfl
        · exact (⟨by unfold Bi; decide, by unfold Bi; decide⟩ : Bd 0 0).mono (by (first | lia | omega))
        · exact bd_one.mono (by (first | lia | omega))
      refine mvgcd_rows P hn h7 hd hbs (h2 q List.mem_cons_self) hb4 fun r H₂ F => ?_
      repeat tm_at "e"
      refine (hJ _ _ ⟨rs, r, _, h1.mono F.1, fun x hx => h2 x (List.mem_cons_of_mem _ hx), ?_, ?_, h5.trans F.1, Nat.le_trans h6 (Nat.le_trans ?_ F.2.1), F.at, by tm_at "lk", by tm_at "lk"⟩).1
      · by_cases hc : s = 0 ∧ q = 0
        · refine .inr ?_
          rcases h3 with h3 | ⟨q', hq', hne⟩
          · exact absurd hc.1 h3
          · rcases List.mem_cons.mp hq' with rfl | hq'
            · exact absurd hc.2 hne
            · exact ⟨q', hq', hne⟩
        · rw [if_neg hc]; exact .inl (by decide)
      · by_cases hc : s = 0 ∧ q = 0
        · rw [if_pos hc]; exact .inl rfl
        · rw [if_neg hc]; exact .inr rfl
      · obtain ⟨ep, e⟩ := h7
        have := (List.getElem?_eq_some_iff.mp e).1
        (first | lia | omega)
theorem primitive_ct (P : Pr G) {n i b : Nat} {qs : List Rat} (hn : n = 1 ∨ n = 2) (hi : RowsAt n H i qs) (hb : BdL b qs) (hb4 : b ≤ 4000) (hnz : qs = [] ∨ ∃ q ∈ qs, q ≠ 0) (hl : qs.length < lim)
    (h : ∀ r H', RFresh n H H' r qs → Q (.loc r) H') : CT G (k + 10) "rows_primitive" [.loc i, .int (n : Int)] H Q := by
  refine CT_enter2 P.ok P.primitive (x := "rows") (y := "n") (by decide +kernel) (fun _ _ _ _ _ => rfl) ?_
  have hi0 := hi
  obtain ⟨us, hi, hr⟩ := hi
  refine TS_cons ?_
  repeat tm_at "e"
  refine CB_len hi ?_
  repeat tm_at "e"
  have hlen := hr.len
  by_cases hq : qs = []
  · subst hq
    have : us = [] := List.length_eq_zero_iff.mp hlen
    subst this
    simp only [List.length_nil, show (((0 : Nat) : Int) = 0) by decide, decide_true, if_true]
    repeat tm_at "e"
    exact ⟨lim_ok rfl, h _ _ ⟨List.prefix_append _ _, Nat.le_refl _, [], by (first | exact get_new | simp), trivial⟩⟩
  · have hz : ¬ ((us.length : Int) = 0) := by
      rw [hlen]; intro q
      exact hq (List.length_eq_zero_iff.mp (by (first | lia | omega)))
    first | refine if_F hz ?_ | rw [decide_eq_false hz, if_neg Bool.false_ne_true]
    repeat tm_at "e"
    refine content_ct P (k := k + 2) hn hi0 hb hb4 (hnz.resolve_left hq) fun c H₁ F => ?_
    repeat tm_at "e"
    refine TE_ListComp (by decide +kernel) (by decide +kernel) (TI_val ?_)
    repeat tm_at "e"
    have hi1 := pre_get F.1 hi
    simp only [hi1]
    refine ⟨⟨_, _, rfl⟩, ?_⟩
    refine loopC_indJ emL_mono (fun vs ρ acc H' => ∃ (ds rs : List Rat) (ws : List V), qs = ds ++ rs ∧ RowsL n H' vs rs ∧ acc = .list ws ∧ RowsL n H' ws ds ∧ H₁ <+: H' ∧ look ρ "content" = some (.loc c)) ?_ ?_ _ _ _ _ ⟨[], qs, [], rfl, hr.mono F.1, rfl, trivial, List.prefix_refl _, by tm_at "lk"⟩
    · rintro ρ acc H' ⟨ds, rs, ws, e1, h1, rfl, h2, h3, l1⟩
      have : rs = [] := by
        cases rs with
        | nil => rfl
        | cons _ _ => exact h1.elim
      subst this
      rw [List.append_nil] at e1; subst e1
      refine ⟨pre_get h3 hi1, _, rfl, h _ _ ⟨(F.1.trans h3).trans (List.prefix_append _ _), pre_len (F.1.trans h3), ws, by (first | exact get_new | simp), h2.mono (List.prefix_append _ _)⟩⟩
    · rintro u vs ρ acc H' ⟨ds, rs, ws, e1, h1, rfl, h2, h3, l1⟩
      cases rs with
      | nil => exact h1.elim
      | cons q rs =>
        obtain ⟨⟨m, rfl, hd⟩, h1⟩ := h1
        have hq : q ∈ qs := by rw [e1]; simp
        refine ⟨pre_get h3 hi1, _, rfl, fun J hJ => ⟨ws, rfl, ?_, ?_⟩⟩
        · rw [h2.len]; have := congrArg List.length e1; simp at this; (first | lia | omega)
        repeat tm_at "e"
        refine mvexact_ct P hn hd (F.at.mono h3) (hb q hq) hb4 fun r H₂ F₂ => ?_
        exact hJ _ _ _ ⟨ds ++ [q], rs, _, by simp [e1], h1.mono F₂.1, rfl, (h2.mono F₂.1).snoc rfl F₂.at, h3.trans F₂.1, by tm_at "lk"⟩
theorem scale_row (n : Nat) {q f : Rat} (hf : f ≠ 0) : (dOf (zr n) q).map (fun e => (e.1, e.2 * f)) = dOf (zr n) (q * f) := by
  by_cases hq : q = 0
  · subst hq; rw [dOf_zero, Rat.zero_mul, dOf_zero]; rfl
  · rw [dOf_ne hq, dOf_ne (fun x => (Rat.mul_eq_zero.mp x).elim hq hf)]; rfl
theorem inv_ne {q : Rat} (h : q ≠ 0) : q⁻¹ ≠ 0 := fun x => h (by have := Rat.inv_inv q; rw [x] at this; rw [← this]; exact Rat.inv_zero)
theorem mem_dOf {z : List Int} {q : Rat} {e : List Int × Rat} (h : e ∈ dOf z q) : e = (z, q) := by
  unfold dOf at h; split at h
  · cases h
  · simpa using h
theorem dOf_len (z : List Int) (q : Rat) : (dOf z q).length < lim := by unfold dOf; split <;> simp [lim]
theorem monic_ct (P : Pr G) {n i b : Nat} {qs d : List Rat} {l : Rat} (hi : RowsAt n H i qs) (hb : BdL b qs) (hb4 : b ≤ 4000) (hq : qs = d ++ [l]) (hl0 : l ≠ 0) (hl : qs.length < lim)
    (h : ∀ r H', RFresh n H H' r (qs.map (· * l⁻¹)) → Q (.loc r) H') : CT G (k + 5) "rows_monic" [.loc i] H Q := by
  refine CT_enter1 P.ok P.monic (x := "rows") (by decide +kernel) (fun _ _ _ _ => rfl) ?_
  obtain ⟨us, hi, hr⟩ := hi
  refine TS_cons ?_
  repeat tm_at "e"
  refine CB_len hi ?_
  repeat tm_at "e"
  have hlen := hr.len
  have hql : qs.length = d.length + 1 := by rw [hq]; simp
  have hz : ¬ ((us.length : Int) = 0) := by (first | lia | omega)
  first | refine if_F hz ?_ | rw [decide_eq_false hz, if_neg Bool.false_ne_true]
  repeat tm_at "e"
  have hlast : qs[d.length]? = some l := by rw [hq]; simp
  obtain ⟨m, hm, hd⟩ := hr.get hlast
  have hidx : ((-1 : Int) + (us.length : Int)).toNat = d.length := by (first | lia | omega)
  refine PI_list_neg hi (by decide) (by (first | lia | omega)) (by rw [hidx]; exact hm) ?_
  repeat tm_at "e"
  rw [dOf_ne hl0] at hd
  refine mvlead_ct P (k := k + 2) (es := [(zr n, l)]) (d := []) (e := (zr n, l)) (n := n) hd (by (first | exact get_new | simp)) (by (first | exact get_new | simp)) (Asc_one _) rfl ?_
  repeat tm_at "e"
  have hbl : Bd b l := hb l (by rw [hq]; simp)
  refine rinv_ct P hl0 hbl hb4 ?_
  repeat tm_at "e"
  refine TE_ListComp (by decide +kernel) (by decide +kernel) (TI_val ?_)
  repeat tm_at "e"
  simp only [hi]
  refine ⟨⟨_, _, rfl⟩, ?_⟩
  refine loopC_indJ emL_mono (fun vs ρ acc H' => ∃ (ds rs : List Rat) (ws : List V), qs = ds ++ rs ∧ RowsL n H' vs rs ∧ acc = .list ws ∧ RowsL n H' ws (ds.map (· * l⁻¹)) ∧ H <+: H' ∧ look ρ "factor" = some (ratV l⁻¹)) ?_ ?_ _ _ _ _ ⟨[], qs, [], rfl, hr, rfl, trivial, List.prefix_refl _, by tm_at "lk"⟩
  · rintro ρ acc H' ⟨ds, rs, ws, e1, h1, rfl, h2, h3, l1⟩
    have : rs = [] := by
      cases rs with
      | nil => rfl
      | cons _ _ => exact h1.elim
    subst this
    rw [List.append_nil] at e1; subst e1
    exact ⟨pre_get h3 hi, _, rfl, h _ _ ⟨h3.trans (List.prefix_append _ _), pre_len h3, ws, by (first | exact get_new | simp), h2.mono (List.prefix_append _ _)⟩⟩
  · rintro u vs ρ acc H' ⟨ds, rs, ws, e1, h1, rfl, h2, h3, l1⟩
    cases rs with
    | nil => exact h1.elim
    | cons q rs =>
      obtain ⟨⟨m, rfl, hd⟩, h1⟩ := h1
      have hqm : q ∈ qs := by rw [e1]; simp
      refine ⟨pre_get h3 hi, _, rfl, fun J hJ => ⟨ws, rfl, ?_, ?_⟩⟩
      · rw [h2.len]; have := congrArg List.length e1; simp at this ⊢; (first | lia | omega)
      repeat tm_at "e"
      refine mvscale_ct P hd (row_keys _ _) (dOf_len _ _) (fun e he => by rw [mem_dOf he]; exact hb q hqm) (hbl.inv hl0) (inv_ne hl0) hb4 hb4 fun r H₂ F₂ => ?_
      rw [scale_row n (inv_ne hl0)] at F₂
      refine hJ _ _ _ ⟨ds ++ [q], rs, _, by simp [e1], h1.mono F₂.1, rfl, ?_, h3.trans F₂.1, by tm_at "lk"⟩
      rw [List.map_append]
      exact (h2.mono F₂.1).snoc rfl F₂.at
end
end
section
-- rows as functions
noncomputable def cf (qs : List Rat) : Nat → Rat := fun i => qs.getD i 0
noncomputable def sh (f : Nat → Rat) : Nat → Rat
  | 0 => 0
  | i + 1 => f i
inductive Idl (f g : Nat → Rat) : (Nat → Rat) → Prop
  | l : Idl f g f
  | r : Idl f g g
  | add {h h' : Nat → Rat} : Idl f g h → Idl f g h' → Idl f g (fun i => h i + h' i)
  | smul (c : Rat) {h : Nat → Rat} : Idl f g h → Idl f g (fun i => c * h i)
  | shift {h : Nat → Rat} : Idl f g h → Idl f g (sh h)
theorem Idl.trans {f g f' g' h : Nat → Rat} (a : Idl f g f') (b : Idl f g g') (x : Idl f' g' h) : Idl f g h := by
  induction x with
  | l => exact a
  | r => exact b
  | add _ _ i j => exact .add i j
  | smul c _ i => exact .smul c i
  | shift _ i => exact .shift i
theorem Idl.swap {f g h : Nat → Rat} (x : Idl f g h) : Idl g f h := Idl.trans .r .l x
noncomputable def shn : Nat → (Nat → Rat) → (Nat → Rat)
  | 0, f => f
  | n + 1, f => sh (shn n f)
theorem shn_at (f : Nat → Rat) : ∀ n i, shn n f i = if n ≤ i then f (i - n) else 0
  | 0, i => by simp [shn]
  | n + 1, 0 => by simp [shn, sh]
  | n + 1, i + 1 => by
    show shn n f i = _
    rw [shn_at f n i]
    by_cases h : n ≤ i
    · rw [if_pos h, if_pos (by (first | lia | omega))]; congr 1; (first | lia | omega)
    · rw [if_neg h, if_neg (by (first | lia | omega))]
theorem Idl.shn {f g h : Nat → Rat} (x : Idl f g h) : ∀ n, Idl f g (Mine.shn n h)
  | 0 => x
  | n + 1 => .shift (Idl.shn x n)

-- what one generator makes
noncomputable def mulL : List Rat → (Nat → Rat) → (Nat → Rat)
  | [], _ => fun _ => 0
  | c :: u, h => fun i => c * h i + sh (mulL u h) i
theorem sh_add (f g : Nat → Rat) : sh (fun i => f i + g i) = fun i => sh f i + sh g i := by
  funext i; cases i <;> simp [sh, Rat.add_zero]
theorem sh_smul (c : Rat) (f : Nat → Rat) : sh (fun i => c * f i) = fun i => c * sh f i := by
  funext i; cases i <;> simp [sh, Rat.add_zero]
theorem mulL_add (h : Nat → Rat) : ∀ u v : List Rat, ∃ w, mulL w h = fun i => mulL u h i + mulL v h i
  | [], v => ⟨v, by funext i; simp [mulL, Rat.zero_add]⟩
  | c :: u, [] => ⟨c :: u, by funext i; simp [mulL, Rat.add_zero]⟩
  | c :: u, d :: v => by
    obtain ⟨w, hw⟩ := mulL_add h u v
    refine ⟨(c + d) :: w, ?_⟩
    funext i
    simp only [mulL, hw, sh_add]
    grind
theorem mulL_smul (h : Nat → Rat) (c : Rat) : ∀ u : List Rat, ∃ w, mulL w h = fun i => c * mulL u h i
  | [] => ⟨[], by funext i; simp [mulL]⟩
  | d :: u => by
    obtain ⟨w, hw⟩ := mulL_smul h c u
    refine ⟨(c * d) :: w, ?_⟩
    funext i
    simp only [mulL, hw, sh_smul]
    grind
theorem Idl.mulL {h x : Nat → Rat} (i : Idl h h x) : ∃ w, x = Mine.mulL w h := by
  have one : ∃ w, h = Mine.mulL w h := ⟨[1], by funext i; cases i <;> simp [Mine.mulL, sh, Rat.add_zero]⟩
  induction i with
  | l => exact one
  | r => exact one
  | add _ _ a b =>
    obtain ⟨u, rfl⟩ := a
    obtain ⟨v, rfl⟩ := b
    obtain ⟨w, hw⟩ := mulL_add h u v
    exact ⟨w, hw.symm⟩
  | smul c _ a =>
    obtain ⟨u, rfl⟩ := a
    obtain ⟨w, hw⟩ := mulL_smul h c u
    exact ⟨w, hw.symm⟩
  | shift _ a =>
    obtain ⟨u, rfl⟩ := a
    exact ⟨0 :: u, by funext i; simp [Mine.mulL, Rat.zero_add]⟩
-- below the degree of a monic generator there is only zero
theorem mulL_low {h : Nat → Rat} {m : Nat} (hm : h m = 1) (hz : ∀ i, m < i → h i = 0) : ∀ u : List Rat, (∀ i, m ≤ i → mulL u h i = 0) → ∀ i, mulL u h i = 0
  | [], _, i => rfl
  | c :: u, hl, i => by
    have h1 : ∀ i, m ≤ i → mulL u h i = 0 := fun i hi => by
      have := hl (i + 1) (by (first | lia | omega))
      simp only [mulL, sh, hz (i + 1) (by (first | lia | omega))] at this
      simpa [Rat.zero_add] using this
    have h2 := mulL_low hm hz u h1
    have h3 : ∀ i, sh (mulL u h) i = 0 := fun i => by cases i <;> simp [sh, h2]
    have h4 := hl m (Nat.le_refl _)
    simp only [mulL, hm, h3] at h4
    have hc : c = 0 := by grind
    simp [mulL, h3, hc, Rat.add_zero]
theorem Idl.low {h x : Nat → Rat} {m : Nat} (hm : h m = 1) (hz : ∀ i, m < i → h i = 0) (i : Idl h h x) (hl : ∀ i, m ≤ i → x i = 0) : ∀ i, x i = 0 := by
  obtain ⟨w, rfl⟩ := i.mulL
  exact mulL_low hm hz w hl
theorem cf_last {d : List Rat} {l : Rat} : cf (d ++ [l]) d.length = l := by simp [cf]
theorem cf_out {qs : List Rat} {i : Nat} (h : qs.length ≤ i) : cf qs i = 0 := by simp [cf, h]
-- two monic generators of one ideal
theorem monic_unique {d d' : List Rat} (a : Idl (cf (d ++ [1])) (cf (d ++ [1])) (cf (d' ++ [1]))) (b : Idl (cf (d' ++ [1])) (cf (d' ++ [1])) (cf (d ++ [1]))) : d ++ [1] = d' ++ [(1 : Rat)] := by
  have z : ∀ e : List Rat, ∀ i, e.length < i → cf (e ++ [(1 : Rat)]) i = 0 := fun e i h => cf_out (by simp; (first | lia | omega))
  have le : ∀ e e' : List Rat, Idl (cf (e ++ [1])) (cf (e ++ [1])) (cf (e' ++ [1])) → e.length ≤ e'.length := fun e e' x => by
    rcases Nat.lt_or_ge e'.length e.length with h | h
    · have := x.low cf_last (z e) (fun i hi => z e' i (by (first | lia | omega))) e'.length
      rw [cf_last] at this
      exact absurd this (by decide)
    · exact h
  have hl : d.length = d'.length := Nat.le_antisymm (le _ _ a) (le _ _ b)
  have dif : Idl (cf (d ++ [1])) (cf (d ++ [1])) (fun i => cf (d' ++ [1]) i + (-1) * cf (d ++ [1]) i) := .add a (.smul (-1) .l)
  have := dif.low cf_last (z d) (fun i hi => by
    rcases Nat.lt_or_ge d.length i with h | h
    · rw [z d i h, z d' i (by (first | lia | omega))]; grind
    · have : i = d.length := by (first | lia | omega)
      subst this
      have e := @cf_last d' 1
      rw [← hl] at e
      rw [cf_last, e]; grind)
  refine List.ext_getElem (by simp [hl]) fun i h1 h2 => ?_
  have h3 := this i
  have e1 : cf (d ++ [1]) i = (d ++ [1])[i] := by simp only [cf, List.getD_eq_getElem?_getD, List.getElem?_eq_getElem h1]; rfl
  have e2 : cf (d' ++ [1]) i = (d' ++ [1])[i] := by simp only [cf, List.getD_eq_getElem?_getD, List.getElem?_eq_getElem h2]; rfl
  rw [e1, e2] at h3
  grind
noncomputable def Trim (t : List Rat) : Prop := t = [] ∨ ∃ d l, t = d ++ [l] ∧ l ≠ 0
theorem cf_zeros (t : List Rat) (m : Nat) : cf (t ++ List.replicate m 0) = cf t := by
  funext i
  simp only [cf, List.getD_eq_getElem?_getD, List.getElem?_append]
  split
  · rfl
  · rename_i h
    rw [List.getElem?_eq_none (by (first | lia | omega) : t.length ≤ i)]
    simp only [List.getElem?_replicate]
    split <;> rfl
-- one entry behind the other turned
noncomputable def subAt : List Rat → Nat → List Rat → Rat → List Rat
  | S, _, [], _ => S
  | S, s, b :: B, t => subAt (S.set s (S.getD s 0 + -(b * t))) (s + 1) B t
theorem subAt_len : ∀ (B S : List Rat) (s : Nat) (t : Rat), (subAt S s B t).length = S.length
  | [], _, _, _ => rfl
  | b :: B, S, s, t => by rw [subAt, subAt_len B]; simp
theorem cf_set (S : List Rat) (s : Nat) (v : Rat) (i : Nat) (hs : s < S.length) : cf (S.set s v) i = if i = s then v else cf S i := by
  simp only [cf, List.getD_eq_getElem?_getD, List.getElem?_set]
  by_cases h : i = s
  · subst h; simp [hs]
  · rw [if_neg (Ne.symm h), if_neg h]
theorem cf_subAt : ∀ (B S : List Rat) (s : Nat) (t : Rat), s + B.length ≤ S.length → ∀ i, cf (subAt S s B t) i = cf S i + -(shn s (cf B) i * t)
  | [], S, s, t, _, i => by
    have : shn s (cf []) i = 0 := by rw [shn_at]; split <;> simp [cf]
    rw [subAt, this]; grind
  | b :: B, S, s, t, hl, i => by
    simp only [List.length_cons] at hl
    rw [subAt, cf_subAt B _ (s + 1) t (by simp; (first | lia | omega)) i, cf_set _ _ _ _ (by (first | lia | omega)), shn_at, shn_at]
    by_cases h : i = s
    · subst h
      rw [if_pos rfl, if_neg (by (first | lia | omega)), if_pos (Nat.le_refl _), Nat.sub_self]
      simp only [cf, List.getD_cons_zero]; grind
    · rw [if_neg h]
      by_cases h2 : s + 1 ≤ i
      · rw [if_pos h2, if_pos (by (first | lia | omega))]
        obtain ⟨j, rfl⟩ : ∃ j, i = s + 1 + j := ⟨i - (s + 1), by (first | lia | omega)⟩
        have e1 : s + 1 + j - (s + 1) = j := by (first | lia | omega)
        have e2 : s + 1 + j - s = j + 1 := by (first | lia | omega)
        rw [e1, e2]
        simp [cf]
      · rw [if_neg h2, if_neg (by (first | lia | omega))]
end
section
theorem RowsL.set {n : Nat} {H : MH} {m : Nat} {q : Rat} (hd : DictAt H m (pE (dOf (zr n) q))) : ∀ {us : List V} {qs : List Rat} (t : Nat), RowsL n H us qs → RowsL n H (us.set t (.loc m)) (qs.set t q)
  | [], [], _, _ => trivial
  | u :: us, p :: qs, 0, ⟨a, r⟩ => ⟨⟨m, rfl, hd⟩, r⟩
  | u :: us, p :: qs, t + 1, ⟨a, r⟩ => ⟨a, RowsL.set hd t r⟩
  | [], _ :: _, _, x => x.elim
  | _ :: _, [], _, x => x.elim
theorem Bd.add' {n m : Nat} {p q : Rat} (h : Bd n p) (h' : Bd m q) : Bd (n + m + 1) (p + q) := by
  rw [← add_divInt]
  refine Bd.divInt (Int.mul_ne_zero (den_ne p) (den_ne q)) ((h.num.mul h'.den).add ((h'.num.mul h.den).mono (by (first | lia | omega)))) ((h.den.mul h'.den).mono (by (first | lia | omega)))
theorem bd_zero : Bd 0 0 := ⟨by unfold Bi; decide, by unfold Bi; decide⟩
section
variable {G : Gh} {k : Nat} {sc : Scope} {ρ : Rho} {H : MH} {Q : V → MH → Prop}

theorem trimmed_ct (P : Pr G) {n i : Nat} {qs : List Rat} (hi : RowsAt n H i qs) (hl : qs.length < lim) (h : ∀ r H' t m, RFresh n H H' r t → qs = t ++ List.replicate m 0 → Trim t → Q (.loc r) H') : CT G (k + 1) "trimmed_rows" [.loc i] H Q := by
  refine CT_enter1 P.ok P.trimmed (x := "rows") (by decide +kernel) (fun _ _ _ _ => rfl) ?_
  obtain ⟨us, hi, hr⟩ := hi
  refine TS_cons ?_
  repeat tm_at "e"
  refine CB_len hi ?_
  repeat tm_at "e"
  refine TX_While (fun c ρ H' => ∃ m, look ρ "rows" = some (.loc i) ∧ look ρ "many" = some (.int (c : Int)) ∧ H' = H ∧ c + m = qs.length ∧ qs = qs.take c ++ List.replicate m 0) qs.length ⟨0, by tm_at "lk", by rw [← hr.len]; tm_at "lk", rfl, by (first | lia | omega), by (first | exact get_new | simp)⟩ ?_
  rintro c ρ H' ⟨m, l1, l2, rfl, hm, hq⟩
  have hlen := hr.len
  have stop : (∀ d l, qs.take c = d ++ [l] → l ≠ 0) → TS G k (sI 44) ((bI 44).drop 2) ρ H' fun fl ρ' H' => match fl with | .ret u => Q u H' | _ => Q .none H' := fun ht => by
    refine TS_cons ?_
    repeat tm_at "e"
    refine ⟨_, rfl, PSl_to hi (by (first | lia | omega)) ?_⟩
    refine h _ _ (qs.take c) m ⟨List.prefix_append _ _, Nat.le_refl _, us.take c, by (first | exact get_new | simp), (hr.take c).mono (List.prefix_append _ _)⟩ hq ?_
    rcases List.eq_nil_or_concat (qs.take c) with e | ⟨d, l, e⟩
    · exact .inl e
    · rw [List.concat_eq_append] at e
      exact .inr ⟨d, l, e, ht d l e⟩
  repeat tm_at "e"
  by_cases hc : c = 0
  · subst hc
    have z : ¬ ((0 : Int) < ((0 : Nat) : Int)) := by decide
    rw [decide_eq_false z, if_neg Bool.false_ne_true, if_neg Bool.false_ne_true]
    exact stop fun d l e => by simp at e
  · have z : (0 : Int) < (c : Int) := by (first | lia | omega)
    first | refine if_T z ?_ | rw [decide_eq_true z, if_pos rfl]
    repeat tm_at "e"
    have hcl : c - 1 < qs.length := by (first | lia | omega)
    obtain ⟨mm, hmm, hd⟩ := hr.get (t := c - 1) (q := qs[c - 1]) (by simp [hcl])
    refine PI_list hi (by (first | lia | omega)) (by rw [show ((c : Int) - 1).toNat = c - 1 by (first | lia | omega)]; exact hmm) ?_
    repeat tm_at "e"
    obtain ⟨ep, hd⟩ := hd
    refine CB_lenD hd ?_
    repeat tm_at "e"
    by_cases hq0 : qs[c - 1] = 0
    · have z : (((pE (dOf (zr n) qs[c - 1])).length : Int) = 0) := by rw [hq0, dOf_zero]; rfl
      first | refine if_T z ?_ | rw [decide_eq_true z, if_pos rfl]
      repeat tm_at "e"
      rw [if_pos rfl]
      tm_at "e"
      refine TX_Aug (by tm_at "lk") (by decide +kernel) ?_
      repeat tm_at "e"
      have e1 : (c : Int) - 1 = ((c - 1 : Nat) : Int) := by (first | lia | omega)
      refine ⟨c - 1, by (first | lia | omega), m + 1, by tm_at "lk", by rw [e1]; tm_at "lk", rfl, by (first | lia | omega), ?_⟩
      have e2 : qs.take c = qs.take (c - 1) ++ [qs[c - 1]] := by
        have := List.take_succ (l := qs) (i := c - 1)
        rw [show c - 1 + 1 = c by (first | lia | omega)] at this
        rw [this]; simp [hcl]
      rw [e2, hq0] at hq
      rw [List.replicate_succ]
      simpa using hq
    · have z : ¬ (((pE (dOf (zr n) qs[c - 1])).length : Int) = 0) := by rw [dOf_ne hq0]; simp [pE]
      rw [decide_eq_false z, if_neg Bool.false_ne_true, if_neg Bool.false_ne_true]
      refine stop fun d l e => ?_
      have e2 : qs.take c = qs.take (c - 1) ++ [qs[c - 1]] := by
        have := List.take_succ (l := qs) (i := c - 1)
        rw [show c - 1 + 1 = c by (first | lia | omega)] at this
        rw [this]; simp [hcl]
      rw [e2] at e
      have := List.append_inj_right' e rfl
      injection this with this
      rw [← this]; exact hq0
end
end
section
theorem mulR_row {n : Nat} {p c : Rat} (hc : c ≠ 0) : mulR p (dOf (zr n) c) = dOf (zr n) (p * c) := by
  unfold mulR
  by_cases hp : p = 0
  · subst hp; rw [if_pos rfl, Rat.zero_mul, dOf_zero]
  · rw [if_neg hp, dOf_ne hc, dOf_ne (fun x => (Rat.mul_eq_zero.mp x).elim hp hc)]; rfl
noncomputable def pb (l c : Nat) : Nat → Nat
  | 0 => l
  | j + 1 => 2 * pb l c j + c
theorem trim_last {L : List Rat} (h : Trim L) (hl : 0 < L.length) : ∃ d t, L = d ++ [t] ∧ t ≠ 0 := h.resolve_left fun e => by subst e; simp at hl
theorem step_fwd {A B L T : List Rat} {c t : Rat} {s : Nat} (h : ∀ i, cf T i = cf (L.map (· * c)) i + -(shn s (cf B) i * t)) (i1 : Idl (cf A) (cf B) (cf L)) : Idl (cf A) (cf B) (cf T) := by
  have e : cf T = fun i => c * cf L i + (-t) * shn s (cf B) i := by
    funext i
    rw [h i]
    have : cf (L.map (· * c)) i = cf L i * c := by
      simp only [cf, List.getD_eq_getElem?_getD, List.getElem?_map]
      cases L[i]? <;> simp [Rat.zero_mul]
    rw [this]; grind
  rw [e]
  exact .add (.smul c i1) (.smul (-t) (Idl.shn .r s))
theorem step_bwd {A B L T : List Rat} {c t : Rat} {s : Nat} (hc : c ≠ 0) (h : ∀ i, cf T i = cf (L.map (· * c)) i + -(shn s (cf B) i * t)) (i1 : Idl (cf B) (cf L) (cf A)) : Idl (cf B) (cf T) (cf A) := by
  have e : cf L = fun i => c⁻¹ * ((fun i => cf T i + t * shn s (cf B) i) i) := by
    funext i
    have : cf (L.map (· * c)) i = cf L i * c := by
      simp only [cf, List.getD_eq_getElem?_getD, List.getElem?_map]
      cases L[i]? <;> simp [Rat.zero_mul]
    simp only
    rw [h i, this]
    have := Rat.mul_inv_cancel c hc
    grind
  refine Idl.trans .l ?_ i1
  rw [e]
  exact .smul _ (.add .r (.smul t (Idl.shn .l s)))
section
variable {G : Gh} {k : Nat} {sc : Scope} {ρ : Rho} {H : MH} {Q : V → MH → Prop}

theorem mul_rows (P : Pr G) {n i j a b : Nat} {p q : Rat} (hn : n ≤ 2) (hi : DictAt H i (pE (dOf (zr n) p))) (hj : DictAt H j (pE (dOf (zr n) q))) (hq : q ≠ 0) (ha : Bd a p) (hb : Bd b q) (ha4 : a ≤ 4000) (hb4 : b ≤ 4000)
    (h : ∀ r H', Fresh H H' r (pE (dOf (zr n) (p * q))) → Q (.loc r) H') : CT G (k + 4) "mvmul" [.loc i, .loc j] H Q :=
  mvmul_ct P hi hj hn (row_keys _ _) (dOf_len _ _) (fun e he => by rw [mem_dOf he]; simp) (fun e he => by rw [mem_dOf he]; exact hq) ha (fun e he => by rw [mem_dOf he]; exact hb) ha4 hb4 fun r H' F => h r H' (mulR_row hq ▸ F)

theorem pseudo_ct (P : Pr G) {n ia ib la β γ : Nat} {A B : List Rat} {B' : List Rat} {c : Rat} (hn : n = 1 ∨ n = 2) (hia : RowsAt n H ia A) (hib : RowsAt n H ib B) (hA : Trim A) (hB : B = B' ++ [c]) (hc : c ≠ 0) (hla : BdL la A) (hβ : BdL β B) (hγ : Bd γ c)
    (hlA : A.length ≤ 8) (hlB : B.length ≤ 8) (hpb : ∀ j, j + B.length ≤ A.length + 1 → pb la (β + γ + 1) j ≤ 3000) (hβ9 : β ≤ 900) (hγ9 : γ ≤ 10)
    (h : ∀ r H' T j, RFresh n H H' r T → Trim T → T.length < B.length → (j = 0 ∨ j + B.length ≤ A.length + 1) → BdL (pb la (β + γ + 1) j) T → Idl (cf A) (cf B) (cf T) → Idl (cf B) (cf T) (cf A) → Q (.loc r) H') :
    CT G (k + 6) "pseudo_rest" [.loc ia, .loc ib] H Q := by
  refine CT_enter2 P.ok P.pseudo (x := "a") (y := "b") (by decide +kernel) (fun _ _ _ _ _ => rfl) ?_
  obtain ⟨ua, hia, hra⟩ := hia
  obtain ⟨ub, hib, hrb⟩ := hib
  refine TS_cons ?_
  repeat tm_at "e"
  refine CB_list hia ?_
  repeat tm_at "e"
  have p1 := List.prefix_append H [O.list ua]
  refine TX_WhileJ (fun cn ρ H' => ∃ (L : List Rat) (lf j : Nat), cn = L.length ∧ look ρ "left" = some (.loc lf) ∧ look ρ "b" = some (.loc ib) ∧ H <+: H' ∧ H.length ≤ lf ∧ RowsAt n H' lf L ∧ Trim L ∧ BdL (pb la (β + γ + 1) j) L ∧ L.length + j ≤ A.length ∧ (j = 0 ∨ j + B.length ≤ A.length + 1) ∧ Idl (cf A) (cf B) (cf L) ∧ Idl (cf B) (cf L) (cf A)) A.length
    ⟨A, H.length, 0, rfl, by tm_at "lk", by tm_at "lk", p1, Nat.le_refl _, ⟨ua, by (first | exact get_new | simp), hra.mono p1⟩, hA, hla, by (first | lia | omega), .inl rfl, .l, .r⟩ ?_
  rintro cn ρ H' ⟨L, lf, j, rfl, l1, l2, h1, h2, h3, h4, h5, h6, h6', h7, h8⟩ J hJ hR
  have h3' := h3
  obtain ⟨ul, hul, hrl⟩ := h3'
  have hll := hrl.len
  have hbl := hrb.len
  have hBl : B.length = B'.length + 1 := by rw [hB]; simp
  have hib' := pre_get h1 hib
  repeat tm_at "e"
  refine CB_len hul ?_
  repeat tm_at "e"
  refine CB_len hib' ?_
  repeat tm_at "e"
  by_cases hge : B.length ≤ L.length
  case neg =>
    have z : ¬ ((ub.length : Int) ≤ (ul.length : Int)) := by (first | lia | omega)
    first | refine if_F z ?_ | rw [decide_eq_false z, if_neg Bool.false_ne_true]
    repeat tm_at "e"
    exact h _ _ L j ⟨h1, h2, h3⟩ h4 (by (first | lia | omega)) h6' h5 h7 h8
  case pos =>
    have z : ((ub.length : Int) ≤ (ul.length : Int)) := by (first | lia | omega)
    first | refine if_T z ?_ | rw [decide_eq_true z, if_pos rfl]
    obtain ⟨d, t, hL, ht⟩ := trim_last h4 (by (first | lia | omega))
    have hLl : L.length = d.length + 1 := by rw [hL]; simp
    obtain ⟨mt, hmt, hdt⟩ := hrl.get (t := d.length) (q := t) (by rw [hL]; simp)
    obtain ⟨mc, hmc, hdc⟩ := (hrb.mono h1).get (t := B'.length) (q := c) (by rw [hB]; simp)
    have hl0 : pb la (β + γ + 1) j ≤ 3000 := hpb j (by (first | lia | omega))
    tm_at "e"
    refine TX_AssignSw (names := ["top", "shift"]) (by decide +kernel) ?_
    repeat tm_at "e"
    refine PI_list_neg hul (by decide) (by (first | lia | omega)) (by rw [show ((-1 : Int) + (ul.length : Int)).toNat = d.length by (first | lia | omega)]; exact hmt) ?_
    repeat tm_at "e"
    refine CB_len hul ?_
    repeat tm_at "e"
    refine CB_len hib' ?_
    repeat tm_at "e"
    refine ⟨lim_ok rfl, _, rfl, rfl, ?_⟩
    simp only [List.reverse_cons, List.reverse_nil, List.nil_append, List.cons_append, bindN]
    -- the scaled ones
    refine TS_cons ?_
    refine TX_AssignLC (by decide +kernel) (by decide +kernel) (by decide +kernel) (TI_val ?_)
    repeat tm_at "e"
    simp only [hul]
    refine ⟨⟨_, _, rfl⟩, ?_⟩
    refine loopC_indJ emL_mono (fun vs ρ acc H₂ => ∃ (ds rs : List Rat) (ws : List V), L = ds ++ rs ∧ RowsL n H₂ vs rs ∧ acc = .list ws ∧ RowsL n H₂ ws (ds.map (· * c)) ∧ H' <+: H₂ ∧ look ρ "b" = some (.loc ib)) ?_ ?_ _ _ _ _ ⟨[], L, [], rfl, hrl, rfl, trivial, List.prefix_refl _, by tm_at "lk"⟩
    case refine_2 =>
      rintro u vs ρ₁ acc H₂ ⟨ds, rs, ws, e1, g1, rfl, g2, g3, m1⟩
      cases rs with
      | nil => exact g1.elim
      | cons q rs =>
        obtain ⟨⟨m, rfl, hd⟩, g1⟩ := g1
        have hqm : q ∈ L := by rw [e1]; simp
        refine ⟨pre_get g3 hul, _, rfl, fun J2 hJ2 => ⟨ws, rfl, ?_, ?_⟩⟩
        · rw [g2.len]; have := congrArg List.length e1; simp at this ⊢; simp only [lim]; (first | lia | omega)
        repeat tm_at "e"
        refine PI_list_neg (pre_get g3 hib') (by decide) (by (first | lia | omega)) (by rw [show ((-1 : Int) + (ub.length : Int)).toNat = B'.length by (first | lia | omega)]; exact hmc) ?_
        repeat tm_at "e"
        refine mul_rows P (k := k + 1) (by (first | lia | omega)) hd (hdc.mono g3) hc (h5 q hqm) hγ (by (first | lia | omega)) (by (first | lia | omega)) fun r H₃ F => ?_
        refine hJ2 _ _ _ ⟨ds ++ [q], rs, _, by simp [e1], g1.mono F.1, rfl, ?_, g3.trans F.1, by tm_at "lk"⟩
        rw [List.map_append]
        exact (g2.mono F.1).snoc rfl F.at
    rintro ρ₁ acc H₂ ⟨ds, rs, ws, e1, g1, rfl, g2, g3, m1⟩
    have : rs = [] := by
      cases rs with
      | nil => rfl
      | cons _ _ => exact g1.elim
    subst this
    rw [List.append_nil] at e1; subst e1
    clear m1 g1 ρ₁
    refine ⟨pre_get g3 hul, _, rfl, ?_⟩
    -- the loop over b
    have q1 := g3.trans (List.prefix_append H₂ [O.list ws])
    have hsl : H.length ≤ H₂.length := pre_len (h1.trans g3)
    have hibl : ib < H.length := (List.getElem?_eq_some_iff.mp hib).1
    have hwl := g2.len
    simp only [List.length_map] at hwl
    refine TS_cons (TX_For (TI_enum P.ok (by decide +kernel) (by tm_at "nb") ?_) (by decide +kernel))
    repeat tm_at "e"
    have hib2 := pre_get q1 hib'
    simp only [hib2]
    refine ⟨⟨_, _, _, rfl⟩, ?_⟩
    have hF := cf_subAt B (L.map (· * c)) (L.length - B.length) t (by rw [List.length_map]; (first | lia | omega))
    generalize hFd : subAt (L.map (· * c)) (L.length - B.length) B t = F at hF
    have hFl : F.length = L.length := by rw [← hFd, subAt_len]; simp
    refine loopS_indJ (fun vs ρ H₃ => ∃ (at' : Nat) (us' : List V) (rest S : List Rat) (wsc : List V), vs = enumV at' us' ∧ RowsL n H₃ us' rest ∧ (∀ b ∈ rest, b ∈ B) ∧ at' + rest.length = B.length ∧ H' <+: H₃ ∧ H₃[H₂.length]? = some (.list wsc) ∧ RowsL n H₃ wsc S ∧ S.length = L.length ∧ subAt S (L.length - B.length + at') rest t = F ∧
      BdL (pb la (β + γ + 1) (j + 1)) S ∧ (∀ (x : Nat) q, L.length - B.length + at' ≤ x → S[x]? = some q → Bd (pb la (β + γ + 1) j + γ) q) ∧ look ρ "scaled" = some (.loc H₂.length) ∧ look ρ "shift" = some (.int ((ul.length : Int) - (ub.length : Int))) ∧ look ρ "top" = some (.loc mt) ∧ look ρ "b" = some (.loc ib)) ?_ ?_ _ _ _
      ⟨0, ub, B, L.map (· * c), ws, rfl, hrb.mono (h1.trans q1), fun _ x => x, by (first | lia | omega), q1, by (first | exact get_new | simp), g2.mono (List.prefix_append _ _), by (first | exact get_new | simp), hFd, ?_, ?_, by tm_at "lk", by tm_at "lk", by tm_at "lk", by tm_at "lk"⟩
    case refine_3 =>
      intro q hq
      obtain ⟨x, hx, rfl⟩ := List.mem_map.mp hq
      exact ((h5 x hx).mul hγ).mono (by simp only [pb]; (first | lia | omega))
    case refine_4 =>
      intro x q _ hq
      rw [List.getElem?_map] at hq
      obtain ⟨y, hy, rfl⟩ := Option.map_eq_some_iff.mp hq
      exact (h5 y (List.mem_of_getElem? hy)).mul hγ
    case refine_2 =>
      rintro u vs ρ₁ H₃ ⟨at', us', rest, S, wsc, e1, g1, gB, gl, g3', gs, gr, gSl, gF, gb, gb2, m1, m2, m3, m4⟩
      cases us' with
      | nil => cases e1
      | cons w us' =>
        cases rest with
        | nil => exact g1.elim
        | cons bq rest =>
          simp only [enumV] at e1
          injection e1 with e1 e2
          subst e1 e2
          obtain ⟨⟨mb, rfl, hdb⟩, g1⟩ := g1
          simp only [List.length_cons] at gl
          refine ⟨pre_get g3' hib', _, rfl, fun J2 hJ2 hR2 => ?_⟩
          refine TS_cons ?_
          refine TX_SetItem ?_
          repeat tm_at "e"
          have hix : L.length - B.length + at' < S.length := by (first | lia | omega)
          have hixe : ((at' : Int) + ((ul.length : Int) - (ub.length : Int))).toNat = L.length - B.length + at' := by (first | lia | omega)
          obtain ⟨ms, hms, hds⟩ := gr.get (t := L.length - B.length + at') (q := S[L.length - B.length + at']) (by simp [hix])
          refine PI_list gs (by (first | lia | omega)) (by rw [hixe]; exact hms) ?_
          repeat tm_at "e"
          refine mul_rows P (k := k + 1) (by (first | lia | omega)) hdb (hdt.mono g3') ht (hβ bq (gB bq List.mem_cons_self)) (h5 t (by rw [hL]; simp)) (by (first | lia | omega)) (by (first | lia | omega)) fun r1 H₄ F1 => ?_
          repeat tm_at "e"
          refine mvneg_ct P (k := k + 3) F1.at fun r2 H₅ F2 => ?_
          repeat tm_at "e"
          have b1 : Bd (pb la (β + γ + 1) j + γ) S[L.length - B.length + at'] := gb2 _ _ (Nat.le_refl _) (by simp [hix])
          have b2 : Bd (β + pb la (β + γ + 1) j) (-(bq * t)) := ((hβ bq (gB bq List.mem_cons_self)).mul (h5 t (by rw [hL]; simp))).neg
          have pp := F1.1.trans F2.1
          refine mvadd_ct P (k := k) (hds.mono pp) F2.at b1 b2 (by (first | lia | omega)) (by (first | lia | omega)) fun r3 H₆ F3 => ?_
          have pq := pp.trans F3.1
          repeat tm_at "e"
          have gs6 := pre_get pq gs
          refine PS_list gs6 (by (first | lia | omega)) (by rw [gr.len]; (first | lia | omega)) ?_
          rw [hixe]
          have hS6 : ∀ o, H₃.length ≤ (H₆.set H₂.length o).length := fun o => by rw [List.length_set]; exact pre_len pq
          have hH2l : H'.length ≤ H₂.length := pre_len g3
          have pset : ∀ o, H' <+: H₆.set H₂.length o := fun o => pre_set (g3'.trans pq) hH2l o
          have keepD : ∀ {o : O} {m : Nat} {es : Ent}, DictAt H₆ m es → (∀ l, o = .list l → True) → DictAt (H₆.set H₂.length (.list (wsc.set (L.length - B.length + at') (V.loc r3)))) m es := fun {o m es} ⟨ep, e⟩ _ => by
            refine ⟨ep, (get_set_ne fun q => ?_).trans e⟩
            rw [q, gs6] at e; cases e
          have keepR : ∀ {us : List V} {qs : List Rat}, RowsL n H₆ us qs → RowsL n (H₆.set H₂.length (.list (wsc.set (L.length - B.length + at') (V.loc r3)))) us qs := by
            intro us
            induction us with
            | nil => intro qs x; cases qs with
              | nil => trivial
              | cons _ _ => exact x.elim
            | cons u us ih => intro qs x; cases qs with
              | nil => exact x.elim
              | cons q qs => obtain ⟨⟨m, e, d⟩, r⟩ := x; exact ⟨⟨m, e, keepD (o := .list []) d fun _ _ => trivial⟩, ih r⟩
          repeat tm_at "e"
          refine (hJ2 _ _ ⟨at' + 1, us', rest, S.set (L.length - B.length + at') (S[L.length - B.length + at'] + -(bq * t)), _, rfl, keepR (g1.mono pq), fun x hx => gB x (List.mem_cons_of_mem _ hx), by (first | lia | omega), pset _, get_set gs6, keepR (RowsL.set F3.at _ (gr.mono pq)), by simpa using gSl, ?_, ?_, ?_, by tm_at "lk", by tm_at "lk", by tm_at "lk", by tm_at "lk"⟩).1
          · rw [← gF, subAt]
            have e1 : S.getD (L.length - B.length + at') 0 = S[L.length - B.length + at'] := by simp [hix]
            rw [e1, Nat.add_assoc]
          · intro x hx
            rcases List.mem_or_eq_of_mem_set hx with hx | rfl
            · exact gb x hx
            · exact (b1.add' b2).mono (by simp only [pb]; (first | lia | omega))
          · intro x q hx hq
            rw [List.getElem?_set, if_neg (by (first | lia | omega))] at hq
            exact gb2 x q (by (first | lia | omega)) hq
    rintro ρ₁ H₃ ⟨at', us', rest, S, wsc, e1, g1, gB, gl, g3', gs, gr, gSl, gF, gb, gb2, m1, m2, m3, m4⟩
    have : us' = [] := by
      cases us' with
      | nil => rfl
      | cons _ _ => cases e1
    subst this
    have : rest = [] := by
      cases rest with
      | nil => rfl
      | cons _ _ => exact g1.elim
    subst this
    rw [subAt] at gF
    subst gF
    refine ⟨pre_get g3' hib', ?_⟩
    refine TS_cons ?_
    repeat tm_at "e"
    refine ⟨_, rfl, PSl_but1 gs ?_⟩
    repeat tm_at "e"
    have q3 := List.prefix_append H₃ [O.list wsc.dropLast]
    have d1 : wsc.dropLast = wsc.take (S.length - 1) := by rw [List.dropLast_eq_take, gr.len]
    have d2 : S.dropLast = S.take (S.length - 1) := List.dropLast_eq_take
    have hdl : RowsAt n (H₃ ++ [O.list wsc.dropLast]) H₃.length S.dropLast := ⟨wsc.dropLast, by (first | exact get_new | simp), by
      have x := (gr.take (S.length - 1)).mono q3
      rw [← d1, ← d2] at x
      exact x⟩
    refine trimmed_ct P hdl (by simp [lim]; (first | lia | omega)) fun r H₄ T m FF eT hT => ?_
    repeat tm_at "e"
    -- what it means
    have hSlast : S = S.dropLast ++ [0] := by
      have hne : S ≠ [] := by intro q; rw [q] at gSl; simp at gSl; (first | lia | omega)
      have e := List.dropLast_concat_getLast hne
      have e2 : S.getLast hne = cf S (L.length - 1) := by
        rw [List.getLast_eq_getElem]
        simp only [cf, List.getD_eq_getElem?_getD]
        rw [List.getElem?_eq_getElem (by (first | lia | omega))]
        simp [gSl]
      have e3 : cf S (L.length - 1) = 0 := by
        rw [hF, shn_at, if_pos (by (first | lia | omega))]
        have x1 : cf (L.map (· * c)) (L.length - 1) = t * c := by
          rw [hL]; simp [cf]
        have x2 : cf B (L.length - 1 - (L.length - B.length)) = c := by
          rw [show L.length - 1 - (L.length - B.length) = B'.length by (first | lia | omega), hB]; exact cf_last
        rw [x1, x2]; grind
      rw [e2, e3] at e
      exact e.symm
    have hcT : cf T = cf S := by
      rw [hSlast, eT, List.append_assoc]
      have : List.replicate m (0 : Rat) ++ [0] = List.replicate (m + 1) 0 := by simp [List.replicate_succ']
      rw [this, cf_zeros]
    have hTl : T.length < L.length := by
      have := congrArg List.length eT
      simp at this
      (first | lia | omega)
    rw [← hcT] at hF
    refine (hJ T.length _ _ hTl ⟨T, r, j + 1, rfl, by tm_at "lk", by tm_at "lk", (h1.trans (g3'.trans q3)).trans FF.1, by have := FF.2.1; have := pre_len (h1.trans (g3'.trans q3)); (first | lia | omega), FF.2.2, hT, fun q hq => gb q ?_, by (first | lia | omega), .inr (by (first | lia | omega)), step_fwd hF h7, step_bwd hc hF h8⟩).1
    have : q ∈ S.dropLast := by rw [eT]; exact List.mem_append_left _ hq
    exact (List.dropLast_sublist S).subset this
end
end
section
noncomputable def bs (l : Nat) : Nat := if 4 ≤ l then 5 else if l = 3 then 42 else if l = 2 then 328 else 5348
theorem bs_anti {l m : Nat} (h : l ≤ m) : bs m ≤ bs l := by unfold bs; (repeat' split) <;> (first | lia | omega)
theorem bs_two {l : Nat} (h : 2 ≤ l) : bs l ≤ 328 := by unfold bs; (repeat' split) <;> (first | lia | omega)
theorem bs_five (l : Nat) : 5 ≤ bs l := by unfold bs; (repeat' split) <;> (first | lia | omega)
theorem pb_ok {la lb x y : Nat} (h2 : 2 ≤ lb) (h4 : la ≤ 4) (hx : x = bs (max 2 (lb + 1))) (hy : y = bs lb) (hl : lb ≤ la) : ∀ j, j + lb ≤ la + 1 → 2 * pb x (y + 5 + 1) j ≤ bs (lb - 1) ∧ pb x (y + 5 + 1) j ≤ 3000 := by
  intro j hj
  subst hx hy
  have hlb : lb = 2 ∨ lb = 3 ∨ lb = 4 := by (first | lia | omega)
  have hj3 : j ≤ 5 - lb := by (first | lia | omega)
  rcases hlb with rfl | rfl | rfl
  · have : j = 0 ∨ j = 1 ∨ j = 2 ∨ j = 3 := by (first | lia | omega)
    rcases this with rfl | rfl | rfl | rfl <;> decide
  · have : j = 0 ∨ j = 1 ∨ j = 2 := by (first | lia | omega)
    rcases this with rfl | rfl | rfl <;> decide
  · have : j = 0 ∨ j = 1 := by (first | lia | omega)
    rcases this with rfl | rfl <;> decide
theorem one_all : ∀ qs : List Rat, Idl (cf [1]) (cf [1]) (cf qs)
  | [] => by
    have : cf [] = fun i => 0 * cf [1] i := by funext i; simp [cf, Rat.zero_mul]
    rw [this]; exact .smul 0 .l
  | q :: qs => by
    have : cf (q :: qs) = fun i => (fun i => q * cf [1] i) i + sh (cf qs) i := by
      funext i
      cases i with
      | zero => simp [cf, sh, Rat.add_zero]
      | succ i => simp [cf, sh, Rat.zero_add]
    rw [this]
    exact .add (.smul q .l) (.shift (one_all qs))
theorem cf_scale (qs : List Rat) (f : Rat) : cf (qs.map (· * f)) = fun i => f * cf qs i := by
  funext i
  simp only [cf, List.getD_eq_getElem?_getD, List.getElem?_map]
  cases qs[i]? with
  | none => simp [Rat.mul_zero]
  | some x => simp only [Option.map_some, Option.getD_some]; exact Rat.mul_comm _ _
theorem cf_unscale {qs : List Rat} {f : Rat} (hf : f ≠ 0) : cf qs = fun i => f⁻¹ * cf (qs.map (· * f)) i := by
  funext i
  rw [cf_scale]
  have := Rat.mul_inv_cancel f hf
  grind
section
variable {G : Gh} {k : Nat} {sc : Scope} {ρ : Rho} {H : MH} {Q : V → MH → Prop}
theorem monic_none (P : Pr G) {n i : Nat} (hi : RowsAt n H i []) (h : ∀ r H', RFresh n H H' r [] → Q (.loc r) H') : CT G (k + 5) "rows_monic" [.loc i] H Q := by
  refine CT_enter1 P.ok P.monic (x := "rows") (by decide +kernel) (fun _ _ _ _ => rfl) ?_
  obtain ⟨us, hi, hr⟩ := hi
  have : us = [] := List.length_eq_zero_iff.mp hr.len
  subst this
  refine TS_cons ?_
  repeat tm_at "e"
  refine CB_len hi ?_
  repeat tm_at "e"
  simp only [List.length_nil, show (((0 : Nat) : Int) = 0) by decide, decide_true, if_true]
  repeat tm_at "e"
  exact ⟨lim_ok rfl, h _ _ ⟨List.prefix_append _ _, Nat.le_refl _, [], by (first | exact get_new | simp), trivial⟩⟩
-- the next one
noncomputable def nextR (T : List Rat) : List Rat := match T.getLast? with
  | none => []
  | some l => T.map (· * l⁻¹)
theorem rgcd_ct (P : Pr G) {n ia ib : Nat} {A B : List Rat} (hn : n = 1 ∨ n = 2) (hia : RowsAt n H ia A) (hib : RowsAt n H ib B) (hA : Trim A) (hB : Trim B) (hA0 : A ≠ []) (hB0 : B ≠ []) (hlA : A.length ≤ 4) (hlB : B.length ≤ 4) (hbA : BdL 5 A) (hbB : BdL 5 B)
    (h : ∀ r H' d, RFresh n H H' r (d ++ [1]) → Idl (cf A) (cf B) (cf (d ++ [1])) → Idl (cf (d ++ [1])) (cf (d ++ [1])) (cf A) → Idl (cf (d ++ [1])) (cf (d ++ [1])) (cf B) → BdL 700 (d ++ [1]) → d.length ≤ 3 → Q (.loc r) H') :
    CT G (k + 11) "rows_gcd" [.loc ia, .loc ib, .int (n : Int)] H Q := by
  refine CT_enter3 P.ok P.rgcd (x := "a") (y := "b") (z := "n") (by decide +kernel) (fun _ _ _ _ _ _ => rfl) ?_
  have main : ∀ (ρ : Rho) (i1 i2 : Nat) (L1 L2 : List Rat), look ρ "one" = some (.loc i1) → look ρ "other" = some (.loc i2) → look ρ "n" = some (.int (n : Int)) → RowsAt n H i1 L1 → RowsAt n H i2 L2 → Trim L1 → Trim L2 → L1 ≠ [] → L2.length ≤ L1.length → L1.length ≤ 4 → BdL 5 L1 → BdL 5 L2 →
      Idl (cf A) (cf B) (cf L1) → Idl (cf A) (cf B) (cf L2) → Idl (cf L1) (cf L2) (cf A) → Idl (cf L1) (cf L2) (cf B) → TS G (k + 10) (sI 50) ((bI 50).drop 1) ρ H (retQ Q) := by
    intro ρ i1 i2 L1 L2 l1 l2 l3 r1 r2 t1 t2 n1 hle h4 b1 b2 g1 g2 g3 g4
    refine TS_cons ?_
    refine TX_WhileJ (fun cn ρ H' => ∃ (i1 i2 : Nat) (L1 L2 : List Rat), cn = L2.length ∧ look ρ "one" = some (.loc i1) ∧ look ρ "other" = some (.loc i2) ∧ look ρ "n" = some (.int (n : Int)) ∧ H <+: H' ∧ RowsAt n H' i1 L1 ∧ RowsAt n H' i2 L2 ∧ Trim L1 ∧ Trim L2 ∧ L1 ≠ [] ∧ L2.length ≤ L1.length ∧ L1.length ≤ 4 ∧
      BdL (bs (max 2 (L2.length + 1))) L1 ∧ BdL (bs L2.length) L2 ∧ (∀ d c, L2 = d ++ [c] → Bd 5 c) ∧ Idl (cf A) (cf B) (cf L1) ∧ Idl (cf A) (cf B) (cf L2) ∧ Idl (cf L1) (cf L2) (cf A) ∧ Idl (cf L1) (cf L2) (cf B)) L2.length
      ⟨i1, i2, L1, L2, rfl, l1, l2, l3, List.prefix_refl _, r1, r2, t1, t2, n1, hle, h4, fun q hq => (b1 q hq).mono (bs_five _), fun q hq => (b2 q hq).mono (bs_five _), fun d c e => b2 c (by rw [e]; simp), g1, g2, g3, g4⟩ ?_
    clear l1 l2 l3 r1 r2 t1 t2 n1 hle h4 b1 b2 g1 g2 g3 g4
    rintro cn ρ H' ⟨i1, i2, L1, L2, rfl, l1, l2, l3, p0, r1, r2, t1, t2, n1, hle, h4, b1, b2, b3, g1, g2, g3, g4⟩ J hJ hR
    have r2' := r2
    obtain ⟨u2, hu2, hr2⟩ := r2'
    have hl2 := hr2.len
    repeat tm_at "e"
    refine CB_len hu2 ?_
    repeat tm_at "e"
    by_cases hc : 1 < L2.length
    · have z : (1 : Int) < (u2.length : Int) := by (first | lia | omega)
      first | refine if_T z ?_ | rw [decide_eq_true z, if_pos rfl]
      obtain ⟨d2, c2, e2, hc2⟩ := trim_last t2 (by (first | lia | omega))
      tm_at "e"
      refine TX_AssignSw (names := ["one", "other"]) (by decide +kernel) ?_
      repeat tm_at "e"
      have hpbs := pb_ok (la := L1.length) (lb := L2.length) (by (first | lia | omega)) h4 rfl rfl hle
      refine pseudo_ct P (k := k + 4) (γ := 5) hn r1 r2 t1 e2 hc2 b1 b2 (b3 _ _ e2) (by (first | lia | omega)) (by (first | lia | omega)) (fun j hj => (hpbs j hj).2) (by have := bs_two (l := L2.length) (by (first | lia | omega)); (first | lia | omega)) (by (first | lia | omega)) fun r3 H₃ T j F hT hTl hj hTb gT gT' => ?_
      have hbT : 2 * pb (bs (max 2 (L2.length + 1))) (bs L2.length + 5 + 1) j ≤ bs (L2.length - 1) ∧ pb (bs (max 2 (L2.length + 1))) (bs L2.length + 5 + 1) j ≤ 3000 := by
        rcases hj with rfl | hj
        · exact hpbs 0 (by (first | lia | omega))
        · exact hpbs j hj
      repeat tm_at "e"
      refine primitive_ct P (k := k) hn F.2.2 hTb (by (first | lia | omega)) (by
        rcases hT with rfl | ⟨d, l, rfl, hl⟩
        · exact .inl rfl
        · exact .inr ⟨l, by (first | exact get_new | simp), hl⟩) (by simp only [lim]; (first | lia | omega)) fun r4 H₄ F4 => ?_
      have p34 := F.1.trans F4.1
      repeat tm_at "e"
      have bsl : bs (L2.length - 1) ≤ bs T.length := bs_anti (by (first | lia | omega))
      have gI : Idl (cf A) (cf B) (cf T) := Idl.trans g1 g2 gT
      have next : ∀ r5 H₅ (f : Rat), f ≠ 0 → RFresh n H₄ H₅ r5 (T.map (· * f)) → BdL (bs T.length) (T.map (· * f)) → (∀ d c, T.map (· * f) = d ++ [c] → Bd 5 c) →
          J .next (upd "one" (V.loc i2) (upd "other" (V.loc r5) ρ)) H₅ := by
        intro r5 H₅ f hf F5 hb hl
        have tN : Trim (T.map (· * f)) := by
          rcases hT with rfl | ⟨d, l, rfl, hl0⟩
          · exact .inl rfl
          · exact .inr ⟨d.map (· * f), l * f, by (first | exact get_new | simp), fun x => (Rat.mul_eq_zero.mp x).elim hl0 hf⟩
        have n1' : L2 ≠ [] := by intro q; rw [q] at hc; simp at hc
        have iT : Idl (cf L2) (cf (T.map (· * f))) (cf T) := by rw [cf_unscale (qs := T) hf]; exact .smul _ .r
        have i1A : Idl (cf L2) (cf (T.map (· * f))) (cf L1) := Idl.trans .l iT gT'
        refine (hJ T.length _ _ hTl ⟨i2, r5, L2, T.map (· * f), by (first | exact get_new | simp), by tm_at "lk", by tm_at "lk", by tm_at "lk", p0.trans (p34.trans F5.1), r2.mono (p34.trans F5.1), F5.2.2, t2, tN, n1', by simp; (first | lia | omega), by (first | lia | omega), fun q hq => (b2 q hq).mono (bs_anti (by simp; (first | lia | omega))), by simpa using hb, hl, g2, ?_, Idl.trans i1A .l g3, Idl.trans i1A .l g4⟩).1
        rw [cf_scale]; exact .smul _ gI
      rcases hT with rfl | ⟨d, l, rfl, hl0⟩
      · refine monic_none P (k := k + 5) F4.2.2 fun r5 H₅ F5 => ?_
        repeat tm_at "e"
        refine ⟨lim_ok rfl, _, rfl, rfl, ?_⟩
        simp only [List.reverse_cons, List.reverse_nil, List.nil_append, List.cons_append, bindN]
        repeat tm_at "e"
        exact next r5 H₅ 1 (by decide) F5 (fun _ hx => nomatch hx) (fun d c e => by simp at e)
      · refine monic_ct P (k := k + 5) F4.2.2 hTb (by (first | lia | omega)) rfl hl0 (by simp only [lim]; (first | lia | omega)) fun r5 H₅ F5 => ?_
        repeat tm_at "e"
        refine ⟨lim_ok rfl, _, rfl, rfl, ?_⟩
        simp only [List.reverse_cons, List.reverse_nil, List.nil_append, List.cons_append, bindN]
        repeat tm_at "e"
        have hbl := hTb l (by (first | exact get_new | simp))
        refine next r5 H₅ l⁻¹ (inv_ne hl0) F5 (fun q hq => ?_) (fun d' c' e => ?_)
        · obtain ⟨x, hx, rfl⟩ := List.mem_map.mp hq
          exact ((hTb x hx).mul (hbl.inv hl0)).mono (by (first | lia | omega))
        · rw [List.map_append] at e
          have := List.append_inj_right' e rfl
          injection this with this
          rw [← this]
          show Bd 5 (l * l⁻¹)
          rw [Rat.mul_inv_cancel l hl0]
          exact bd_one.mono (by (first | lia | omega))
    · have z : ¬ ((1 : Int) < (u2.length : Int)) := by (first | lia | omega)
      first | refine if_F z ?_ | rw [decide_eq_false z, if_neg Bool.false_ne_true]
      repeat tm_at "e"
      refine CB_len hu2 ?_
      repeat tm_at "e"
      by_cases hz : L2.length = 0
      · have z : ((u2.length : Int) = 0) := by (first | lia | omega)
        have hL2 : L2 = [] := List.length_eq_zero_iff.mp hz
        subst hL2
        first | refine if_T z ?_ | rw [decide_eq_true z, if_pos rfl]
        repeat tm_at "e"
        obtain ⟨d, l, rfl, hl0⟩ := t1.resolve_left n1
        refine monic_ct P (k := k + 5) r1 b1 (by decide) rfl hl0 (by simp only [lim]; (first | lia | omega)) fun r5 H₅ F5 => ?_
        have e0 : cf [] = fun i => 0 * cf (d.map (· * l⁻¹) ++ [1]) i := by funext i; simp [cf, Rat.zero_mul]
        have eN : (d ++ [l]).map (· * l⁻¹) = d.map (· * l⁻¹) ++ [1] := by simp [Rat.mul_inv_cancel l hl0]
        have i1 : Idl (cf (d.map (· * l⁻¹) ++ [1])) (cf (d.map (· * l⁻¹) ++ [1])) (cf (d ++ [l])) := by
          rw [cf_unscale (qs := d ++ [l]) (inv_ne hl0), eN]; exact .smul _ .l
        have i2 : Idl (cf (d.map (· * l⁻¹) ++ [1])) (cf (d.map (· * l⁻¹) ++ [1])) (cf []) := by rw [e0]; exact .smul 0 .l
        have bN : BdL 700 ((d ++ [l]).map (· * l⁻¹)) := fun q hq => by
          obtain ⟨x, hx, rfl⟩ := List.mem_map.mp hq
          exact ((b1 x hx).mul ((b1 l (by (first | exact get_new | simp))).inv hl0)).mono (by decide)
        rw [eN] at F5 bN
        refine h r5 H₅ (d.map (· * l⁻¹)) (F5.trans p0) ?_ (Idl.trans i1 i2 g3) (Idl.trans i1 i2 g4) bN (by simp at h4 ⊢; (first | lia | omega))
        rw [← eN, cf_scale]; exact .smul _ g1
      · have z : ¬ ((u2.length : Int) = 0) := by (first | lia | omega)
        first | refine if_F z ?_ | rw [decide_eq_false z, if_neg Bool.false_ne_true]
        repeat tm_at "e"
        refine TE_R1 P (by decide +kernel) ?_
        repeat tm_at "e"
        refine mvnumber_ct P (k := k + 8) (by (first | lia | omega)) fun r5 H₅ F5 => ?_
        repeat tm_at "e"
        refine ⟨lim_ok rfl, ?_⟩
        obtain ⟨d, c, rfl, hc0⟩ := t2.resolve_left (fun e => hz (by rw [e]; rfl))
        have hd : d = [] := by simp at hc; exact hc
        subst hd
        have p5 := List.prefix_append H₅ [O.list [V.loc r5]]
        refine h H₅.length _ [] ⟨(p0.trans F5.1).trans p5, pre_len (p0.trans F5.1), [.loc r5], by (first | exact get_new | simp), ⟨r5, rfl, F5.at.mono p5⟩, trivial⟩ ?_ (one_all _) (one_all _) (fun q hq => by
          rw [List.nil_append, List.mem_singleton] at hq; subst hq; exact bd_one.mono (by (first | lia | omega))) (by (first | exact get_new | simp))
        have e1 : cf ([] ++ [1]) = fun i => c⁻¹ * cf ([] ++ [c]) i := by
          rw [← cf_scale]; simp [Rat.mul_inv_cancel c hc0]
        rw [e1]; exact .smul _ g2
  obtain ⟨ua, hia', hra⟩ := hia
  obtain ⟨ub, hib', hrb⟩ := hib
  have hla := hra.len
  have hlb := hrb.len
  refine TS_cons ?_
  refine TX_AssignT (names := ["one", "other"]) rfl (by decide +kernel) ?_
  repeat tm_at "e"
  refine CB_len hia' ?_
  repeat tm_at "e"
  refine CB_len hib' ?_
  repeat tm_at "e"
  by_cases hge : B.length ≤ A.length
  · have z : ((ub.length : Int) ≤ (ua.length : Int)) := by (first | lia | omega)
    first | refine if_T z ?_ | rw [decide_eq_true z, if_pos rfl]
    repeat tm_at "e"
    refine ⟨lim_ok rfl, _, rfl, rfl, ?_⟩
    simp only [bindN]
    exact main _ ia ib A B (by tm_at "lk") (by tm_at "lk") (by tm_at "lk") ⟨ua, hia', hra⟩ ⟨ub, hib', hrb⟩ hA hB hA0 hge hlA hbA hbB .l .r .l .r
  · have z : ¬ ((ub.length : Int) ≤ (ua.length : Int)) := by (first | lia | omega)
    first | refine if_F z ?_ | rw [decide_eq_false z, if_neg Bool.false_ne_true]
    repeat tm_at "e"
    refine ⟨lim_ok rfl, _, rfl, rfl, ?_⟩
    simp only [bindN]
    exact main _ ib ia B A (by tm_at "lk") (by tm_at "lk") (by tm_at "lk") ⟨ub, hib', hrb⟩ ⟨ua, hia', hra⟩ hB hA hB0 (by (first | lia | omega)) hlB hbB hbA .r .l .r .l
end
end
section
noncomputable def key (n a : Nat) (p : Int) : List Int := (zr n).set a p
noncomputable def NA (n a : Nat) : Prop := (n = 1 ∧ a = 0) ∨ (n = 2 ∧ a = 0) ∨ (n = 2 ∧ a = 1)
noncomputable def polyL (n a : Nat) : Nat → List Rat → PL
  | _, [] => []
  | s, c :: cs => if c = 0 then polyL n a (s + 1) cs else (key n a (s : Int), c) :: polyL n a (s + 1) cs
theorem key_at {n a : Nat} (h : NA n a) (p : Int) : (key n a p)[a]? = some p := by
  rcases h with ⟨rfl, rfl⟩ | ⟨rfl, rfl⟩ | ⟨rfl, rfl⟩ <;> rfl
theorem key_len (n a : Nat) (p : Int) : (key n a p).length = n := by simp [key]
theorem key_inj {n a : Nat} (h : NA n a) {p q : Int} (e : key n a p = key n a q) : p = q := by
  have h1 := key_at h p
  rw [e, key_at h q] at h1
  exact (Option.some.inj h1).symm
theorem polyL_mem {n a : Nat} : ∀ (cs : List Rat) (s : Nat) {e : List Int × Rat}, e ∈ polyL n a s cs → ∃ t : Nat, s ≤ t ∧ t < s + cs.length ∧ e.1 = key n a (t : Int) ∧ e.2 ≠ 0 ∧ cs[t - s]? = some e.2
  | [], s, e, h => by simp [polyL] at h
  | c :: cs, s, e, h => by
    have next : e ∈ polyL n a (s + 1) cs → ∃ t : Nat, s ≤ t ∧ t < s + (c :: cs).length ∧ e.1 = key n a (t : Int) ∧ e.2 ≠ 0 ∧ (c :: cs)[t - s]? = some e.2 := fun h => by
      obtain ⟨t, h1, h2, h3, h4, h5⟩ := polyL_mem cs (s + 1) h
      refine ⟨t, by (first | lia | omega), by simp; (first | lia | omega), h3, h4, ?_⟩
      rw [show t - s = (t - (s + 1)) + 1 by (first | lia | omega)]; simpa using h5
    unfold polyL at h
    by_cases hc : c = 0
    · rw [if_pos hc] at h; exact next h
    · rw [if_neg hc] at h
      rcases List.mem_cons.mp h with rfl | h
      · exact ⟨s, Nat.le_refl _, by (first | exact get_new | simp), rfl, hc, by (first | exact get_new | simp)⟩
      · exact next h
theorem polyL_nodup {n a : Nat} (hna : NA n a) : ∀ (cs : List Rat) (s : Nat), ((polyL n a s cs).map (·.1)).Nodup
  | [], s => by simp [polyL]
  | c :: cs, s => by
    unfold polyL
    split
    · exact polyL_nodup hna cs (s + 1)
    · rw [List.map_cons, List.nodup_cons]
      refine ⟨fun hm => ?_, polyL_nodup hna cs (s + 1)⟩
      obtain ⟨e, he, hk⟩ := List.mem_map.mp hm
      obtain ⟨t, h1, _, h3, _⟩ := polyL_mem cs (s + 1) he
      rw [h3] at hk
      have := key_inj hna hk
      (first | lia | omega)
theorem polyL_len {n a : Nat} : ∀ (cs : List Rat) (s : Nat), (polyL n a s cs).length ≤ cs.length
  | [], s => by simp [polyL]
  | c :: cs, s => by
    have := polyL_len (n := n) (a := a) cs (s + 1)
    unfold polyL
    split
    · simp; (first | lia | omega)
    · simp; (first | lia | omega)
theorem polyL_cons {n a : Nat} : ∀ (cs : List Rat) (s : Nat) {e : List Int × Rat} {r : PL}, polyL n a s cs = e :: r → ∃ (m : Nat) (cs' : List Rat), cs = List.replicate m 0 ++ e.2 :: cs' ∧ e.1 = key n a ((s + m : Nat) : Int) ∧ e.2 ≠ 0 ∧ r = polyL n a (s + m + 1) cs'
  | [], s, e, r, h => by simp [polyL] at h
  | c :: cs, s, e, r, h => by
    unfold polyL at h
    by_cases hc : c = 0
    · rw [if_pos hc] at h
      obtain ⟨m, cs', h1, h2, h3, h4⟩ := polyL_cons cs (s + 1) h
      exact ⟨m + 1, cs', by rw [hc, List.replicate_succ, List.cons_append, ← h1], by rw [h2]; congr 1; (first | lia | omega), h3, by rw [h4]; congr 1; (first | lia | omega)⟩
    · rw [if_neg hc] at h
      injection h with h1 h2
      subst h1 h2
      exact ⟨0, cs, rfl, rfl, hc, rfl⟩
theorem polyL_nil {n a : Nat} : ∀ (cs : List Rat) (s : Nat), polyL n a s cs = [] → cs = List.replicate cs.length 0
  | [], s, _ => rfl
  | c :: cs, s, h => by
    unfold polyL at h
    by_cases hc : c = 0
    · rw [if_pos hc] at h
      rw [List.length_cons, List.replicate_succ, ← polyL_nil cs (s + 1) h, hc]
    · rw [if_neg hc] at h; cases h
section
variable {G : Gh} {k : Nat} {sc : Scope} {ρ : Rho} {H : MH} {Q : V → MH → Prop}
theorem by_body (P : Pr G) {n a i r p m ep epi : Nat} {es : PL} {c : Rat} {ws : List V} {ρ : Rho} {Q' : Fl → Rho → MH → Prop} (hna : NA n a) (l1 : look ρ "a" = some (.loc i)) (l2 : look ρ "rows" = some (.loc r)) (l3 : look ρ "at" = some (.int (a : Int))) (l4 : look ρ "powers" = some (kV (key n a (p : Int))))
    (hi : H[i]? = some (.dict (pE es) epi)) (hg : dget (pE es) (key n a (p : Int)) = some (ratV c)) (hr : H[r]? = some (.list ws)) (hw : ws[p]? = some (.loc m)) (hm : H[m]? = some (.dict (pE []) ep))
    (h : ∀ ep', Q' .next ρ (H.set m (.dict (pE [(zr n, c)]) ep'))) : TS G k (sI 35) (kid (nth (bI 35) 1)) ρ H Q' := by
  refine TS_cons ?_
  refine TX_SetItem ?_
  repeat tm_at "e"
  refine PI_dict hi hg ?_
  repeat tm_at "e"
  refine PI_key (key_at hna (p : Int)) (by rw [key_len]; rcases hna with ⟨rfl, _⟩ | ⟨rfl, _⟩ | ⟨rfl, _⟩ <;> decide) ?_
  refine PI_list hr (by (first | lia | omega)) (by simpa using hw) ?_
  have fin : ∀ u, u = kV (zr n) → PSet G k (.loc m) u (ratV c) H fun H₄ => TS G k (sI 35) [] ρ H₄ Q' := fun u hu => by
    subst hu
    refine PS_dict hm (by simp [pE, lim]) fun ep' => ?_
    repeat tm_at "e"
    exact h ep'
  rcases hna with ⟨rfl, rfl⟩ | ⟨rfl, rfl⟩ | ⟨rfl, rfl⟩
  · repeat tm_at "e"
    refine ⟨_, rfl, PSl_tup (a := 0) (b := 0) (m := 0) (by with_unfolding_all rfl) (by decide +kernel) (by with_unfolding_all rfl) (by decide) ?_⟩
    repeat tm_at "e"
    refine ⟨lim_ok rfl, PB_tadd (Nat.le_of_ble_eq_true (by with_unfolding_all rfl)) ?_⟩
    repeat tm_at "e"
    refine ⟨_, rfl, PSl_tup (a := 1) (b := 1) (m := 0) (by with_unfolding_all rfl) (by decide +kernel) (by with_unfolding_all rfl) (by decide) ?_⟩
    refine PB_tadd (Nat.le_of_ble_eq_true (by with_unfolding_all rfl)) ?_
    exact fin _ rfl
  · repeat tm_at "e"
    refine ⟨_, rfl, PSl_tup (a := 0) (b := 0) (m := 0) (by with_unfolding_all rfl) (by decide +kernel) (by with_unfolding_all rfl) (by decide) ?_⟩
    repeat tm_at "e"
    refine ⟨lim_ok rfl, PB_tadd (Nat.le_of_ble_eq_true (by with_unfolding_all rfl)) ?_⟩
    repeat tm_at "e"
    refine ⟨_, rfl, PSl_tup (a := 1) (b := 2) (m := 1) (by with_unfolding_all rfl) (by decide +kernel) (by with_unfolding_all rfl) (by decide) ?_⟩
    refine PB_tadd (Nat.le_of_ble_eq_true (by with_unfolding_all rfl)) ?_
    exact fin _ rfl
  · repeat tm_at "e"
    refine ⟨_, rfl, PSl_tup (a := 0) (b := 1) (m := 1) (by with_unfolding_all rfl) (by decide +kernel) (by with_unfolding_all rfl) (by decide) ?_⟩
    repeat tm_at "e"
    refine ⟨lim_ok rfl, PB_tadd (Nat.le_of_ble_eq_true (by with_unfolding_all rfl)) ?_⟩
    repeat tm_at "e"
    refine ⟨_, rfl, PSl_tup (a := 2) (b := 2) (m := 0) (by with_unfolding_all rfl) (by decide +kernel) (by with_unfolding_all rfl) (by decide) ?_⟩
    refine PB_tadd (Nat.le_of_ble_eq_true (by with_unfolding_all rfl)) ?_
    exact fin _ rfl
end
end
section
noncomputable def polyOf (n a : Nat) (cs : List Rat) : PL := polyL n a 0 cs
theorem polyL_has {n a : Nat} : ∀ (cs : List Rat) (s t : Nat) {c : Rat}, cs[t]? = some c → c ≠ 0 → (key n a ((s + t : Nat) : Int), c) ∈ polyL n a s cs
  | [], s, t, c, h, _ => by simp at h
  | d :: cs, s, 0, c, h, hc => by
    simp at h; subst h
    unfold polyL
    rw [if_neg hc]
    exact List.mem_cons_self
  | d :: cs, s, t + 1, c, h, hc => by
    simp at h
    have := polyL_has (n := n) (a := a) cs (s + 1) t h hc
    rw [show s + 1 + t = s + (t + 1) by (first | lia | omega)] at this
    unfold polyL
    split
    · exact this
    · exact List.mem_cons_of_mem _ this
theorem poly_max {n a : Nat} (hna : NA n a) {cs : List Rat} (ht : Trim cs) (h0 : cs ≠ []) : MaxAt (polyOf n a cs) a ((cs.length : Int) - 1) := by
  obtain ⟨d, l, rfl, hl⟩ := ht.resolve_left h0
  refine ⟨⟨_, polyL_has (d ++ [l]) 0 d.length (by (first | exact get_new | simp)) hl, ?_⟩, fun e he x hx => ?_⟩
  · rw [key_at hna]; simp
  · obtain ⟨t, _, h2, h3, _, _⟩ := polyL_mem _ _ he
    rw [h3, key_at hna] at hx
    have := Option.some.inj hx
    simp at h2 ⊢
    (first | lia | omega)
theorem poly_ne {n a : Nat} {cs : List Rat} (ht : Trim cs) (h0 : cs ≠ []) : polyOf n a cs ≠ [] := by
  obtain ⟨d, l, rfl, hl⟩ := ht.resolve_left h0
  have := polyL_has (n := n) (a := a) (d ++ [l]) 0 d.length (by (first | exact get_new | simp)) hl
  intro q
  unfold polyOf at q
  rw [q] at this; cases this
theorem poly_klen {n a : Nat} {cs : List Rat} : ∀ e ∈ polyOf n a cs, e.1.length = n := fun e he => by
  obtain ⟨t, _, _, h3, _, _⟩ := polyL_mem _ _ he
  rw [h3, key_len]
section
variable {G : Gh} {k : Nat} {sc : Scope} {ρ : Rho} {H : MH} {Q : V → MH → Prop}
theorem range_ok {N : Nat} (h : N ≤ 100) : Builtin.Range.small 0 (N : Int) 1 = true ∧ Builtin.Range.rangeSize 0 (N : Int) 1 = (N : Int) := by
  refine ⟨small_one (by decide) (by decide) (by (first | lia | omega)) (by (first | lia | omega)), ?_⟩
  rw [rangeSize_one]; split <;> (first | lia | omega)
theorem by_letter_ct (P : Pr G) {n a i : Nat} {cs : List Rat} (hna : NA n a) (hi : DictAt H i (pE (polyOf n a cs))) (ht : Trim cs) (h0 : cs ≠ []) (hl : cs.length ≤ 50) (h : ∀ r H', RFresh n H H' r cs → Q (.loc r) H') : CT G (k + 2) "by_letter" [.loc i, .int (a : Int)] H Q := by
  refine CT_enter2 P.ok P.by_letter (x := "a") (y := "at") (by decide +kernel) (fun _ _ _ _ _ => rfl) ?_
  have hn2 : n ≤ 2 ∧ a < n := by rcases hna with ⟨rfl, rfl⟩ | ⟨rfl, rfl⟩ | ⟨rfl, rfl⟩ <;> decide
  have hlen := polyL_len (n := n) (a := a) cs 0
  have hcl : 0 < cs.length := List.length_pos_iff.mpr h0
  refine TS_cons ?_
  refine TX_AssignLC (by decide +kernel) (by decide +kernel) (by decide +kernel) (TI_range P.ok (by decide +kernel) (by tm_at "nb") ?_)
  repeat tm_at "e"
  refine degree_ct P hi (by simp only [lim]; unfold polyOf; (first | lia | omega)) (fun e he => by rw [poly_klen e he]; (first | lia | omega)) (poly_max hna ht h0) fun H₁ h₁ => ?_
  repeat tm_at "e"
  obtain ⟨r1, r2⟩ := range_ok (N := cs.length) (by (first | lia | omega))
  have eN : (cs.length : Int) - 1 + 1 = (cs.length : Int) := by (first | lia | omega)
  rw [eN]
  refine ⟨0, _, 1, cs.length, .inl ⟨rfl, rfl, rfl⟩, r1, r2, ⟨_, _, rfl⟩, ?_⟩
  clear r1 r2 eN
  refine loopC_indJ emL_mono (fun vs ρ acc H' => ∃ m s, m + s = cs.length ∧ vs.length = s ∧ acc = .list ((List.range m).map fun t => V.loc (H₁.length + t)) ∧ H' = H₁ ++ List.replicate m (O.dict [] 0)) ?_ ?_ _ _ _ _ ⟨0, cs.length, by (first | lia | omega), by simp [Src.items], rfl, by (first | exact get_new | simp)⟩
  case refine_2 =>
    rintro u vs ρ acc H' ⟨m, s, hm, hv, rfl, rfl⟩
    refine ⟨trivial, _, rfl, fun J hJ => ⟨_, rfl, by simp only [List.length_map, List.length_range, lim]; (first | lia | omega), ?_⟩⟩
    repeat tm_at "e"
    refine hJ _ _ _ ⟨m + 1, s - 1, by simp at hv; (first | lia | omega), by simp at hv; (first | lia | omega), ?_, ?_⟩
    · rw [List.range_succ, List.map_append]; simp
    · rw [List.replicate_succ', List.append_assoc]
  rintro ρ acc H' ⟨m, s, hm, hv, rfl, rfl⟩
  simp only [List.length_nil] at hv
  have : m = cs.length := by (first | lia | omega)
  subst this
  clear hv hm
  refine ⟨trivial, _, rfl, ?_⟩
  have p1 := h₁.trans ((List.prefix_append H₁ (List.replicate cs.length (O.dict [] 0))).trans (List.prefix_append _ [O.list ((List.range cs.length).map fun t => V.loc (H₁.length + t))]))
  obtain ⟨epi, hi'⟩ := hi
  refine TS_cons ?_
  refine TX_For (TI_val ?_) (by decide +kernel)
  tm_at "e"
  have hi1 := pre_get p1 hi'
  simp only [hi1]
  refine ⟨⟨_, _, rfl⟩, ?_⟩
  have hH : H.length ≤ H₁.length := pre_len h₁
  refine loopS_indJ (fun vs ρ H' => ∃ (s : Nat) (rest : List Rat), s + rest.length = cs.length ∧ cs.drop s = rest ∧ vs = (polyL n a s rest).map (fun e => kV e.1) ∧ (∀ e ∈ polyL n a s rest, e ∈ polyOf n a cs) ∧ H <+: H' ∧ H'[H₁.length + cs.length]? = some (.list ((List.range cs.length).map fun t => V.loc (H₁.length + t))) ∧
      (∀ t, t < cs.length → DictAt H' (H₁.length + t) (pE (dOf (zr n) (if t < s then cs.getD t 0 else 0)))) ∧ look ρ "a" = some (.loc i) ∧ look ρ "rows" = some (.loc (H₁.length + cs.length)) ∧ look ρ "at" = some (.int (a : Int))) ?_ ?_ _ _ _
    ⟨0, cs, by (first | lia | omega), rfl, ?_, fun e x => x, p1, by (first | exact get_new | simp), ?_, by tm_at "lk", by (rw [show (H₁ ++ List.replicate cs.length (O.dict [] 0)).length = H₁.length + cs.length by simp]; tm_at "lk"), by tm_at "lk"⟩
  case refine_3 => simp [polyOf, pE, List.map_map, Src.items]
  case refine_4 =>
    intro t htl
    rw [if_neg (by (first | lia | omega)), dOf_zero]
    refine ⟨0, ?_⟩
    rw [List.getElem?_append_left (by simp; (first | lia | omega)), List.getElem?_append_right (by (first | lia | omega))]
    simp [htl, pE]
  case refine_2 =>
    rintro u vs ρ H' ⟨s, rest, hs, hr, hv, hm, hp, hL, hD, l1, l2, l3⟩
    cases hpl : polyL n a s rest with
    | nil => rw [hpl] at hv; cases hv
    | cons e r =>
      rw [hpl] at hv
      simp only [List.map_cons] at hv
      injection hv with hu hv
      subst hu hv
      obtain ⟨m, cs', h1, h2, h3, h4⟩ := polyL_cons rest s hpl
      refine ⟨pre_get hp hi', _, rfl, fun J hJ hR => ?_⟩
      have hem : e ∈ polyOf n a cs := hm e (by rw [hpl]; exact List.mem_cons_self)
      have hrl : rest.length = m + 1 + cs'.length := by rw [h1]; simp; (first | lia | omega)
      have hsm : s + m < cs.length := by (first | lia | omega)
      have hget : cs.getD (s + m) 0 = e.2 := by
        have e1 : cs[s + m]? = rest[m]? := by rw [← hr]; simp
        rw [List.getD_eq_getElem?_getD, e1, h1]; simp
      obtain ⟨epm, hDm⟩ := hD (s + m) hsm
      rw [if_neg (by (first | lia | omega)), dOf_zero] at hDm
      have hg : dget (pE (polyOf n a cs)) (key n a ((s + m : Nat) : Int)) = some (ratV e.2) := by rw [← h2]; exact pE_get (polyL_nodup hna cs 0) hem
      rw [h2]
      refine by_body P (p := s + m) (m := H₁.length + (s + m)) hna (by tm_at "lk") (by tm_at "lk") (by tm_at "lk") (by tm_at "lk") (pre_get hp hi') hg hL (by simp [hsm]) hDm fun ep' => ?_
      refine (hJ _ _ ⟨s + m + 1, cs', by (first | lia | omega), ?_, by rw [h4], fun x hx => hm x (by rw [hpl]; exact List.mem_cons_of_mem _ (by rw [h4]; exact hx)), pre_set hp (by (first | lia | omega)) _, ?_, ?_, by tm_at "lk", by tm_at "lk", by tm_at "lk"⟩).1
      · have : cs.drop (s + m + 1) = (cs.drop s).drop (m + 1) := by rw [List.drop_drop]; congr 1
        rw [this, hr, h1]
        simp [List.drop_append]
      · rw [get_set_ne (by (first | lia | omega))]; exact hL
      · intro t htl
        by_cases htm : t = s + m
        · subst htm
          rw [if_pos (by (first | lia | omega)), hget, dOf_ne h3]
          exact ⟨ep', get_set hDm⟩
        · obtain ⟨ep2, hD2⟩ := hD t htl
          refine ⟨ep2, (get_set_ne (by (first | lia | omega))).trans ?_⟩
          rw [hD2]
          by_cases hts : t < s
          · rw [if_pos hts, if_pos (by (first | lia | omega))]
          · rw [if_neg hts]
            by_cases h5 : t < s + m + 1
            · rw [if_pos h5]
              have e1 : cs.getD t 0 = 0 := by
                have e2 : cs[t]? = rest[t - s]? := by rw [← hr]; simp; congr 1; (first | lia | omega)
                rw [List.getD_eq_getElem?_getD, e2, h1, List.getElem?_append_left (by simp; (first | lia | omega))]
                simp [show t - s < m by (first | lia | omega)]
              rw [e1]
            · rw [if_neg h5]
  rintro ρ₁ H' ⟨s, rest, hs, hr, hv, hm, hp, hL, hD, l1, l2, l3⟩
  refine ⟨pre_get hp hi', ?_⟩
  have hnil : polyL n a s rest = [] := List.map_eq_nil_iff.mp hv.symm
  have hz := polyL_nil rest s hnil
  repeat tm_at "e"
  refine h _ H' ⟨hp, by (first | lia | omega), _, hL, ?_⟩
  have go : ∀ (m : Nat) (qs : List Rat) (o : Nat), qs.length = m → (∀ t, t < m → DictAt H' (o + t) (pE (dOf (zr n) (qs.getD t 0)))) → RowsL n H' ((List.range m).map fun t => V.loc (o + t)) qs := by
    intro m
    induction m with
    | zero => intro qs o hq _; rw [List.length_eq_zero_iff.mp hq]; trivial
    | succ m ih =>
      intro qs o hq hd
      cases qs with
      | nil => simp at hq
      | cons q qs =>
        rw [List.range_succ_eq_map, List.map_cons, List.map_map]
        refine ⟨⟨o + 0, rfl, by simpa using hd 0 (by (first | lia | omega))⟩, ?_⟩
        have := ih qs (o + 1) (by simpa using hq) fun t ht => by
          have := hd (t + 1) (by (first | lia | omega))
          rw [show o + 1 + t = o + (t + 1) by (first | lia | omega)]; simpa using this
        have e : ((fun t => V.loc (o + t)) ∘ Nat.succ) = fun t => V.loc (o + 1 + t) := by funext t; simp only [Function.comp]; congr 1; (first | lia | omega)
        rw [e]; exact this
  refine go cs.length cs H₁.length rfl fun t htl => ?_
  have := hD t htl
  by_cases hts : t < s
  · rwa [if_pos hts] at this
  · rw [if_neg hts] at this
    have e1 : cs.getD t 0 = 0 := by
      have e2 : cs[t]? = rest[t - s]? := by rw [← hr]; simp; congr 1; (first | lia | omega)
      rw [List.getD_eq_getElem?_getD, e2, hz, List.getElem?_replicate]
      split <;> rfl
    rw [e1]; exact this
end
end
section
theorem polyL_append {n a : Nat} : ∀ (cs ds : List Rat) (s : Nat), polyL n a s (cs ++ ds) = polyL n a s cs ++ polyL n a (s + cs.length) ds
  | [], ds, s => by simp [polyL]
  | c :: cs, ds, s => by
    have ih := polyL_append (n := n) (a := a) cs ds (s + 1)
    rw [show s + 1 + cs.length = s + (c :: cs).length by simp; (first | lia | omega)] at ih
    rw [List.cons_append, polyL, polyL, ih]
    split <;> rfl
section
variable {G : Gh} {k : Nat} {sc : Scope} {ρ : Rho} {H : MH} {Q : V → MH → Prop}
theorem from_body (P : Pr G) {n a m f p epm ep : Nat} {es : PL} {c : Rat} {ρ : Rho} {Q' : Fl → Rho → MH → Prop} (hna : NA n a) (l1 : look ρ "found" = some (.loc f)) (l2 : look ρ "row" = some (.loc m)) (l3 : look ρ "at" = some (.int (a : Int))) (l4 : look ρ "powers" = some (kV (zr n))) (l5 : look ρ "power" = some (.int (p : Int)))
    (hm : H[m]? = some (.dict (pE [(zr n, c)]) epm)) (hf : H[f]? = some (.dict (pE es) ep)) (hl : es.length < lim) (hks : ∀ e ∈ es, e.1 ≠ key n a (p : Int)) (hc : c ≠ 0)
    (h : ∀ ep', Q' .next ρ (H.set f (.dict (pE (es ++ [(key n a (p : Int), c)])) ep'))) : TS G (k + 1) (sI 36) (kid (nth (kid (nth (bI 36) 1)) 0)) ρ H Q' := by
  have fin : ∀ u, u = kV (key n a (p : Int)) → TEs G (k + 1) (sI 36) (match (nth (kid (nth (kid (nth (bI 36) 1)) 0)) 0) with | .Expr (.Call _ (_ :: _ :: r) _ _) _ => r | _ => []) ρ H fun us H₂ => CT G (k + 1) "add_term" (V.loc f :: u :: us) H₂ fun _ H' => TS G (k + 1) (sI 36) [] ρ H' Q' := fun u hu => by
    subst hu
    refine TEs_cons ?_ (by with_unfolding_all (intro _; rfl))
    repeat tm_at "e"
    refine PI_dict hm (pE_get_one _ _) ?_
    repeat tm_at "e"
    refine add_new_ct P hf hl hks hc fun u ep' => ?_
    repeat tm_at "e"
    exact h ep'
  refine TS_cons ?_
  refine TX_Expr ?_ rfl
  rcases hna with ⟨rfl, rfl⟩ | ⟨rfl, rfl⟩ | ⟨rfl, rfl⟩
  · repeat tm_at "e"
    refine ⟨_, rfl, PSl_tup (a := 0) (b := 0) (m := 0) (by with_unfolding_all rfl) (by decide +kernel) (by with_unfolding_all rfl) (by decide) ?_⟩
    repeat tm_at "e"
    refine PI_key (a := 0) (x := 0) rfl (by decide) ?_
    repeat tm_at "e"
    refine ⟨lim_ok rfl, PB_tadd (Nat.le_of_ble_eq_true (by with_unfolding_all rfl)) ?_⟩
    repeat tm_at "e"
    refine ⟨_, rfl, PSl_tup (a := 1) (b := 1) (m := 0) (by with_unfolding_all rfl) (by decide +kernel) (by with_unfolding_all rfl) (by decide) ?_⟩
    refine PB_tadd (Nat.le_of_ble_eq_true (by with_unfolding_all rfl)) ?_
    exact fin _ (by simp [tupPick, key, zr])
  · repeat tm_at "e"
    refine ⟨_, rfl, PSl_tup (a := 0) (b := 0) (m := 0) (by with_unfolding_all rfl) (by decide +kernel) (by with_unfolding_all rfl) (by decide) ?_⟩
    repeat tm_at "e"
    refine PI_key (a := 0) (x := 0) rfl (by decide) ?_
    repeat tm_at "e"
    refine ⟨lim_ok rfl, PB_tadd (Nat.le_of_ble_eq_true (by with_unfolding_all rfl)) ?_⟩
    repeat tm_at "e"
    refine ⟨_, rfl, PSl_tup (a := 1) (b := 2) (m := 1) (by with_unfolding_all rfl) (by decide +kernel) (by with_unfolding_all rfl) (by decide) ?_⟩
    refine PB_tadd (Nat.le_of_ble_eq_true (by with_unfolding_all rfl)) ?_
    exact fin _ (by simp [tupPick, key, zr, List.replicate])
  · repeat tm_at "e"
    refine ⟨_, rfl, PSl_tup (a := 0) (b := 1) (m := 1) (by with_unfolding_all rfl) (by decide +kernel) (by with_unfolding_all rfl) (by decide) ?_⟩
    repeat tm_at "e"
    refine PI_key (a := 1) (x := 0) rfl (by decide) ?_
    repeat tm_at "e"
    refine ⟨lim_ok rfl, PB_tadd (Nat.le_of_ble_eq_true (by with_unfolding_all rfl)) ?_⟩
    repeat tm_at "e"
    refine ⟨_, rfl, PSl_tup (a := 2) (b := 2) (m := 0) (by with_unfolding_all rfl) (by decide +kernel) (by with_unfolding_all rfl) (by decide) ?_⟩
    refine PB_tadd (Nat.le_of_ble_eq_true (by with_unfolding_all rfl)) ?_
    exact fin _ (by simp [tupPick, key, zr, List.replicate])
theorem from_letter_ct (P : Pr G) {n a i : Nat} {cs : List Rat} (hna : NA n a) (hi : RowsAt n H i cs) (hl : cs.length ≤ 50) (h : ∀ r H', Fresh H H' r (pE (polyOf n a cs)) → Q (.loc r) H') : CT G (k + 2) "from_letter" [.loc i, .int (a : Int)] H Q := by
  refine CT_enter2 P.ok P.from_letter (x := "rows") (y := "at") (by decide +kernel) (fun _ _ _ _ _ => rfl) ?_
  obtain ⟨us, hi, hr⟩ := hi
  refine TS_cons ?_
  repeat tm_at "e"
  refine TX_For (TI_enum P.ok (by decide +kernel) (by tm_at "nb") ?_) (by decide +kernel)
  repeat tm_at "e"
  have p1 := List.prefix_append H [O.dict [] 0]
  have hi1 := pre_get p1 hi
  simp only [hi1]
  refine ⟨⟨_, _, _, rfl⟩, ?_⟩
  refine loopS_indJ (fun vs ρ H' => ∃ (ds rs : List Rat) (ws : List V), cs = ds ++ rs ∧ vs = enumV ds.length ws ∧ RowsL n H ws rs ∧ H <+: H' ∧ (∃ ep, H'[H.length]? = some (.dict (pE (polyOf n a ds)) ep)) ∧ look ρ "found" = some (.loc H.length) ∧ look ρ "at" = some (.int (a : Int))) ?_ ?_ _ _ _
    ⟨[], cs, us, rfl, rfl, hr, p1, ⟨0, by simp [polyOf, polyL, pE]⟩, by tm_at "lk", by tm_at "lk"⟩
  · rintro ρ H' ⟨ds, rs, ws, e1, e2, g1, g2, ⟨ep, g3⟩, l1, l2⟩
    have : ws = [] := by
      cases ws with
      | nil => rfl
      | cons _ _ => cases e2
    subst this
    have : rs = [] := by
      cases rs with
      | nil => rfl
      | cons _ _ => exact g1.elim
    subst this
    rw [List.append_nil] at e1; subst e1
    refine ⟨pre_get g2 hi, ?_⟩
    repeat tm_at "e"
    exact h _ _ ⟨g2, Nat.le_refl _, ep, g3⟩
  · rintro u vs ρ H' ⟨ds, rs, ws, e1, e2, g1, g2, ⟨ep, g3⟩, l1, l2⟩
    cases ws with
    | nil => cases e2
    | cons w ws =>
      cases rs with
      | nil => exact g1.elim
      | cons q rs =>
        simp only [enumV] at e2
        injection e2 with e2 e3
        subst e2 e3
        obtain ⟨⟨m, rfl, ⟨epm, hd0⟩⟩, g1⟩ := g1
        have hd := pre_get g2 hd0
        have hmH : m ≠ H.length := Nat.ne_of_lt (List.getElem?_eq_some_iff.mp hd0).1
        refine ⟨pre_get g2 hi, _, rfl, fun J hJ hR => ?_⟩
        refine TS_cons ?_
        refine TX_For (TI_val ?_) (by decide +kernel)
        tm_at "e"
        simp only [hd]
        refine ⟨⟨_, _, rfl⟩, ?_⟩
        have hdl : ds.length ≤ 50 := by have := congrArg List.length e1; simp at this; (first | lia | omega)
        have hpl := polyL_len (n := n) (a := a) ds 0
        have hpa : polyOf n a (ds ++ [q]) = polyOf n a ds ++ (if q = 0 then [] else [(key n a (ds.length : Int), q)]) := by
          unfold polyOf
          rw [polyL_append, Nat.zero_add]
          simp [polyL]
        by_cases hq : q = 0
        · subst hq
          rw [dOf_zero] at hd ⊢
          refine ⟨hd, ?_⟩
          repeat tm_at "e"
          rw [if_pos rfl, List.append_nil] at hpa
          exact (hJ _ _ ⟨ds ++ [0], rs, ws, by simp [e1], by (first | exact get_new | simp), g1, g2, ⟨ep, by rw [hpa]; exact g3⟩, by tm_at "lk", by tm_at "lk"⟩).1
        · rw [dOf_ne hq] at hd ⊢
          rw [if_neg hq] at hpa
          refine ⟨hd, _, rfl, ?_⟩
          refine from_body P (f := H.length) (m := m) hna (by tm_at "lk") (by tm_at "lk") (by tm_at "lk") (by tm_at "lk") (by tm_at "lk") hd g3 (by unfold polyOf; simp only [lim]; (first | lia | omega)) (fun e he hc => ?_) hq fun ep' => ?_
          · obtain ⟨t, _, h2, h3, _, _⟩ := polyL_mem _ _ he
            rw [h3] at hc
            have := key_inj hna hc
            (first | lia | omega)
          · refine ⟨(get_set_ne hmH).trans hd, ?_⟩
            repeat tm_at "e"
            exact (hJ _ _ ⟨ds ++ [q], rs, ws, by simp [e1], by (first | exact get_new | simp), g1, pre_set g2 (Nat.le_refl _) _, ⟨ep', by rw [hpa]; exact get_set g3⟩, by tm_at "lk", by tm_at "lk"⟩).1
end
end
section
theorem gt_key {n a : Nat} (h : NA n a) {p q : Int} (hpq : p < q) : gtL (key n a q) (key n a p) = true := by
  have hne : ¬ q = p := by (first | lia | omega)
  rcases h with ⟨rfl, rfl⟩ | ⟨rfl, rfl⟩ | ⟨rfl, rfl⟩
  · show (if q = p then gtL [] [] else decide (p < q)) = true
    rw [if_neg hne]; simpa using hpq
  · show (if q = p then gtL [0] [0] else decide (p < q)) = true
    rw [if_neg hne]; simpa using hpq
  · show (if (0 : Int) = 0 then (if q = p then gtL [] [] else decide (p < q)) else _) = true
    rw [if_pos rfl, if_neg hne]; simpa using hpq
theorem polyL_pair {n a : Nat} (h : NA n a) : ∀ (cs : List Rat) (s : Nat), (polyL n a s cs).Pairwise fun e e' => gtL e'.1 e.1 = true
  | [], s => by simp [polyL]
  | c :: cs, s => by
    unfold polyL
    split
    · exact polyL_pair h cs (s + 1)
    · rw [List.pairwise_cons]
      refine ⟨fun e he => ?_, polyL_pair h cs (s + 1)⟩
      obtain ⟨t, h1, _, h3, _, _⟩ := polyL_mem _ _ he
      rw [h3]
      exact gt_key h (by (first | lia | omega))
theorem poly_asc {n a : Nat} (h : NA n a) (cs : List Rat) : Asc (polyOf n a cs) := fun d e e' r hq => by
  have := polyL_pair h cs 0
  unfold polyOf at hq
  rw [hq] at this
  rw [List.pairwise_append] at this
  exact (List.pairwise_cons.mp this.2.1).1 e' List.mem_cons_self
theorem poly_last {n a : Nat} (d : List Rat) {l : Rat} (hl : l ≠ 0) : polyOf n a (d ++ [l]) = polyOf n a d ++ [(key n a (d.length : Int), l)] := by
  unfold polyOf
  rw [polyL_append, Nat.zero_add]
  simp [polyL, hl]
noncomputable def degs (cs : List Rat) (a : Nat) : Nat → Int := fun b => if b = a then (cs.length : Int) - 1 else 0
theorem poly_maxs {n a : Nat} (hna : NA n a) {cs : List Rat} (ht : Trim cs) (h0 : cs ≠ []) : ∀ b, b < n → MaxAt (polyOf n a cs) b (degs cs a b) := fun b hb => by
  unfold degs
  by_cases h : b = a
  · rw [if_pos h, h]; exact poly_max hna ht h0
  · rw [if_neg h]
    have kz : ∀ p : Int, (key n a p)[b]? = some 0 := fun p => by simp [key, zr, List.getElem?_set, Ne.symm h, hb]
    obtain ⟨d, l, rfl, hl⟩ := ht.resolve_left h0
    refine ⟨⟨_, polyL_has (d ++ [l]) 0 d.length (by (first | exact get_new | simp)) hl, kz _⟩, fun e he x hx => ?_⟩
    obtain ⟨t, _, _, h3, _, _⟩ := polyL_mem _ _ he
    rw [h3, kz] at hx
    have := Option.some.inj hx
    (first | lia | omega)
theorem last_pos {n a : Nat} (hna : NA n a) {cs : List Rat} (h : 1 < cs.length) : lastL n (degs cs a) = (a : Int) := by
  have h1 : (0 : Int) < (cs.length : Int) - 1 := by (first | lia | omega)
  rcases hna with ⟨rfl, rfl⟩ | ⟨rfl, rfl⟩ | ⟨rfl, rfl⟩ <;> (simp [lastL, degs]; (first | lia | omega))
theorem last_neg {n a : Nat} {cs : List Rat} (h : cs.length = 1) : lastL n (degs cs a) = -1 := by
  have h1 : ¬ (0 : Int) < (cs.length : Int) - 1 := by (first | lia | omega)
  unfold lastL degs
  have : ∀ b : Nat, ¬ (0 : Int) < (if b = a then (cs.length : Int) - 1 else 0) := fun b => by split <;> (first | lia | omega)
  simp only [this, if_false]
  split <;> rfl
theorem key_zero {n a : Nat} (hna : NA n a) : key n a 0 = zr n := by rcases hna with ⟨rfl, rfl⟩ | ⟨rfl, rfl⟩ | ⟨rfl, rfl⟩ <;> rfl
section
variable {G : Gh} {k : Nat} {sc : Scope} {ρ : Rho} {H : MH} {Q : V → MH → Prop}
theorem na_n {n a : Nat} (h : NA n a) : n = 1 ∨ n = 2 := by rcases h with ⟨rfl, _⟩ | ⟨rfl, _⟩ | ⟨rfl, _⟩ <;> simp
theorem mvgcd_poly (P : Pr G) {n a ia ib : Nat} {A B : List Rat} (hna : NA n a) (hia : DictAt H ia (pE (polyOf n a A))) (hib : DictAt H ib (pE (polyOf n a B))) (hA : Trim A) (hB : Trim B) (hA0 : A ≠ []) (hB0 : B ≠ []) (hlA : A.length ≤ 4) (hlB : B.length ≤ 4) (hbA : BdL 5 A) (hbB : BdL 5 B)
    (h : ∀ r H' d, Fresh H H' r (pE (polyOf n a (d ++ [1]))) → Idl (cf A) (cf B) (cf (d ++ [1])) → Idl (cf (d ++ [1])) (cf (d ++ [1])) (cf A) → Idl (cf (d ++ [1])) (cf (d ++ [1])) (cf B) → Q (.loc r) H') :
    CT G (k + 13) "mvgcd" [.loc ia, .loc ib, .int (n : Int)] H Q := by
  have hn := na_n hna
  have hlpa := polyL_len (n := n) (a := a) A 0
  have hlpb := polyL_len (n := n) (a := a) B 0
  have one : ∀ (X : List Rat), X.length = 1 → Trim X → X ≠ [] → ∃ c, c ≠ 0 ∧ cf ([] ++ [1]) = fun i => c * cf X i := fun X h1 h2 h3 => by
    obtain ⟨d, l, rfl, hl⟩ := h2.resolve_left h3
    have hd : d = [] := by simp at h1; exact h1
    subst hd
    refine ⟨l⁻¹, inv_ne hl, ?_⟩
    rw [← cf_scale]; simp [Rat.mul_inv_cancel l hl]
  have small : (A.length = 1 ∨ B.length = 1) → CT G (k + 13) "mvgcd" [.loc ia, .loc ib, .int (n : Int)] H Q := fun hs => by
    refine mvgcd_min P (k := k + 10) (D := degs A a) (D' := degs B a) hn hia hib (poly_ne hA hA0) (poly_ne hB hB0) (by unfold polyOf; simp only [lim]; (first | lia | omega)) (by unfold polyOf; simp only [lim]; (first | lia | omega)) poly_klen poly_klen (poly_maxs hna hA hA0) (poly_maxs hna hB hB0) ?_ fun r H' F => ?_
    · rcases hs with hs | hs
      · rw [last_neg hs]; (first | lia | omega)
      · rw [last_neg (cs := B) hs]; (first | lia | omega)
    · have e : polyOf n a ([] ++ [1]) = dOf (zr n) 1 := by
        rw [poly_last [] (by decide), dOf_ne (by decide)]
        show [] ++ [(key n a 0, (1 : Rat))] = _
        rw [key_zero hna]; rfl
      refine h r H' [] (e ▸ F) ?_ (one_all _) (one_all _)
      rcases hs with hs | hs
      · obtain ⟨c, _, e⟩ := one A hs hA hA0
        rw [e]; exact .smul c .l
      · obtain ⟨c, _, e⟩ := one B hs hB hB0
        rw [e]; exact .smul c .r
  by_cases hA1 : A.length = 1
  · exact small (.inl hA1)
  by_cases hB1 : B.length = 1
  · exact small (.inr hB1)
  have hA2 : 1 < A.length := by have := List.length_pos_iff.mpr hA0; (first | lia | omega)
  have hB2 : 1 < B.length := by have := List.length_pos_iff.mpr hB0; (first | lia | omega)
  clear small one
  refine CT_enter3 P.ok P.mvgcd (x := "a") (y := "b") (z := "n") (by decide +kernel) (fun _ _ _ _ _ _ => rfl) ?_
  have hi' := hia
  have hj' := hib
  obtain ⟨ep, hi'⟩ := hi'
  obtain ⟨ep', hj'⟩ := hj'
  have z1 : ¬ (((pE (polyOf n a A)).length : Int) = 0) := by simp [pE]; exact poly_ne hA hA0
  have z2 : ¬ (((pE (polyOf n a B)).length : Int) = 0) := by simp [pE]; exact poly_ne hB hB0
  have lastA : ∀ (H₀ : MH) (k : Nat) (Q : V → MH → Prop), H <+: H₀ → (∀ H₁, H₀ <+: H₁ → Q (.int (a : Int)) H₁) → CT G (k + 2) "last_letter" [.loc ia, .int (n : Int)] H₀ Q := fun H₀ k Q p hq =>
    last_ct P (hia.mono p) hn (by unfold polyOf; simp only [lim]; (first | lia | omega)) poly_klen (poly_maxs hna hA hA0) fun H₁ h₁ => by rw [last_pos hna hA2]; exact hq H₁ h₁
  have lastB : ∀ (H₀ : MH) (k : Nat) (Q : V → MH → Prop), H <+: H₀ → (∀ H₁, H₀ <+: H₁ → Q (.int (a : Int)) H₁) → CT G (k + 2) "last_letter" [.loc ib, .int (n : Int)] H₀ Q := fun H₀ k Q p hq =>
    last_ct P (hib.mono p) hn (by unfold polyOf; simp only [lim]; (first | lia | omega)) poly_klen (poly_maxs hna hB hB0) fun H₁ h₁ => by rw [last_pos hna hB2]; exact hq H₁ h₁
  have han : a < n := by rcases hna with ⟨rfl, rfl⟩ | ⟨rfl, rfl⟩ | ⟨rfl, rfl⟩ <;> decide
  refine TS_cons ?_
  repeat tm_at "e"
  refine CB_lenD hi' ?_
  repeat tm_at "e"
  first | refine if_F z1 ?_ | rw [decide_eq_false z1, if_neg Bool.false_ne_true]
  repeat tm_at "e"
  refine CB_lenD hj' ?_
  repeat tm_at "e"
  first | refine if_F z2 ?_ | rw [decide_eq_false z2, if_neg Bool.false_ne_true]
  repeat tm_at "e"
  rw [if_neg Bool.false_ne_true]
  repeat tm_at "e"
  refine lastA H _ _ (List.prefix_refl _) fun H₁ h₁ => ?_
  repeat tm_at "e"
  refine lastB H₁ _ _ h₁ fun H₂ h₂ => ?_
  have p2 := h₁.trans h₂
  repeat tm_at "e"
  have zm : ¬ (min (a : Int) (a : Int) < 0) := by (first | lia | omega)
  first | refine if_F zm ?_ | rw [decide_eq_false zm, if_neg Bool.false_ne_true]
  repeat tm_at "e"
  refine lastA H₂ _ _ p2 fun H₃ h₃ => ?_
  repeat tm_at "e"
  refine lastB H₃ _ _ (p2.trans h₃) fun H₄ h₄ => ?_
  have p4 := (p2.trans h₃).trans h₄
  repeat tm_at "e"
  have em : max (a : Int) (a : Int) = (a : Int) := by (first | lia | omega)
  rw [em]
  repeat tm_at "e"
  refine degree_ct P (hia.mono p4) (by unfold polyOf; simp only [lim]; (first | lia | omega)) (fun e he => by rw [poly_klen e he]; (first | lia | omega)) (poly_max hna hA hA0) fun H₅ h₅ => ?_
  repeat tm_at "e"
  have zA : ¬ ((A.length : Int) - 1 = 0) := by (first | lia | omega)
  first | refine if_F zA ?_ | rw [decide_eq_false zA, if_neg Bool.false_ne_true]
  repeat tm_at "e"
  refine degree_ct P (hib.mono (p4.trans h₅)) (by unfold polyOf; simp only [lim]; (first | lia | omega)) (fun e he => by rw [poly_klen e he]; (first | lia | omega)) (poly_max hna hB hB0) fun H₆ h₆ => ?_
  have p6 := (p4.trans h₅).trans h₆
  repeat tm_at "e"
  have zB : ¬ ((B.length : Int) - 1 = 0) := by (first | lia | omega)
  first | refine if_F zB ?_ | rw [decide_eq_false zB, if_neg Bool.false_ne_true]
  repeat tm_at "e"
  refine TX_AssignSw (names := ["rows", "others"]) (by decide +kernel) ?_
  repeat tm_at "e"
  refine by_letter_ct P (k := k + 10) hna (hia.mono p6) hA hA0 (by (first | lia | omega)) fun r1 H₇ F7 => ?_
  repeat tm_at "e"
  have p7 := p6.trans F7.1
  refine by_letter_ct P (k := k + 10) hna (hib.mono p7) hB hB0 (by (first | lia | omega)) fun r2 H₈ F8 => ?_
  repeat tm_at "e"
  have p8 := p7.trans F8.1
  refine ⟨lim_ok rfl, _, rfl, rfl, ?_⟩
  simp only [List.reverse_cons, List.reverse_nil, List.nil_append, List.cons_append, bindN]
  have R1 := F7.2.2.mono F8.1
  have R2 := F8.2.2
  have nzA : ∃ q ∈ A, q ≠ 0 := by obtain ⟨d, l, rfl, hl⟩ := hA.resolve_left hA0; exact ⟨l, by (first | exact get_new | simp), hl⟩
  have nzB : ∃ q ∈ B, q ≠ 0 := by obtain ⟨d, l, rfl, hl⟩ := hB.resolve_left hB0; exact ⟨l, by (first | exact get_new | simp), hl⟩
  refine TS_cons ?_
  first
    | refine TX_AssignSw (names := ["one", "other"]) (by decide +kernel) ?_
    | refine TX_AssignT (names := ["one", "other"]) rfl (by decide +kernel) ?_
  repeat tm_at "e"
  refine content_ct P (k := k + 5) hn R1 hbA (by decide) nzA fun c1 H₉ F9 => ?_
  repeat tm_at "e"
  refine content_ct P (k := k + 5) hn (R2.mono F9.1) hbB (by decide) nzB fun c2 H₁₀ F10 => ?_
  repeat tm_at "e"
  refine ⟨lim_ok rfl, _, rfl, rfl, ?_⟩
  simp only [List.reverse_cons, List.reverse_nil, List.nil_append, List.cons_append, bindN]
  have p10 := p8.trans (F9.1.trans F10.1)
  have D1 := F9.at.mono F10.1
  have D2 := F10.at
  have R1' := R1.mono (F9.1.trans F10.1)
  have R2' := R2.mono (F9.1.trans F10.1)
  clear R1 R2
  obtain ⟨u1, hu1, hr1⟩ := R1'
  obtain ⟨u2, hu2, hr2⟩ := R2'
  refine TS_cons ?_
  refine TX_Assign ?_ (by decide +kernel)
  tm_at "e"
  tm_at "e"
  refine TE_ListComp (by decide +kernel) (by decide +kernel) (TI_val ?_)
  tm_at "e"
  simp only [hu1]
  refine ⟨⟨_, _, rfl⟩, ?_⟩
  refine loopC_indJ emL_mono (fun vs ρ acc H' => ∃ (ds rs : List Rat) (ws : List V), A = ds ++ rs ∧ RowsL n H' vs rs ∧ acc = .list ws ∧ RowsL n H' ws ds ∧ H₁₀ <+: H' ∧ look ρ "one" = some (.loc c1)) ?_ ?_ _ _ _ _ ⟨[], A, [], rfl, hr1, rfl, trivial, List.prefix_refl _, by tm_at "lk"⟩
  case refine_2 =>
    rintro u vs ρ acc H' ⟨ds, rs, ws, e1, g1, rfl, g2, g3, l1⟩
    cases rs with
    | nil => exact g1.elim
    | cons q rs =>
      obtain ⟨⟨m, rfl, hd⟩, g1⟩ := g1
      have hq : q ∈ A := by rw [e1]; simp
      refine ⟨pre_get g3 hu1, _, rfl, fun J hJ => ⟨ws, rfl, ?_, ?_⟩⟩
      · rw [g2.len]; have := congrArg List.length e1; simp at this; simp only [lim]; (first | lia | omega)
      repeat tm_at "e"
      refine mvexact_ct P (k := k + 3) hn hd (D1.mono g3) (hbA q hq) (by decide) fun r H₂ F₂ => ?_
      exact hJ _ _ _ ⟨ds ++ [q], rs, _, by simp [e1], g1.mono F₂.1, rfl, (g2.mono F₂.1).snoc rfl F₂.at, g3.trans F₂.1, by tm_at "lk"⟩
  rintro ρ acc H₁₁ ⟨ds, rs, w1, e1, g1, rfl, g2, g3, l1⟩
  have : rs = [] := by
    cases rs with
    | nil => rfl
    | cons _ _ => exact g1.elim
  subst this
  rw [List.append_nil] at e1; subst e1
  refine ⟨pre_get g3 hu1, _, rfl, ?_⟩
  clear l1 g1 ρ
  have q1 := List.prefix_append H₁₁ [O.list w1]
  have A1 : RowsAt n (H₁₁ ++ [O.list w1]) H₁₁.length A := ⟨w1, by (first | exact get_new | simp), g2.mono q1⟩
  generalize H₁₁ ++ [O.list w1] = X at q1 A1 ⊢
  have g3' := g3.trans q1
  have hu2' := pre_get g3' hu2
  tm_at "e"
  refine TE_ListComp (by decide +kernel) (by decide +kernel) (TI_val ?_)
  tm_at "e"
  simp only [hu2']
  refine ⟨⟨_, _, rfl⟩, ?_⟩
  refine loopC_indJ emL_mono (fun vs ρ acc H' => ∃ (ds rs : List Rat) (ws : List V), B = ds ++ rs ∧ RowsL n H' vs rs ∧ acc = .list ws ∧ RowsL n H' ws ds ∧ X <+: H' ∧ look ρ "other" = some (.loc c2)) ?_ ?_ _ _ _ _ ⟨[], B, [], rfl, hr2.mono g3', rfl, trivial, List.prefix_refl _, by tm_at "lk"⟩
  case refine_2 =>
    rintro u vs ρ acc H' ⟨ds, rs, ws, e1, g1, rfl, g2, g4, l1⟩
    cases rs with
    | nil => exact g1.elim
    | cons q rs =>
      obtain ⟨⟨m, rfl, hd⟩, g1⟩ := g1
      have hq : q ∈ B := by rw [e1]; simp
      refine ⟨pre_get g4 hu2', _, rfl, fun J hJ => ⟨ws, rfl, ?_, ?_⟩⟩
      · rw [g2.len]; have := congrArg List.length e1; simp at this; simp only [lim]; (first | lia | omega)
      repeat tm_at "e"
      refine mvexact_ct P (k := k + 3) hn hd (D2.mono (g3'.trans g4)) (hbB q hq) (by decide) fun r H₂ F₂ => ?_
      exact hJ _ _ _ ⟨ds ++ [q], rs, _, by simp [e1], g1.mono F₂.1, rfl, (g2.mono F₂.1).snoc rfl F₂.at, g4.trans F₂.1, by tm_at "lk"⟩
  rintro ρ acc H₁₂ ⟨ds, rs, w2, e1, g1, rfl, g5, g6, l1⟩
  have : rs = [] := by
    cases rs with
    | nil => rfl
    | cons _ _ => exact g1.elim
  subst this
  rw [List.append_nil] at e1; subst e1
  refine ⟨pre_get g6 hu2', _, rfl, ?_⟩
  clear l1 g1 ρ
  have q2 := List.prefix_append H₁₂ [O.list w2]
  have B1 : RowsAt n (H₁₂ ++ [O.list w2]) H₁₂.length B := ⟨w2, by (first | exact get_new | simp), g5.mono q2⟩
  generalize H₁₂ ++ [O.list w2] = Y at q2 B1 ⊢
  have g7 := g6.trans q2
  repeat tm_at "e"
  refine rgcd_ct P (k := k + 1) hn (A1.mono g7) B1 hA hB hA0 hB0 hlA hlB hbA hbB fun rg Z d FZ i1 i2 i3 bG dl => ?_
  have pZ := g3'.trans (g7.trans FZ.1)
  repeat tm_at "e"
  refine mvgcd_rows P (k := k + 6) (p := 1) (q := 1) hn (by rw [dOf_ne (by decide)]; exact D1.mono pZ) (by rw [dOf_ne (by decide)]; exact D2.mono pZ) bd_one bd_one (by decide) fun rm Z₁ Fm => ?_
  rw [if_neg (by decide)] at Fm
  repeat tm_at "e"
  refine from_letter_ct P (k := k + 10) hna (FZ.2.2.mono Fm.1) (by simp; (first | lia | omega)) fun rf Z₂ Ff => ?_
  repeat tm_at "e"
  have hpl := polyL_len (n := n) (a := a) (d ++ [1]) 0
  simp only [List.length_append, List.length_cons, List.length_nil] at hpl
  have bP : ∀ e ∈ polyOf n a (d ++ [1]), Bd 700 e.2 := fun e he => by
    obtain ⟨t, _, _, _, _, h5⟩ := polyL_mem _ _ he
    exact bG _ (List.mem_of_getElem? h5)
  have nzP : ∀ e ∈ polyOf n a (d ++ [1]), e.2 ≠ 0 := fun e he => by
    obtain ⟨t, _, _, _, h4, _⟩ := polyL_mem _ _ he
    exact h4
  have hn2 : n ≤ 2 := by (first | lia | omega)
  refine mvmul_ct P (k := k + 8) (p := 1) (Fm.at.mono Ff.1) Ff.at hn2 (polyL_nodup hna _ _) (by unfold polyOf; simp only [lim]; (first | lia | omega)) poly_klen nzP bd_one bP (by decide) (by decide) fun rp Z₃ Fp => ?_
  have hm1 : mulR 1 (polyOf n a (d ++ [1])) = polyOf n a (d ++ [1]) := by
    unfold mulR
    rw [if_neg (by decide)]
    refine (List.map_congr_left fun e _ => ?_).trans (List.map_id _)
    show (e.1, 1 * e.2) = e
    rw [Rat.one_mul]
  rw [hm1] at Fp
  repeat tm_at "e"
  refine mvmonic_ct P (k := k + 7) (n := n) Fp.at (polyL_nodup hna _ _) poly_klen (poly_asc hna _) (poly_last d (by decide)) (by unfold polyOf; simp only [lim]; (first | lia | omega)) (show (1 : Rat) ≠ 0 by decide) bP (by decide) fun rr Z₄ Fr => ?_
  have hm2 : (polyOf n a (d ++ [1])).map (fun x => (x.1, x.2 * (1 : Rat)⁻¹)) = polyOf n a (d ++ [1]) := by
    refine (List.map_congr_left fun e _ => ?_).trans (List.map_id _)
    show (e.1, e.2 * (1 : Rat)⁻¹) = e
    have : e.2 * (1 : Rat)⁻¹ = e.2 := by grind
    rw [this]
  have hm2' : (polyOf n a (d ++ [1])).map (fun x => (x.1, x.2 * (key n a (d.length : Int), (1 : Rat)).2⁻¹)) = polyOf n a (d ++ [1]) := hm2
  rw [hm2'] at Fr
  exact h rr Z₄ d (Fr.trans ((p10.trans pZ).trans ((Fm.1.trans Ff.1).trans Fp.1))) i1 i2 i3
end
end
section
-- the box of the draws
noncomputable def Bx (H : MH) (b s : Nat) (c : Int) (ns : List Int) : Prop := H[b]? = some (.list [.loc s, .int c]) ∧ H[s]? = some (.list (ns.map .int)) ∧ b ≠ s
-- all but the box stays
noncomputable def Ke (b : Nat) (H H' : MH) : Prop := H.length ≤ H'.length ∧ ∀ (n : Nat) (o : O), n ≠ b → H[n]? = some o → H'[n]? = some o
theorem Ke.refl (b : Nat) (H : MH) : Ke b H H := ⟨Nat.le_refl _, fun _ _ _ e => e⟩
theorem Ke.trans {b : Nat} {H H₁ H₂ : MH} (x : Ke b H H₁) (y : Ke b H₁ H₂) : Ke b H H₂ := ⟨Nat.le_trans x.1 y.1, fun n o h e => y.2 n o h (x.2 n o h e)⟩
theorem Ke.pre {b : Nat} {H H' : MH} (h : H <+: H') : Ke b H H' := ⟨pre_len h, fun _ _ _ e => pre_get h e⟩
theorem Bx.pre {H H' : MH} {b s : Nat} {c : Int} {ns : List Int} (x : Bx H b s c ns) (h : H <+: H') : Bx H' b s c ns := ⟨pre_get h x.1, pre_get h x.2.1, x.2.2⟩
section
variable {G : Gh} {k : Nat} {sc : Scope} {ρ : Rho} {H : MH} {Q : V → MH → Prop}
theorem take_ct (P : Pr G) {b s : Nat} {c w : Int} {ns : List Int} (hb : Bx H b s c ns) (h0 : 0 ≤ c) (h1 : c ≤ 1000) (hw : 0 < w) (h : ∀ v H', 0 ≤ v → v < w → Bx H' b s (c + 1) ns → Ke b H H' → Q (.int v) H') :
    CT G (k + 1) "_law_take" [.loc b, .int w] H Q := by
  refine CT_enter2 P.ok P.take (x := "box") (y := "wide") (by decide +kernel) (fun _ _ _ _ _ => rfl) ?_
  obtain ⟨b1, b2, b3⟩ := hb
  refine TS_cons ?_
  refine TX_SetItem ?_
  repeat tm_at "e"
  refine PI_list b1 (by decide) rfl ?_
  repeat tm_at "e"
  refine PS_list b1 (by decide) (by (first | exact get_new | simp)) ?_
  have g1 : (H.set b (.list ([V.loc s, V.int c].set (1 : Int).toNat (V.int (c + 1)))))[b]? = some (.list [.loc s, .int (c + 1)]) := get_set b1
  have g2 : (H.set b (.list ([V.loc s, V.int c].set (1 : Int).toNat (V.int (c + 1)))))[s]? = some (.list (ns.map .int)) := (get_set_ne (Ne.symm b3)).trans b2
  have g3 : Ke b H (H.set b (.list ([V.loc s, V.int c].set (1 : Int).toNat (V.int (c + 1))))) := ⟨by (first | exact get_new | simp), fun n o hn e => (get_set_ne hn).trans e⟩
  generalize H.set b (.list ([V.loc s, V.int c].set (1 : Int).toNat (V.int (c + 1)))) = X at g1 g2 g3 ⊢
  have fin : ∀ x : Int, Q (.int (x.fmod w)) X := fun x => by
    rw [Int.fmod_eq_emod_of_nonneg x (Int.le_of_lt hw)]
    exact h _ X (Int.emod_nonneg _ (by (first | lia | omega))) (Int.emod_lt_of_pos _ hw) ⟨g1, g2, b3⟩ g3
  repeat tm_at "e"
  refine PI_list g1 (by decide) rfl ?_
  repeat tm_at "e"
  refine PI_list g1 (by decide) rfl ?_
  repeat tm_at "e"
  refine CB_len g2 ?_
  repeat tm_at "e"
  by_cases hc : c + 1 ≤ ((ns.map V.int).length : Int)
  · first | refine if_T hc ?_ | rw [decide_eq_true hc, if_pos rfl]
    repeat tm_at "e"
    refine PI_list g1 (by decide) rfl ?_
    repeat tm_at "e"
    refine PI_list g1 (by decide) rfl ?_
    repeat tm_at "e"
    have hlt : (c + 1 - 1).toNat < ns.length := by simp at hc; (first | lia | omega)
    refine PI_list g2 (by (first | lia | omega)) (u := .int ns[(c + 1 - 1).toNat]) (by simp [hlt]) ?_
    repeat tm_at "e"
    refine PB_mod (by (first | lia | omega)) ?_
    exact fin _
  · first | refine if_F hc ?_ | rw [decide_eq_false hc, if_neg Bool.false_ne_true]
    repeat tm_at "e"
    refine PI_list g1 (by decide) rfl ?_
    refine PB_mul (n := 2) (m := 10) (by unfold Bi; decide) (by unfold Bi; (first | lia | omega)) (by decide) (by decide) ?_
    repeat tm_at "e"
    refine PI_list g1 (by decide) rfl ?_
    repeat tm_at "e"
    refine PB_fdiv (m := 2) (by decide) (by unfold Bi; decide) (by decide) ?_
    repeat tm_at "e"
    refine PB_mod (by (first | lia | omega)) ?_
    exact fin _
theorem row_ct (P : Pr G) {b s g : Nat} {c : Int} {ns ds : List Int} {M : Nat} (hb : Bx H b s c ns) (h0 : 0 ≤ c) (h1 : c ≤ 900) (hg : H[g]? = some (.list (ds.map .int))) (hgb : g ≠ b) (hd : ds.length = 4) (hM : ∀ d ∈ ds, 0 ≤ d ∧ d ≤ (M : Int)) (hM2 : M ≤ 2)
    (h : ∀ r H' R c' l, c' ≤ c + 4 → 0 ≤ c' → H'[r]? = some (.list ((R ++ [l]).map V.int)) → R.length ≤ M → (∀ x ∈ R, -3 ≤ x ∧ x ≤ 3) → 1 ≤ l → l ≤ 3 → Bx H' b s c' ns → Ke b H H' → H.length ≤ r → Q (.loc r) H') :
    CT G (k + 2) "_law_row" [.loc b, .loc g] H Q := by
  refine CT_enter2 P.ok P.row (x := "box") (y := "degrees") (by decide +kernel) (fun _ _ _ _ _ => rfl) ?_
  refine TS_cons ?_
  repeat tm_at "e"
  refine take_ct P hb h0 (by (first | lia | omega)) (by decide) fun v H₁ v0 v4 b1 k1 => ?_
  have hv : v.toNat < ds.length := by (first | lia | omega)
  refine PI_list (k1.2 _ _ hgb hg) v0 (u := .int ds[v.toNat]) (by simp [hv]) ?_
  obtain ⟨d0, d1⟩ := hM _ (List.getElem_mem hv)
  generalize ds[v.toNat] = m at d0 d1 ⊢
  obtain ⟨m, rfl⟩ := Int.eq_ofNat_of_zero_le d0
  repeat tm_at "e"
  refine TE_ListComp (by decide +kernel) (by decide +kernel) (TI_range P.ok (by decide +kernel) (by tm_at "nb") ?_)
  repeat tm_at "e"
  refine ⟨0, _, 1, m, .inl ⟨rfl, rfl, rfl⟩, (range_ok (by (first | lia | omega))).1, (range_ok (by (first | lia | omega))).2, ⟨_, _, rfl⟩, ?_⟩
  refine loopC_indJ emL_mono (fun vs ρ acc H' => ∃ (R : List Int) (c' : Int), R.length + vs.length = m ∧ acc = .list (R.map V.int) ∧ (∀ x ∈ R, -3 ≤ x ∧ x ≤ 3) ∧ c' = c + 1 + R.length ∧ Bx H' b s c' ns ∧ Ke b H₁ H' ∧ look ρ "box" = some (.loc b)) ?_ ?_ _ _ _ _ ⟨[], c + 1, by simp [Src.items], rfl, (fun _ hx => nomatch hx), by (first | exact get_new | simp), b1, Ke.refl _ _, by tm_at "lk"⟩
  case refine_2 =>
    rintro u vs ρ acc H' ⟨R, c', e1, rfl, e2, e3, e4, e5, l1⟩
    simp only [List.length_cons] at e1
    refine ⟨trivial, _, rfl, fun J hJ => ⟨_, rfl, by simp only [List.length_map, lim]; (first | lia | omega), ?_⟩⟩
    repeat tm_at "e"
    refine take_ct P e4 (by (first | lia | omega)) (by (first | lia | omega)) (by decide) fun v H₂ v0 v7 b2 k2 => ?_
    repeat tm_at "e"
    refine hJ _ _ _ ⟨R ++ [v - 3], c' + 1, by simp; (first | lia | omega), by (first | exact get_new | simp), fun x hx => ?_, by simp; (first | lia | omega), b2, e5.trans k2, by tm_at "lk"⟩
    rcases List.mem_append.mp hx with hx | hx
    · exact e2 x hx
    · rw [List.mem_singleton] at hx; (first | lia | omega)
  rintro ρ acc H₂ ⟨R, c', e1, rfl, e2, e3, e4, e5, l1⟩
  simp only [List.length_nil] at e1
  refine ⟨trivial, _, rfl, ?_⟩
  clear l1 ρ
  have q1 := List.prefix_append H₂ [O.list (R.map V.int)]
  have b2 := e4.pre q1
  repeat tm_at "e"
  refine take_ct P b2 (by (first | lia | omega)) (by (first | lia | omega)) (by decide) fun v H₃ v0 v3 b3 k3 => ?_
  repeat tm_at "e"
  refine ⟨lim_ok rfl, ?_⟩
  have hk2 := (k1.trans e5).trans (Ke.pre (b := b) q1)
  have hbl : b < H₂.length := (List.getElem?_eq_some_iff.mp e4.1).1
  have hR : (H₂ ++ [O.list (R.map V.int)])[H₂.length]? = some (.list (R.map V.int)) := by simp
  have hR3 := k3.2 _ _ (by (first | lia | omega)) hR
  have q3 := List.prefix_append H₃ [O.list [V.int (1 + v)]]
  refine PB_ladd (l := R.map V.int) (l' := [V.int (1 + v)]) (pre_get q3 hR3) (by (first | exact get_new | simp)) (by simp only [List.length_map, List.length_cons, List.length_nil, lim]; (first | lia | omega)) ?_
  have q4 := q3.trans (List.prefix_append _ [O.list (R.map V.int ++ [V.int (1 + v)])])
  refine h _ _ R (c' + 1) (1 + v) (by (first | lia | omega)) (by (first | lia | omega)) (by (first | exact get_new | simp)) (by (first | lia | omega)) e2 (by (first | lia | omega)) (by (first | lia | omega)) (b3.pre q4) ((hk2.trans k3).trans (Ke.pre q4)) ?_
  have h1 := hk2.1; have h2 := k3.1; have h3 := pre_len q3
  (first | lia | omega)
end
end
section
section
variable {G : Gh} {k : Nat} {sc : Scope} {ρ : Rho} {H : MH} {Q : V → MH → Prop}
theorem shared_ct (P : Pr G) {a b : Int} (h : Q (.int (Int.gcd a b)) H) : CT G (k + 1) "_law_shared" [.int a, .int b] H Q := by
  refine CT_enter2 P.ok P.shared (x := "one") (y := "other") (by decide +kernel) (fun _ _ _ _ _ => rfl) ?_
  refine TS_cons ?_
  refine TX_AssignSw (names := ["one", "other"]) (by decide +kernel) ?_
  repeat tm_at "e"
  refine ⟨lim_ok rfl, _, rfl, rfl, ?_⟩
  simp only [List.reverse_cons, List.reverse_nil, List.nil_append, List.cons_append, bindN]
  refine TS_cons ?_
  refine TX_While (fun n ρ H' => ∃ x y : Int, look ρ "one" = some (.int x) ∧ look ρ "other" = some (.int y) ∧ 0 ≤ x ∧ 0 ≤ y ∧ n = y.natAbs ∧ Int.gcd x y = Int.gcd a b ∧ H' = H) b.natAbs ⟨_, _, by tm_at "lk", by tm_at "lk", by (first | lia | omega), by (first | lia | omega), by (first | lia | omega), by simp [Int.gcd], rfl⟩ ?_
  rintro n ρ H' ⟨x, y, ha, hb, hx, hy, rfl, hg, rfl⟩
  repeat tm_at "e"
  by_cases hy0 : 0 < y
  · simp only [hy0, decide_true, if_true]
    tm_at "e"
    refine TX_AssignSw (names := ["one", "other"]) (by decide +kernel) ?_
    repeat tm_at "e"
    refine PB_mod (by (first | lia | omega)) ?_
    repeat tm_at "e"
    refine ⟨lim_ok rfl, _, rfl, rfl, ?_⟩
    simp only [List.reverse_cons, List.reverse_nil, List.nil_append, List.cons_append, bindN]
    repeat tm_at "e"
    have e := fmod_pos (x := x) hy0
    have e1 := Int.emod_nonneg x (show y ≠ 0 by (first | lia | omega))
    have e2 := Int.emod_lt_of_pos x hy0
    exact ⟨(x.fmod y).natAbs, by rw [e]; (first | lia | omega), _, _, by tm_at "lk", by tm_at "lk", hy, by rw [e]; exact e1, rfl, by rw [gcd_step hx hy0, hg], rfl⟩
  · simp only [hy0, decide_false, Bool.false_eq_true, if_false]
    repeat tm_at "e"
    have : y = 0 := by (first | lia | omega)
    subst this
    have e : x = (Int.gcd a b : Int) := by rw [← hg, Int.gcd_zero_right]; (first | lia | omega)
    rw [e]; exact h

-- l.append(x)
theorem TE_AppendL {o e : Expr} {apos pos : Pos} (h : TE G k sc o ρ H fun vo H₁ => ∃ n, vo = .loc n ∧ (∃ l, H₁[n]? = some (.list l)) ∧ TE G k sc e ρ H₁ fun u H₂ => ∃ l, H₂[n]? = some (.list l) ∧ l.length < lim ∧ Q .none (H₂.set n (.list (l ++ [u]))))
    (hbase : ∀ env, attributeBase o "append" env (eval o env) = eval o env := by intro _; rfl) (hline : (apos.endLine == pos.line) = true := by rfl)
    (hfew : ∀ env, ((backTo pos (starEach [e] env)).all (fun x => !x.1) && (backToKw pos (keywordEach [] env)).all (fun x => x.1.isSome)
      && decide (([e] : List Expr).length + ([] : List Keyword).length + (if ([] : List Keyword).isEmpty then 0 else 1) < 30)) = true := by intro _; rfl)
    (he : ∀ env, backTo pos (starEach [e] env) = [(false, eval e env)] := by intro _; rfl) :
    TE G k sc (.Call (.Attribute o "append" apos) [e] [] pos) ρ H Q := by
  intro env A E s μ hsc hA V R
  refine wpAny_Call_method (hbase env) (hfew env) hline PySem.F.plainAttrs_list PySem.F.slot_list_append PySem.F.type_list_append (wpAny_mono (h env A E s μ hsc hA V R) ?_ fun _ _ e => e)
  rintro ov s₁ ⟨vo, H₁, μ₁, X, R₁, x, n, rfl, ⟨l₀, hn₀⟩, q⟩
  rw [VR] at x; obtain ⟨a, rfl, ha⟩ := x
  obtain ⟨a₀, ha₀, vs₀, m₀, hl₀, _, _⟩ := R₁.obj n _ hn₀
  rw [ha] at ha₀; cases ha₀
  refine ⟨⟨_, hl₀, rfl⟩, fun b e => (by injection e with e; subst e; exact ⟨_, hl₀, rfl⟩), ?_⟩
  rw [he env]
  refine PySem.P.append_list (wpAny_mono (q env A E s₁ μ₁ hsc hA (V.ext X R) R₁) ?_ fun _ _ e => e)
  rintro v s₂ ⟨u, H₂, μ₂, X₂, R₂, y, l, hn, hlt, hq⟩
  have ha₂ : μ₂[n]? = some a := by
    obtain ⟨r, rfl⟩ := X₂.pre
    rw [List.getElem?_append_left (List.getElem?_eq_some_iff.mp ha).1]; exact ha
  obtain ⟨a', ha', vs, m, hl, hlen, hvs⟩ := R₂.obj n _ hn
  rw [ha₂] at ha'; cases ha'
  have hsz : vs.size = l.length := by have := hvs.length; simpa using this
  refine ⟨vs, m, by rw [hsz]; exact Nat.le_trans hlen lim_le, hl, ?_⟩
  have hs : Heap.SameBut a s₂.heap (s₂.heap.update a (Obj.mapSeq fun xs => xs.push v)) := Heap.SameBut.update ..
  have X₃ := Ext.put (tk := s₂.toks) (List.mem_of_getElem? ha₂) hs
  refine ⟨.none, _, μ₂, (X.trans X₂).trans X₃, R₂.put (o' := .list (l ++ [u])) hn ha₂ hs fun tk => ⟨_, _, hl.update _, by simp; (first | lia | omega), ?_⟩, vNone, hq⟩
  rw [Array.toList_push]
  exact VRs.append (VRs.mono tk (List.prefix_refl _) hvs) (VRs.one (VR.mono tk (List.prefix_refl _) y))

theorem lmonic_ct (P : Pr G) {i b : Nat} {xs d : List Int} {l : Int} (hi : H[i]? = some (.list (xs.map .int))) (hx : xs = d ++ [l]) (hl : l ≠ 0) (hb : Bi b l) (hb9 : b ≤ 8500) (hlen : xs.length ≤ 50)
    (h : ∀ r H', H <+: H' → H.length ≤ r → H'[r]? = some (.list (xs.map fun x => ratV (Rat.divInt x l))) → Q (.loc r) H') : CT G (k + 2) "_law_monic" [.loc i] H Q := by
  refine CT_enter1 P.ok P.lmonic (x := "row") (by decide +kernel) (fun _ _ _ _ => rfl) ?_
  have hxl : xs.length = d.length + 1 := by rw [hx]; simp
  have last : ∀ (H' : MH) (K : V → MH → Prop), H <+: H' → K (.int l) H' → PItem G (k + 1) (.loc i) (.int (-1)) H' K := fun H' K hp hk =>
    PI_list_neg (pre_get hp hi) (by decide) (by rw [List.length_map]; (first | lia | omega)) (by rw [List.length_map, show ((-1 : Int) + (xs.length : Int)).toNat = d.length by (first | lia | omega), hx]; simp) hk
  refine TS_cons ?_
  repeat tm_at "e"
  refine ⟨lim_ok rfl, ?_⟩
  repeat tm_at "e"
  refine TX_For (TI_val ?_) (by decide +kernel)
  tm_at "e"
  have p1 := List.prefix_append H [O.list []]
  have hi1 := pre_get p1 hi
  simp only [hi1]
  refine ⟨⟨_, _, rfl⟩, ?_⟩
  refine loopS_ind (fun vs ρ H' => ∃ ds rs : List Int, xs = ds ++ rs ∧ vs = rs.map V.int ∧ H <+: H' ∧ H'[H.length]? = some (.list (ds.map fun x => ratV (Rat.divInt x l))) ∧ look ρ "row" = some (.loc i) ∧ look ρ "found" = some (.loc H.length)) ?_ ?_ _ _ _
    ⟨[], xs, rfl, rfl, p1, by (first | exact get_new | simp), by tm_at "lk", by tm_at "lk"⟩
  · rintro ρ H' ⟨ds, rs, e1, e2, g1, g2, l1, l2⟩
    have : rs = [] := List.map_eq_nil_iff.mp e2.symm
    subst this
    rw [List.append_nil] at e1; subst e1
    refine ⟨pre_get g1 hi, ?_⟩
    repeat tm_at "e"
    exact h _ _ g1 (Nat.le_refl _) g2
  · rintro u vs ρ H' ⟨ds, rs, e1, e2, g1, g2, l1, l2⟩
    cases rs with
    | nil => cases e2
    | cons x rs =>
      simp only [List.map_cons] at e2
      injection e2 with e2 e3
      subst e2 e3
      refine ⟨pre_get g1 hi, _, rfl, ?_⟩
      refine TS_cons ?_
      repeat tm_at "e"
      refine last _ _ g1 ?_
      repeat tm_at "e"
      refine shared_ct P ?_
      repeat tm_at "e"
      refine last _ _ g1 ?_
      repeat tm_at "e"
      have hg : Bi b (Int.gcd x l : Int) := hb.of_le (by
        have := Int.gcd_le_natAbs_right x hl
        simpa using this)
      have hg0 : (Int.gcd x l : Int) ≠ 0 := by
        have := Int.gcd_pos_of_ne_zero_right x hl
        (first | lia | omega)
      have tail : ∀ (g : Int), Bi b g → g ≠ 0 → x.fdiv g = (Rat.divInt x l).num → l.fdiv g = ((Rat.divInt x l).den : Int) → TS G (k + 1) (sI 58) ((kid (nth (bI 58) 1)).drop 1) (upd (Str.ofString "shared") (V.int g) (upd (Str.ofString "number") (V.int x) ρ)) H' fun fl ρ₂ H₂ => match fl with
          | .next => ∃ ds rs' : List Int, xs = ds ++ rs' ∧ rs.map V.int = rs'.map V.int ∧ H <+: H₂ ∧ H₂[H.length]? = some (.list (ds.map fun x => ratV (Rat.divInt x l))) ∧ look ρ₂ "row" = some (.loc i) ∧ look ρ₂ "found" = some (.loc H.length)
          | _ => False := fun g b1 b2 b3 b4 => by
        refine TS_cons ?_
        refine TX_Expr ?_ rfl
        refine TE_AppendL ?_
        tm_at "e"
        refine ⟨_, rfl, ⟨_, g2⟩, ?_⟩
        repeat tm_at "e"
        refine PB_fdiv b2 b1 (by (first | lia | omega)) ?_
        repeat tm_at "e"
        refine last _ _ g1 ?_
        repeat tm_at "e"
        refine PB_fdiv b2 b1 (by (first | lia | omega)) ?_
        repeat tm_at "e"
        refine ⟨lim_ok rfl, _, g2, by have := congrArg List.length e1; simp at this ⊢; simp only [lim]; (first | lia | omega), ?_⟩
        rw [b3, b4]
        repeat tm_at "e"
        refine ⟨ds ++ [x], rs, by simp [e1], rfl, pre_set g1 (Nat.le_refl _) _, ?_, by tm_at "lk", by tm_at "lk"⟩
        rw [get_set g2]; simp
      have tail' := fun (g : Int) (h1 : Bi b g) (h2 : g ≠ 0) (h3 : x.fdiv g = (Rat.divInt x l).num) (h4 : l.fdiv g = ((Rat.divInt x l).den : Int)) (Q' : Fl → Rho → MH → Prop) (hq : ∀ ρ₂ H₂, (∃ ds rs' : List Int, xs = ds ++ rs' ∧ rs.map V.int = rs'.map V.int ∧ H <+: H₂ ∧ H₂[H.length]? = some (.list (ds.map fun x => ratV (Rat.divInt x l))) ∧ look ρ₂ "row" = some (.loc i) ∧ look ρ₂ "found" = some (.loc H.length)) → Q' .next ρ₂ H₂) =>
        TS.mono (Q' := Q') (tail g h1 h2 h3 h4) fun fl ρ₂ H₂ q => by cases fl with
          | next => exact hq _ _ q
          | _ => exact q.elim
      by_cases hp : 0 < l
      · first | refine if_T hp ?_ | rw [decide_eq_true hp, if_pos rfl]
        repeat tm_at "e"
        refine PB_mul (n := b) (m := 0) hg (by unfold Bi; decide) (by (first | lia | omega)) (by decide) ?_
        rw [Int.mul_one]
        exact tail' _ hg hg0 (rat_num hp) (rat_den hp) _ fun _ _ q => q
      · first | refine if_F hp ?_ | rw [decide_eq_false hp, if_neg Bool.false_ne_true]
        repeat tm_at "e"
        refine PB_mul (n := b) (m := 0) hg (by unfold Bi; decide) (by (first | lia | omega)) (by decide) ?_
        have hlt : l < 0 := by (first | lia | omega)
        have e : (Int.gcd x l : Int) * -1 = 0 - (Int.gcd x l : Int) := by (first | lia | omega)
        rw [e]
        exact tail' _ (by unfold Bi at *; (first | lia | omega)) (by (first | lia | omega)) (rat_num' hlt) (rat_den' hlt) _ fun _ _ q => q
end
end
section
section
variable {G : Gh} {k : Nat} {sc : Scope} {ρ : Rho} {H : MH} {Q : V → MH → Prop}
theorem poly_body (P : Pr G) {n a f p ep : Nat} {es : PL} {c : Rat} {ρ : Rho} {Q' : Fl → Rho → MH → Prop} (hna : NA n a) (l1 : look ρ "found" = some (.loc f)) (l2 : look ρ "ratio" = some (ratV c)) (l3 : look ρ "at" = some (.int (a : Int))) (l4 : look ρ "n" = some (.int (n : Int))) (l5 : look ρ "power" = some (.int (p : Int)))
    (hf : H[f]? = some (.dict (pE es) ep)) (hl : es.length < lim) (hks : ∀ e ∈ es, e.1 ≠ key n a (p : Int))
    (h0 : c = 0 → Q' .next ρ H) (h : c ≠ 0 → ∀ ep', Q' .next ρ (H.set f (.dict (pE (es ++ [(key n a (p : Int), c)])) ep'))) : TS G (k + 1) (sI 59) (kid (nth (bI 59) 1)) ρ H Q' := by
  refine TS_cons ?_
  repeat tm_at "e"
  by_cases hc : c = 0
  · have z : ¬ (c.num ≠ 0) := by rw [hc]; decide
    first | refine if_F z ?_ | rw [decide_eq_false z, if_neg Bool.false_ne_true]
    repeat tm_at "e"
    exact h0 hc
  · first | refine if_T (num_ne hc) ?_ | rw [decide_eq_true (num_ne hc), if_pos rfl]
    have fin : ∀ u, u = kV (key n a (p : Int)) → PSet G (k + 1) (.loc f) u (ratV c) H fun H₄ => TS G (k + 1) (sI 59) [] ρ H₄ fun fl ρ' H' => match fl with
        | .next => TS G (k + 1) (sI 59) [] ρ' H' Q'
        | fl => Q' fl ρ' H' := fun u hu => by
      subst hu
      refine PS_dict hf (by simpa [pE] using hl) fun ep' => ?_
      rw [pE_put_new hks]
      repeat tm_at "e"
      exact h hc ep'
    tm_at "e"
    refine TX_SetItem ?_
    rcases hna with ⟨rfl, rfl⟩ | ⟨rfl, rfl⟩ | ⟨rfl, rfl⟩
    · repeat tm_at "e"
      refine ⟨lim_ok rfl, ?_⟩
      repeat tm_at "e"
      refine PB_tmul (by decide) (by decide) ?_
      repeat tm_at "e"
      refine ⟨lim_ok rfl, PB_tadd (Nat.le_of_ble_eq_true (by with_unfolding_all rfl)) ?_⟩
      repeat tm_at "e"
      refine ⟨lim_ok rfl, ?_⟩
      repeat tm_at "e"
      refine PB_tmul (by decide) (by decide) ?_
      refine PB_tadd (Nat.le_of_ble_eq_true (by with_unfolding_all rfl)) ?_
      exact fin _ (by with_unfolding_all rfl)
    · repeat tm_at "e"
      refine ⟨lim_ok rfl, ?_⟩
      repeat tm_at "e"
      refine PB_tmul (by decide) (by decide) ?_
      repeat tm_at "e"
      refine ⟨lim_ok rfl, PB_tadd (Nat.le_of_ble_eq_true (by with_unfolding_all rfl)) ?_⟩
      repeat tm_at "e"
      refine ⟨lim_ok rfl, ?_⟩
      repeat tm_at "e"
      refine PB_tmul (by decide) (by decide) ?_
      refine PB_tadd (Nat.le_of_ble_eq_true (by with_unfolding_all rfl)) ?_
      exact fin _ (by with_unfolding_all rfl)
    · repeat tm_at "e"
      refine ⟨lim_ok rfl, ?_⟩
      repeat tm_at "e"
      refine PB_tmul (by decide) (by decide) ?_
      repeat tm_at "e"
      refine ⟨lim_ok rfl, PB_tadd (Nat.le_of_ble_eq_true (by with_unfolding_all rfl)) ?_⟩
      repeat tm_at "e"
      refine ⟨lim_ok rfl, ?_⟩
      repeat tm_at "e"
      refine PB_tmul (by decide) (by decide) ?_
      refine PB_tadd (Nat.le_of_ble_eq_true (by with_unfolding_all rfl)) ?_
      exact fin _ (by with_unfolding_all rfl)
theorem poly_ct (P : Pr G) {n a i : Nat} {cs : List Rat} (hna : NA n a) (hi : H[i]? = some (.list (cs.map ratV))) (hl : cs.length ≤ 50) (h : ∀ r H', Fresh H H' r (pE (polyOf n a cs)) → Q (.loc r) H') : CT G (k + 2) "_law_poly" [.loc i, .int (n : Int), .int (a : Int)] H Q := by
  refine CT_enter3 P.ok P.poly (x := "ratios") (y := "n") (z := "at") (by decide +kernel) (fun _ _ _ _ _ _ => rfl) ?_
  refine TS_cons ?_
  repeat tm_at "e"
  refine TX_For (TI_enum P.ok (by decide +kernel) (by tm_at "nb") ?_) (by decide +kernel)
  tm_at "e"
  have p1 := List.prefix_append H [O.dict [] 0]
  have hi1 := pre_get p1 hi
  simp only [hi1]
  refine ⟨⟨_, _, _, rfl⟩, ?_⟩
  refine loopS_indJ (fun vs ρ H' => ∃ (ds rs : List Rat), cs = ds ++ rs ∧ vs = enumV ds.length (rs.map ratV) ∧ H <+: H' ∧ (∃ ep, H'[H.length]? = some (.dict (pE (polyOf n a ds)) ep)) ∧ look ρ "found" = some (.loc H.length) ∧ look ρ "at" = some (.int (a : Int)) ∧ look ρ "n" = some (.int (n : Int))) ?_ ?_ _ _ _
    ⟨[], cs, rfl, rfl, p1, ⟨0, by simp [polyOf, polyL, pE]⟩, by tm_at "lk", by tm_at "lk", by tm_at "lk"⟩
  · rintro ρ H' ⟨ds, rs, e1, e2, g2, ⟨ep, g3⟩, l1, l2, l3⟩
    have : rs = [] := by
      cases rs with
      | nil => rfl
      | cons _ _ => cases e2
    subst this
    rw [List.append_nil] at e1; subst e1
    refine ⟨pre_get g2 hi, ?_⟩
    repeat tm_at "e"
    exact h _ _ ⟨g2, Nat.le_refl _, ep, g3⟩
  · rintro u vs ρ H' ⟨ds, rs, e1, e2, g2, ⟨ep, g3⟩, l1, l2, l3⟩
    cases rs with
    | nil => cases e2
    | cons q rs =>
      simp only [List.map_cons, enumV] at e2
      injection e2 with e2 e3
      subst e2 e3
      refine ⟨pre_get g2 hi, _, rfl, fun J hJ hR => ?_⟩
      have hdl : ds.length ≤ 50 := by have := congrArg List.length e1; simp at this; (first | lia | omega)
      have hpl := polyL_len (n := n) (a := a) ds 0
      have hpa : polyOf n a (ds ++ [q]) = polyOf n a ds ++ (if q = 0 then [] else [(key n a (ds.length : Int), q)]) := by
        unfold polyOf
        rw [polyL_append, Nat.zero_add]
        simp [polyL]
      refine poly_body P (f := H.length) hna (by tm_at "lk") (by tm_at "lk") (by tm_at "lk") (by tm_at "lk") (by tm_at "lk") g3 (by unfold polyOf; simp only [lim]; (first | lia | omega)) (fun e he hc => ?_) (fun hq => ?_) fun hq ep' => ?_
      · obtain ⟨t, _, h2, h3, _, _⟩ := polyL_mem _ _ he
        rw [h3] at hc
        have := key_inj hna hc
        (first | lia | omega)
      · subst hq
        rw [if_pos rfl, List.append_nil] at hpa
        exact (hJ _ _ ⟨ds ++ [0], rs, by simp [e1], by (first | exact get_new | simp), g2, ⟨ep, by rw [hpa]; exact g3⟩, by tm_at "lk", by tm_at "lk", by tm_at "lk"⟩).1
      · rw [if_neg hq] at hpa
        exact (hJ _ _ ⟨ds ++ [q], rs, by simp [e1], by (first | exact get_new | simp), pre_set g2 (Nat.le_refl _) _, ⟨ep', by rw [hpa]; exact get_set g3⟩, by tm_at "lk", by tm_at "lk", by tm_at "lk"⟩).1
end
end
section
section
variable {G : Gh} {k : Nat} {sc : Scope} {ρ : Rho} {H : MH} {Q : V → MH → Prop}
theorem mul9 {x y : Int} (hx : -3 ≤ x ∧ x ≤ 3) (hy : -3 ≤ y ∧ y ≤ 3) : -9 ≤ x * y ∧ x * y ≤ 9 := by
  have h1 : x = -3 ∨ x = -2 ∨ x = -1 ∨ x = 0 ∨ x = 1 ∨ x = 2 ∨ x = 3 := by (first | lia | omega)
  rcases h1 with rfl | rfl | rfl | rfl | rfl | rfl | rfl <;> (first | lia | omega)
theorem prod_ct (P : Pr G) {i j : Nat} {X Y X' Y' : List Int} {x y : Int} (hi : H[i]? = some (.list (X.map .int))) (hj : H[j]? = some (.list (Y.map .int))) (hX : X = X' ++ [x]) (hY : Y = Y' ++ [y]) (hXl : X.length ≤ 2) (hYl : Y.length ≤ 3)
    (bX : ∀ v ∈ X, -3 ≤ v ∧ v ≤ 3) (bY : ∀ v ∈ Y, -3 ≤ v ∧ v ≤ 3)
    (h : ∀ r H' (F : List Int), H <+: H' → H.length ≤ r → H'[r]? = some (.list ((F ++ [x * y]).map .int)) → F.length + 2 = X.length + Y.length → (∀ v ∈ F ++ [x * y], -18 ≤ v ∧ v ≤ 18) → Q (.loc r) H') : CT G (k + 1) "_law_product" [.loc i, .loc j] H Q := by
  refine CT_enter2 P.ok P.prod (x := "one") (y := "other") (by decide +kernel) (fun _ _ _ _ _ => rfl) ?_
  have lX : X.length = X'.length + 1 := by rw [hX]; simp
  have lY : Y.length = Y'.length + 1 := by rw [hY]; simp
  refine TS_cons ?_
  refine TX_Assign ?_ (by decide +kernel)
  repeat tm_at "e"
  refine ⟨lim_ok rfl, ?_⟩
  have p0 := List.prefix_append H [O.list [V.int 0]]
  repeat tm_at "e"
  refine CB_len (pre_get p0 hi) ?_
  repeat tm_at "e"
  refine CB_len (pre_get p0 hj) ?_
  repeat tm_at "e"
  refine PB_lmul (w := .int 0) (by (first | exact get_new | simp)) (by simp; (first | lia | omega)) (by simp; (first | lia | omega)) ?_
  have eN : (((X.map V.int).length : Int) + ((Y.map V.int).length : Int) - 1).toNat = X.length + Y.length - 1 := by simp; (first | lia | omega)
  rw [eN]
  have p1 := p0.trans (List.prefix_append _ [O.list (List.replicate (X.length + Y.length - 1) (V.int 0))])
  have f1 : (H ++ [O.list [V.int 0]] ++ [O.list (List.replicate (X.length + Y.length - 1) (V.int 0))])[H.length + 1]? = some (.list ((List.replicate (X.length + Y.length - 1) (0 : Int)).map .int)) := by simp
  have eL : (H ++ [O.list [V.int 0]]).length = H.length + 1 := by simp
  rw [eL]
  generalize H ++ [O.list [V.int 0]] ++ [O.list (List.replicate (X.length + Y.length - 1) (V.int 0))] = Z at p1 f1 ⊢
  generalize hf : H.length + 1 = f at f1 ⊢
  clear eN eL p0
  refine TS_cons ?_
  refine TX_For (TI_enum P.ok (by decide +kernel) (by tm_at "nb") ?_) (by decide +kernel)
  tm_at "e"
  have hi1 := pre_get p1 hi
  simp only [hi1]
  refine ⟨⟨_, _, _, rfl⟩, ?_⟩
  refine loopS_indJ (fun vs ρ H' => ∃ (ds rs F : List Int), X = ds ++ rs ∧ vs = enumV ds.length (rs.map V.int) ∧ H <+: H' ∧ H'[f]? = some (.list (F.map V.int)) ∧ F.length = X.length + Y.length - 1 ∧ (∀ v ∈ F, -(9 * (ds.length : Int)) ≤ v ∧ v ≤ 9 * (ds.length : Int)) ∧ F[X.length + Y.length - 2]? = some (if rs = [] then x * y else 0) ∧ look ρ "found" = some (.loc f) ∧ look ρ "other" = some (.loc j)) ?_ ?_ _ _ _
    ⟨[], X, _, rfl, rfl, p1, f1, by (first | exact get_new | simp), fun v hv => by rw [List.mem_replicate] at hv; simp [hv.2], ?_, by tm_at "lk", by tm_at "lk"⟩
  case refine_3 =>
    have : X ≠ [] := by intro q; rw [q] at lX; simp at lX
    rw [if_neg this, List.getElem?_replicate, if_pos (by (first | lia | omega))]
  · rintro ρ H' ⟨ds, rs, F, e1, e2, g1, g2, g3, g4, g5, l1, l2⟩
    have : rs = [] := by
      cases rs with
      | nil => rfl
      | cons _ _ => cases e2
    subst this
    rw [List.append_nil] at e1; subst e1
    rw [if_pos rfl] at g5
    refine ⟨pre_get g1 hi, ?_⟩
    repeat tm_at "e"
    have hF : F = F.take (X.length + Y.length - 2) ++ [x * y] := by
      have hlt : X.length + Y.length - 2 < F.length := by (first | lia | omega)
      have e := List.take_append_drop (X.length + Y.length - 2) F
      rw [List.drop_eq_getElem_cons hlt, List.drop_of_length_le (by (first | lia | omega))] at e
      rw [List.getElem?_eq_getElem hlt] at g5
      rw [Option.some.inj g5] at e
      exact e.symm
    refine h f H' (F.take (X.length + Y.length - 2)) g1 (by (first | lia | omega)) (by rw [← hF]; exact g2) (by rw [List.length_take]; (first | lia | omega)) fun v hv => ?_
    rw [← hF] at hv
    have := g4 v hv
    (first | lia | omega)
  · rintro u vs ρ H' ⟨ds, rs, F, e1, e2, g1, g2, g3, g4, g5, l1, l2⟩
    cases rs with
    | nil => cases e2
    | cons a rs =>
      simp only [List.map_cons, enumV] at e2
      injection e2 with e2 e3
      subst e2 e3
      have hdl : X.length = ds.length + 1 + rs.length := by rw [e1]; simp; (first | lia | omega)
      have ba := bX a (by rw [e1]; simp)
      rw [if_neg (by (first | exact get_new | simp))] at g5
      refine ⟨pre_get g1 hi, _, rfl, fun J hJ hR => ?_⟩
      refine TS_cons ?_
      refine TX_For (TI_enum P.ok (by decide +kernel) (by tm_at "nb") ?_) (by decide +kernel)
      tm_at "e"
      have hj1 := pre_get g1 hj
      simp only [hj1]
      refine ⟨⟨_, _, _, rfl⟩, ?_⟩
      refine loopS_indJ (fun vs ρ H' => ∃ (ds' rs' F : List Int), Y = ds' ++ rs' ∧ vs = enumV ds'.length (rs'.map V.int) ∧ H <+: H' ∧ H'[f]? = some (.list (F.map V.int)) ∧ F.length = X.length + Y.length - 1 ∧ (∀ (t : Nat) v, F[t]? = some v → -(9 * (ds.length : Int)) - (if t < ds.length + ds'.length then 9 else 0) ≤ v ∧ v ≤ 9 * (ds.length : Int) + (if t < ds.length + ds'.length then 9 else 0)) ∧
        F[X.length + Y.length - 2]? = some (if rs = [] ∧ rs' = [] then x * y else 0) ∧ look ρ "found" = some (.loc f) ∧ look ρ "other" = some (.loc j) ∧ look ρ "at" = some (.int (ds.length : Int)) ∧ look ρ "left" = some (.int a)) ?_ ?_ _ _ _
        ⟨[], Y, F, rfl, rfl, g1, g2, g3, fun t v hv => ?_, ?_, by tm_at "lk", by tm_at "lk", by tm_at "lk", by tm_at "lk"⟩
      case refine_3 =>
        have := g4 v (List.mem_of_getElem? hv)
        split <;> (first | lia | omega)
      case refine_4 =>
        have : Y ≠ [] := by intro q; rw [q] at lY; simp at lY
        rw [if_neg (fun q => this q.2)]; exact g5
      · rintro ρ H' ⟨ds', rs', F, e1', e2', g1, g2, g3, g4, g5, l1, l2, l3, l4⟩
        have : rs' = [] := by
          cases rs' with
          | nil => rfl
          | cons _ _ => cases e2'
        subst this
        refine ⟨pre_get g1 hj, ?_⟩
        repeat tm_at "e"
        refine (hJ _ _ ⟨ds ++ [a], rs, F, by simp [e1], by (first | exact get_new | simp), g1, g2, g3, fun v hv => ?_, ?_, by tm_at "lk", by tm_at "lk"⟩).1
        · obtain ⟨t, ht⟩ := List.getElem?_of_mem hv
          have := g4 t v ht
          simp only [List.length_append, List.length_cons, List.length_nil]
          split at this <;> (first | lia | omega)
        · rw [g5]
          by_cases hr : rs = [] <;> simp [hr]
      · rintro u vs ρ H' ⟨ds', rs', F, e1', e2', g1, g2, g3, g4, g5, l1, l2, l3, l4⟩
        cases rs' with
        | nil => cases e2'
        | cons b rs' =>
          simp only [List.map_cons, enumV] at e2'
          injection e2' with e2 e3
          subst e2 e3
          have hdl' : Y.length = ds'.length + 1 + rs'.length := by rw [e1']; simp; (first | lia | omega)
          have bb := bY b (by rw [e1']; simp)
          have hix : ds.length + ds'.length < F.length := by (first | lia | omega)
          have hixe : ((ds.length : Int) + (ds'.length : Int)).toNat = ds.length + ds'.length := by (first | lia | omega)
          refine ⟨pre_get g1 hj, _, rfl, fun J2 hJ2 hR2 => ?_⟩
          refine TS_cons ?_
          refine TX_SetItem ?_
          repeat tm_at "e"
          refine PI_list g2 (by (first | lia | omega)) (u := .int F[ds.length + ds'.length]) (by rw [hixe]; simp [hix]) ?_
          repeat tm_at "e"
          refine PB_mul (n := 2) (m := 2) (by unfold Bi; (first | lia | omega)) (by unfold Bi; (first | lia | omega)) (by decide) (by decide) ?_
          repeat tm_at "e"
          refine PS_list g2 (by (first | lia | omega)) (by simp; (first | lia | omega)) ?_
          rw [hixe]
          repeat tm_at "e"
          have m9 := mul9 ba bb
          refine (hJ2 _ _ ⟨ds' ++ [b], rs', F.set (ds.length + ds'.length) (F[ds.length + ds'.length] + a * b), by simp [e1'], by (first | exact get_new | simp), pre_set g1 (by (first | lia | omega)) _, by rw [get_set g2]; simp [List.map_set], by simpa using g3, fun t v hv => ?_, ?_, by tm_at "lk", by tm_at "lk", by tm_at "lk", by tm_at "lk"⟩).1
          · simp only [List.length_append, List.length_cons, List.length_nil]
            rw [List.getElem?_set] at hv
            by_cases ht : ds.length + ds'.length = t
            · subst ht
              rw [if_pos rfl, if_pos hix] at hv
              have := Option.some.inj hv
              have h1 := g4 (ds.length + ds'.length) F[ds.length + ds'.length] (by simp [hix])
              rw [if_neg (by (first | lia | omega))] at h1
              rw [if_pos (by (first | lia | omega))]
              (first | lia | omega)
            · rw [if_neg ht] at hv
              have h1 := g4 t v hv
              by_cases h2 : t < ds.length + ds'.length
              · rw [if_pos h2] at h1; rw [if_pos (by (first | lia | omega))]; exact h1
              · rw [if_neg h2] at h1; rw [if_neg (by (first | lia | omega))]; exact h1
          · rw [List.getElem?_set]
            by_cases ht : ds.length + ds'.length = X.length + Y.length - 2
            · rw [if_pos ht, if_pos hix]
              have hr : rs = [] := List.length_eq_zero_iff.mp (by (first | lia | omega))
              have hr' : rs' = [] := List.length_eq_zero_iff.mp (by (first | lia | omega))
              subst hr hr'
              rw [if_pos ⟨rfl, rfl⟩]
              have ea : a = x := by
                rw [hX] at e1
                have := List.append_inj_right' e1 rfl
                injection this with this
                exact this.symm
              have eb : b = y := by
                rw [hY] at e1'
                have := List.append_inj_right' e1' rfl
                injection this with this
                exact this.symm
              rw [if_neg (by (first | exact get_new | simp))] at g5
              rw [ea, eb]
              simp only [ht, List.getElem?_eq_getElem (show X.length + Y.length - 2 < F.length by (first | lia | omega))] at g5 ⊢
              rw [Option.some.inj g5]; simp
            · rw [if_neg ht, g5, if_neg (by (first | exact get_new | simp))]
              have : ¬ (rs = [] ∧ rs' = []) := fun q => by
                obtain ⟨q1, q2⟩ := q
                subst q1 q2
                simp at hdl hdl'
                (first | lia | omega)
              rw [if_neg this]
end
end
section
noncomputable abbrev rc (xs : List Int) : List Rat := xs.map fun (x : Int) => (x : Rat)
noncomputable def BiL (b : Nat) (xs : List Int) : Prop := ∀ x ∈ xs, Bi b x
noncomputable def TrimI (xs : List Int) : Prop := xs = [] ∨ ∃ d l, xs = d ++ [l] ∧ l ≠ 0
theorem rc_ne {x : Int} (h : x ≠ 0) : (x : Rat) ≠ 0 := by exact_mod_cast h
theorem TrimI.rc {xs : List Int} (h : TrimI xs) : Trim (rc xs) := by
  rcases h with rfl | ⟨d, l, rfl, hl⟩
  · exact .inl rfl
  · exact .inr ⟨Mine.rc d, (l : Rat), by simp [Mine.rc], rc_ne hl⟩
noncomputable def subI : List Int → Nat → List Int → Int → List Int
  | S, _, [], _ => S
  | S, s, b :: B, t => subI (S.set s (S.getD s 0 - t * b)) (s + 1) B t
theorem subI_len : ∀ (B S : List Int) (s : Nat) (t : Int), (subI S s B t).length = S.length
  | [], _, _, _ => rfl
  | b :: B, S, s, t => by rw [subI, subI_len B]; simp
theorem rc_getD (S : List Int) (s : Nat) : ((S.getD s 0 : Int) : Rat) = (rc S).getD s 0 := by
  simp only [rc, List.getD_eq_getElem?_getD, List.getElem?_map]
  cases S[s]? <;> simp
theorem rc_subI : ∀ (B S : List Int) (s : Nat) (t : Int), rc (subI S s B t) = subAt (rc S) s (rc B) (t : Rat)
  | [], S, s, t => rfl
  | b :: B, S, s, t => by
    rw [subI, rc_subI B]
    simp only [rc, List.map_cons, subAt]
    congr 1
    rw [List.map_set]
    congr 1
    have := rc_getD S s
    simp only [rc] at this
    rw [← this]
    push_cast
    grind
theorem Bi.sub {n : Nat} {a b : Int} (h : Bi n a) (h' : Bi n b) : Bi (n + 1) (a - b) := by
  rw [Int.sub_eq_add_neg]
  exact h.add (h'.of_le (by (first | exact get_new | simp)))
theorem gcd_bi {b : Nat} {x y : Int} (hy : y ≠ 0) (h : Bi b y) : Bi b (Int.gcd x y : Int) := h.of_le (by
  have := Int.gcd_le_natAbs_right x hy
  simpa using this)
section
variable {G : Gh} {k : Nat} {sc : Scope} {ρ : Rho} {H : MH} {Q : V → MH → Prop}
-- what stands behind the loop: the content goes out
theorem rest_tail (P : Pr G) {i b : Nat} {T : List Int} {ρ : Rho} {H₀ : MH} (hi : H[i]? = some (.list (T.map .int))) (h0 : H₀ <+: H) (l1 : look ρ "one" = some (.loc i)) (hT : TrimI T) (hb : BiL b T) (hb9 : b ≤ 8000) (hl : T.length ≤ 50)
    (h : ∀ r H' T', H₀ <+: H' → H₀.length ≤ r → H'[r]? = some (.list (T'.map .int)) → TrimI T' → T'.length = T.length → BiL b T' → (∃ c : Rat, c ≠ 0 ∧ rc T' = (rc T).map (· * c)) → Q (.loc r) H') :
    TS G (k + 1) (sI 57) ((bI 57).drop 1) ρ H (retQ Q) := by
  refine TS_cons ?_
  repeat tm_at "e"
  refine TX_For (TI_val ?_) (by decide +kernel)
  tm_at "e"
  simp only [hi]
  refine ⟨⟨_, _, rfl⟩, ?_⟩
  refine loopS_indJ (fun vs ρ H' => ∃ (ds rs : List Int) (g : Int), T = ds ++ rs ∧ vs = rs.map V.int ∧ H' = H ∧ 0 ≤ g ∧ (∀ x ∈ ds, g ∣ x) ∧ ((∃ x ∈ ds, x ≠ 0) → g ≠ 0) ∧ Bi b g ∧ look ρ "one" = some (.loc i) ∧ look ρ "content" = some (.int g)) ?_ ?_ _ _ _
    ⟨[], T, 0, rfl, rfl, rfl, by decide, (fun _ hx => nomatch hx), (fun ⟨_, hx, _⟩ => nomatch hx), by unfold Bi; simp, by tm_at "lk", by tm_at "lk"⟩
  case refine_2 =>
    rintro u vs ρ H' ⟨ds, rs, g, e1, e2, rfl, e3, e4, e5, e6, l1, l2⟩
    cases rs with
    | nil => cases e2
    | cons x rs =>
      simp only [List.map_cons] at e2
      injection e2 with e2 e2'
      subst e2 e2'
      refine ⟨hi, _, rfl, fun J hJ hR => ?_⟩
      refine TS_cons ?_
      repeat tm_at "e"
      refine shared_ct P ?_
      repeat tm_at "e"
      refine (hJ _ _ ⟨ds ++ [x], rs, (Int.gcd g x : Int), by simp [e1], rfl, rfl, by (first | lia | omega), fun y hy => ?_, fun hy => ?_, ?_, by tm_at "lk", by tm_at "lk"⟩).1
      · have hg1 : ((Int.gcd g x : Nat) : Int) ∣ g := Int.gcd_dvd_left ..
        have hg2 : ((Int.gcd g x : Nat) : Int) ∣ x := Int.gcd_dvd_right ..
        rcases List.mem_append.mp hy with hy | hy
        · exact Int.dvd_trans hg1 (e4 y hy)
        · rw [List.mem_singleton] at hy; rw [hy]; exact hg2
      · intro q
        have q' : Int.gcd g x = 0 := by (first | lia | omega)
        rw [Int.gcd_eq_zero_iff] at q'
        obtain ⟨y, hy, hy0⟩ := hy
        rcases List.mem_append.mp hy with hy | hy
        · exact e5 ⟨y, hy, hy0⟩ q'.1
        · rw [List.mem_singleton] at hy; exact hy0 (by rw [hy]; exact q'.2)
      · by_cases hx : x = 0
        · subst hx; rw [Int.gcd_zero_right]; exact e6.of_le (by (first | lia | omega))
        · exact gcd_bi hx (hb x (by rw [e1]; simp))
  rintro ρ H' ⟨ds, rs, g, e1, e2, rfl, e3, e4, e5, e6, l1, l2⟩
  have : rs = [] := List.map_eq_nil_iff.mp e2.symm
  subst this
  rw [List.append_nil] at e1; subst e1
  refine ⟨hi, ?_⟩
  repeat tm_at "e"
  refine TE_ListComp (by decide +kernel) (by decide +kernel) (TI_val ?_)
  tm_at "e"
  simp only [hi]
  refine ⟨⟨_, _, rfl⟩, ?_⟩
  rcases hT with rfl | ⟨d, l, hTd, hl0⟩
  · refine ⟨hi, _, rfl, ?_⟩
    exact h _ _ [] (h0.trans (List.prefix_append _ _)) (pre_len h0) (by (first | exact get_new | simp)) (.inl rfl) rfl (fun _ hx => nomatch hx) ⟨1, by decide, rfl⟩
  · have hg : g ≠ 0 := e5 ⟨l, by rw [hTd]; simp, hl0⟩
    refine loopC_indJ emL_mono (fun vs ρ acc H'' => ∃ ds rs : List Int, T = ds ++ rs ∧ vs = rs.map V.int ∧ acc = .list ((ds.map fun x => x.fdiv g).map V.int) ∧ H'' = H' ∧ look ρ "content" = some (.int g)) ?_ ?_ _ _ _ _ ⟨[], T, rfl, rfl, rfl, rfl, by tm_at "lk"⟩
    case refine_2 =>
      rintro u vs ρ acc H'' ⟨ds, rs, e1, e2, rfl, rfl, l3⟩
      cases rs with
      | nil => cases e2
      | cons x rs =>
        simp only [List.map_cons] at e2
        injection e2 with e2 e2'
        subst e2 e2'
        refine ⟨hi, _, rfl, fun J2 hJ2 => ⟨_, rfl, by have := congrArg List.length e1; simp at this ⊢; simp only [lim]; (first | lia | omega), ?_⟩⟩
        repeat tm_at "e"
        refine PB_fdiv hg e6 (by (first | lia | omega)) ?_
        exact hJ2 _ _ _ ⟨ds ++ [x], rs, by simp [e1], rfl, by (first | exact get_new | simp), rfl, by tm_at "lk"⟩
    rintro ρ acc H'' ⟨ds, rs, e1, e2, rfl, rfl, l3⟩
    have : rs = [] := List.map_eq_nil_iff.mp e2.symm
    subst this
    rw [List.append_nil] at e1; subst e1
    have hdv : ∀ x ∈ T, ((x.fdiv g : Int) : Rat) = (x : Rat) * (g : Rat)⁻¹ := fun x hx => by
      obtain ⟨y, rfl⟩ := e4 x hx
      have e : (g * y).fdiv g = y := by rw [Int.fdiv_eq_ediv_of_dvd ⟨y, rfl⟩]; exact Int.mul_ediv_cancel_left _ hg
      rw [e]
      have hgr : (g : Rat) ≠ 0 := rc_ne hg
      have := Rat.mul_inv_cancel (g : Rat) hgr
      push_cast
      grind
    refine ⟨hi, _, rfl, h _ _ (T.map fun x => x.fdiv g) (h0.trans (List.prefix_append _ _)) (pre_len h0) (by (first | exact get_new | simp)) ?_ (by (first | exact get_new | simp)) (fun y hy => ?_) ⟨(g : Rat)⁻¹, inv_ne (rc_ne hg), ?_⟩⟩
    · refine .inr ⟨d.map fun x => x.fdiv g, l.fdiv g, by rw [hTd]; simp, fun q => ?_⟩
      have := hdv l (by rw [hTd]; simp)
      rw [q] at this
      exact ((Rat.mul_eq_zero.mp this.symm).elim (rc_ne hl0) (inv_ne (rc_ne hg)))
    · obtain ⟨x, hx, rfl⟩ := List.mem_map.mp hy
      obtain ⟨y, rfl⟩ := e4 x hx
      have e : (g * y).fdiv g = y := by rw [Int.fdiv_eq_ediv_of_dvd ⟨y, rfl⟩]; exact Int.mul_ediv_cancel_left _ hg
      rw [e]
      refine (hb _ hx).of_le ?_
      rw [Int.natAbs_mul]
      exact Nat.le_mul_of_pos_left _ (by (first | lia | omega))
    · simp only [rc, List.map_map]
      exact List.map_congr_left fun x hx => hdv x hx
end
end
section
theorem rc_scale (L : List Int) (c : Int) : rc (L.map fun x => c * x) = (rc L).map (· * (c : Rat)) := by
  simp only [rc, List.map_map]
  refine List.map_congr_left fun x _ => ?_
  simp only [Function.comp]
  push_cast
  exact Rat.mul_comm _ _
section
variable {G : Gh} {k : Nat} {sc : Scope} {ρ : Rho} {H : MH} {Q : V → MH → Prop}
theorem lrest_ct (P : Pr G) {ia ib la β : Nat} {A B B' : List Int} {c : Int} (hia : H[ia]? = some (.list (A.map .int))) (hib : H[ib]? = some (.list (B.map .int))) (hA : TrimI A) (hB : B = B' ++ [c]) (hc : c ≠ 0) (bA : BiL la A) (bB : BiL β B) (hlA : A.length ≤ 4) (hbb : la + 4 * (β + 1) ≤ 8000)
    (h : ∀ r H' T, H <+: H' → H.length ≤ r → H'[r]? = some (.list (T.map .int)) → TrimI T → T.length < B.length → BiL (la + 4 * (β + 1)) T → Idl (cf (rc A)) (cf (rc B)) (cf (rc T)) → Idl (cf (rc B)) (cf (rc T)) (cf (rc A)) → Q (.loc r) H') :
    CT G (k + 2) "_law_rest" [.loc ia, .loc ib] H Q := by
  refine CT_enter2 P.ok P.rest (x := "one") (y := "other") (by decide +kernel) (fun _ _ _ _ _ => rfl) ?_
  have hBl : B.length = B'.length + 1 := by rw [hB]; simp
  have hbc : Bi β c := bB c (by rw [hB]; simp)
  refine TS_cons ?_
  refine TX_WhileJ (fun cn ρ H' => ∃ (L : List Int) (i1 j : Nat), cn = L.length ∧ look ρ "one" = some (.loc i1) ∧ look ρ "other" = some (.loc ib) ∧ H <+: H' ∧ H'[i1]? = some (.list (L.map .int)) ∧ TrimI L ∧ BiL (la + j * (β + 1)) L ∧ L.length + j ≤ A.length ∧ Idl (cf (rc A)) (cf (rc B)) (cf (rc L)) ∧ Idl (cf (rc B)) (cf (rc L)) (cf (rc A))) A.length
    ⟨A, ia, 0, rfl, by tm_at "lk", by tm_at "lk", List.prefix_refl _, hia, hA, by simpa using bA, by (first | lia | omega), .l, .r⟩ ?_
  rintro cn ρ H' ⟨L, i1, j, rfl, l1, l2, h1, h3, h4, h5, h6, h7, h8⟩ J hJ hR
  have hib' := pre_get h1 hib
  have hj4 : j * (β + 1) ≤ 4 * (β + 1) := Nat.mul_le_mul_right _ (by (first | lia | omega))
  repeat tm_at "e"
  refine CB_len h3 ?_
  repeat tm_at "e"
  refine CB_len hib' ?_
  repeat tm_at "e"
  simp only [List.length_map]
  by_cases hge : B.length ≤ L.length
  case neg =>
    have z : ¬ ((B.length : Int) ≤ (L.length : Int)) := by (first | lia | omega)
    first | refine if_F z ?_ | rw [decide_eq_false z, if_neg Bool.false_ne_true]
    refine rest_tail P (T := L) (b := la + 4 * (β + 1)) h3 h1 l1 h4 (fun x hx => (h5 x hx).mono (by (first | lia | omega))) (by (first | lia | omega)) (by (first | lia | omega)) fun r H₂ T' g1 g2 g3 g4 g5 g6 ⟨f, hf, e⟩ => ?_
    refine h r H₂ T' g1 g2 g3 g4 (by (first | lia | omega)) g6 ?_ ?_
    · rw [e, cf_scale]; exact .smul _ h7
    · refine Idl.trans .l ?_ h8
      rw [cf_unscale (qs := rc L) hf, ← e]; exact .smul _ .r
  case pos =>
    have z : ((B.length : Int) ≤ (L.length : Int)) := by (first | lia | omega)
    first | refine if_T z ?_ | rw [decide_eq_true z, if_pos rfl]
    obtain ⟨d, t, hL, ht⟩ : ∃ d t, L = d ++ [t] ∧ t ≠ 0 := h4.resolve_left fun e => by rw [e] at hge; simp only [List.length_nil] at hge; (first | lia | omega)
    have hLl : L.length = d.length + 1 := by rw [hL]; simp
    have hbt : Bi (la + j * (β + 1)) t := h5 t (by rw [hL]; simp)
    tm_at "e"
    refine TX_AssignSw (names := ["top", "shift"]) (by decide +kernel) ?_
    repeat tm_at "e"
    refine PI_list_neg h3 (by decide) (by rw [List.length_map]; (first | lia | omega)) (u := .int t) (by rw [List.length_map, show ((-1 : Int) + (L.length : Int)).toNat = d.length by (first | lia | omega), hL]; simp) ?_
    repeat tm_at "e"
    refine CB_len h3 ?_
    repeat tm_at "e"
    refine CB_len hib' ?_
    repeat tm_at "e"
    refine ⟨lim_ok rfl, _, rfl, rfl, ?_⟩
    simp only [List.reverse_cons, List.reverse_nil, List.nil_append, List.cons_append, bindN, List.length_map]
    refine TS_cons ?_
    refine TX_AssignLC (by decide +kernel) (by decide +kernel) (by decide +kernel) (TI_val ?_)
    tm_at "e"
    simp only [h3]
    refine ⟨⟨_, _, rfl⟩, ?_⟩
    refine loopC_indJ emL_mono (fun vs ρ acc H₂ => ∃ (ds rs : List Int), L = ds ++ rs ∧ vs = rs.map V.int ∧ acc = .list ((ds.map fun x => c * x).map V.int) ∧ H₂ = H' ∧ look ρ "other" = some (.loc ib)) ?_ ?_ _ _ _ _ ⟨[], L, rfl, rfl, rfl, rfl, by tm_at "lk"⟩
    case refine_2 =>
      rintro u vs ρ₁ acc H₂ ⟨ds, rs, e1, e2, rfl, rfl, m1⟩
      cases rs with
      | nil => cases e2
      | cons x rs =>
        simp only [List.map_cons] at e2
        injection e2 with e2 e2'
        subst e2 e2'
        refine ⟨h3, _, rfl, fun J2 hJ2 => ⟨_, rfl, by have := congrArg List.length e1; simp at this ⊢; simp only [lim]; (first | lia | omega), ?_⟩⟩
        repeat tm_at "e"
        refine PI_list_neg hib' (by decide) (by rw [List.length_map]; (first | lia | omega)) (u := .int c) (by rw [List.length_map, show ((-1 : Int) + (B.length : Int)).toNat = B'.length by (first | lia | omega), hB]; simp) ?_
        repeat tm_at "e"
        refine PB_mul hbc (h5 x (by rw [e1]; simp)) (by (first | lia | omega)) (by (first | lia | omega)) ?_
        exact hJ2 _ _ _ ⟨ds ++ [x], rs, by simp [e1], rfl, by (first | exact get_new | simp), rfl, by tm_at "lk"⟩
    rintro ρ₁ acc H₂ ⟨ds, rs, e1, e2, rfl, rfl, m1⟩
    have : rs = [] := List.map_eq_nil_iff.mp e2.symm
    subst this
    rw [List.append_nil] at e1; subst e1
    clear m1 ρ₁
    refine ⟨h3, _, rfl, ?_⟩
    have q1 := List.prefix_append H₂ [O.list ((L.map fun x => c * x).map V.int)]
    have hsl : H.length ≤ H₂.length := pre_len h1
    have hib2 := pre_get q1 hib'
    have hiblt : ib < H₂.length := (List.getElem?_eq_some_iff.mp hib').1
    refine TS_cons ?_
    refine TX_For (TI_enum P.ok (by decide +kernel) (by tm_at "nb") ?_) (by decide +kernel)
    tm_at "e"
    simp only [hib2]
    refine ⟨⟨_, _, _, rfl⟩, ?_⟩
    have hFr := rc_subI B (L.map fun x => c * x) (L.length - B.length) t
    have hF := cf_subAt (rc B) (rc (L.map fun x => c * x)) (L.length - B.length) (t : Rat) (by simp; (first | lia | omega))
    rw [← hFr, rc_scale] at hF
    generalize hFd : subI (L.map fun x => c * x) (L.length - B.length) B t = F at hF
    have hFl : F.length = L.length := by rw [← hFd, subI_len]; simp
    refine loopS_indJ (fun vs ρ H₃ => ∃ (at' : Nat) (rest S : List Int), vs = enumV at' (rest.map V.int) ∧ (∀ b ∈ rest, b ∈ B) ∧ at' + rest.length = B.length ∧ H₂ <+: H₃ ∧ H₃[H₂.length]? = some (.list (S.map V.int)) ∧ S.length = L.length ∧ subI S (L.length - B.length + at') rest t = F ∧
      BiL (la + (j + 1) * (β + 1)) S ∧ (∀ (x : Nat) q, L.length - B.length + at' ≤ x → S[x]? = some q → Bi (la + j * (β + 1) + β) q) ∧ look ρ "one" = some (.loc H₂.length) ∧ look ρ "shift" = some (.int ((L.length : Int) - (B.length : Int))) ∧ look ρ "top" = some (.int t) ∧ look ρ "other" = some (.loc ib)) ?_ ?_ _ _ _
      ⟨0, B, L.map fun x => c * x, rfl, fun _ x => x, by (first | lia | omega), q1, by (first | exact get_new | simp), by (first | exact get_new | simp), hFd, ?_, ?_, by tm_at "lk", by tm_at "lk", by tm_at "lk", by tm_at "lk"⟩
    case refine_3 =>
      intro q hq
      obtain ⟨x, hx, rfl⟩ := List.mem_map.mp hq
      exact (hbc.mul (h5 x hx)).mono (by rw [Nat.add_mul]; (first | lia | omega))
    case refine_4 =>
      intro x q _ hq
      rw [List.getElem?_map] at hq
      obtain ⟨y, hy, rfl⟩ := Option.map_eq_some_iff.mp hq
      exact (hbc.mul (h5 y (List.mem_of_getElem? hy))).mono (by (first | lia | omega))
    case refine_2 =>
      rintro u vs ρ₁ H₃ ⟨at', rest, S, e1, gB, gl, g3', gs, gSl, gF, gb, gb2, m1, m2, m3, m4⟩
      cases rest with
      | nil => cases e1
      | cons bq rest =>
        simp only [List.map_cons, enumV] at e1
        injection e1 with e1 e2
        subst e1 e2
        simp only [List.length_cons] at gl
        refine ⟨pre_get g3' hib', _, rfl, fun J2 hJ2 hR2 => ?_⟩
        refine TS_cons ?_
        refine TX_SetItem ?_
        repeat tm_at "e"
        have hix : L.length - B.length + at' < S.length := by (first | lia | omega)
        have hixe : ((at' : Int) + ((L.length : Int) - (B.length : Int))).toNat = L.length - B.length + at' := by (first | lia | omega)
        refine PI_list gs (by (first | lia | omega)) (u := .int S[L.length - B.length + at']) (by rw [hixe]; simp [hix]) ?_
        repeat tm_at "e"
        have hbq := bB bq (gB bq List.mem_cons_self)
        refine PB_mul hbt hbq (by (first | lia | omega)) (by (first | lia | omega)) ?_
        repeat tm_at "e"
        have b1 : Bi (la + j * (β + 1) + β) S[L.length - B.length + at'] := gb2 (L.length - B.length + at') _ (Nat.le_refl _) (by simp [hix])
        have b2 : Bi (la + j * (β + 1) + β) (t * bq) := hbt.mul hbq
        refine PS_list gs (by (first | lia | omega)) (by rw [List.length_map]; (first | lia | omega)) ?_
        rw [hixe]
        repeat tm_at "e"
        refine (hJ2 _ _ ⟨at' + 1, rest, S.set (L.length - B.length + at') (S[L.length - B.length + at'] - t * bq), rfl, fun x hx => gB x (List.mem_cons_of_mem _ hx), by (first | lia | omega), pre_set g3' (Nat.le_refl _) _, by rw [get_set gs]; simp [List.map_set], by simpa using gSl, ?_, ?_, ?_, by tm_at "lk", by tm_at "lk", by tm_at "lk", by tm_at "lk"⟩).1
        · rw [← gF, subI]
          have e1 : S.getD (L.length - B.length + at') 0 = S[L.length - B.length + at'] := by simp [hix]
          rw [e1, Nat.add_assoc]
        · intro x hx
          rcases List.mem_or_eq_of_mem_set hx with hx | rfl
          · exact gb x hx
          · exact (b1.sub b2).mono (by rw [Nat.add_mul]; (first | lia | omega))
        · intro x q hx hq
          rw [List.getElem?_set, if_neg (by (first | lia | omega))] at hq
          exact gb2 x q (by (first | lia | omega)) hq
    rintro ρ₁ H₃ ⟨at', rest, S, e1, gB, gl, g3', gs, gSl, gF, gb, gb2, m1, m2, m3, m4⟩
    have : rest = [] := by
      cases rest with
      | nil => rfl
      | cons _ _ => cases e1
    subst this
    rw [subI] at gF
    subst gF
    refine ⟨pre_get g3' hib', ?_⟩
    refine TS_cons ?_
    refine TX_WhileJ (fun cn ρ X => ∃ (T : List Int) (m : Nat), cn = T.length ∧ S = T ++ List.replicate m 0 ∧ H₂ <+: X ∧ X[H₂.length]? = some (.list (T.map V.int)) ∧ look ρ "one" = some (.loc H₂.length) ∧ look ρ "other" = some (.loc ib)) S.length ⟨S, 0, rfl, by (first | exact get_new | simp), g3', gs, by tm_at "lk", by tm_at "lk"⟩ ?_
    clear m1 m2 m3 m4 g3' gs
    rintro cn ρ X ⟨T, m, rfl, eT, g1, g2, m1, m2⟩ J2 hJ2 hR2
    have fin : TrimI T → J .next ρ (X ++ [O.list []]) := fun hT => by
      have hcT : cf (rc T) = cf (rc S) := by
        rw [eT]
        have : rc (T ++ List.replicate m 0) = rc T ++ List.replicate m 0 := by simp [rc]
        rw [this, cf_zeros]
      have e3 : cf (rc S) (L.length - 1) = 0 := by
        rw [hF, shn_at, if_pos (by (first | lia | omega))]
        have x1 : cf ((rc L).map (· * (c : Rat))) (L.length - 1) = (t : Rat) * c := by
          rw [hL]; simp [cf, rc]
        have x2 : cf (rc B) (L.length - 1 - (L.length - B.length)) = (c : Rat) := by
          rw [show L.length - 1 - (L.length - B.length) = B'.length by (first | lia | omega), hB]; simp [cf, rc]
        rw [x1, x2]; grind
      have hTl : T.length < L.length := by
        have h1 := congrArg List.length eT
        simp at h1
        rcases Nat.lt_or_ge T.length L.length with q | q
        · exact q
        · exfalso
          rcases hT with rfl | ⟨d', l', rfl, hl'⟩
          · simp only [List.length_nil] at q; (first | lia | omega)
          · rw [← hcT] at e3
            have e4 : cf (rc (d' ++ [l'])) d'.length = (l' : Rat) := by simp [cf, rc]
            simp at h1 q
            rw [show L.length - 1 = d'.length by (first | lia | omega), e4] at e3
            exact rc_ne hl' e3
      rw [← hcT] at hF
      exact (hJ T.length _ _ hTl ⟨T, H₂.length, j + 1, rfl, m1, m2, (h1.trans g1).trans (List.prefix_append _ _), pre_get (List.prefix_append _ _) g2, hT, fun q hq => gb q (by rw [eT]; exact List.mem_append_left _ hq), by (first | lia | omega), step_fwd hF h7, step_bwd (rc_ne hc) hF h8⟩).1
    repeat tm_at "e"
    refine ⟨lim_ok rfl, ?_⟩
    have qX := List.prefix_append X [O.list []]
    refine PB_lne (xs := T) (ys := []) (pre_get qX g2) (by (first | exact get_new | simp)) ?_
    rcases List.eq_nil_or_concat T with hT | ⟨d', l', hT⟩
    · subst hT
      simp only [decide_true, Bool.not_true]
      refine ⟨false, rfl, ?_⟩
      rw [if_neg Bool.false_ne_true, if_neg Bool.false_ne_true]
      repeat tm_at "e"
      exact fin (.inl rfl)
    · rw [List.concat_eq_append] at hT
      have hne : T ≠ [] := by rw [hT]; simp
      simp only [hne, decide_false, Bool.not_false]
      refine ⟨true, rfl, ?_⟩
      rw [if_pos rfl]
      repeat tm_at "e"
      have hTl : T.length = d'.length + 1 := by rw [hT]; simp
      refine PI_list_neg (pre_get qX g2) (by decide) (by rw [List.length_map]; (first | lia | omega)) (u := .int l') (by rw [List.length_map, show ((-1 : Int) + (T.length : Int)).toNat = d'.length by (first | lia | omega), hT]; simp) ?_
      repeat tm_at "e"
      by_cases hl0 : l' = 0
      · first | refine if_T hl0 ?_ | rw [decide_eq_true hl0, if_pos rfl]
        repeat tm_at "e"
        rw [if_pos rfl]
        tm_at "e"
        refine TX_Expr ?_ rfl
        refine TE_PopL ?_
        tm_at "e"
        have gX := pre_get qX g2
        refine ⟨H₂.length, d'.map V.int, V.int l', rfl, by rw [gX, hT]; simp, ?_⟩
        repeat tm_at "e"
        refine (hJ2 d'.length _ _ (by (first | lia | omega)) ⟨d', m + 1, rfl, ?_, pre_set (g1.trans qX) (Nat.le_refl _) _, get_set gX, by tm_at "lk", by tm_at "lk"⟩).1
        rw [eT, hT, hl0, List.replicate_succ]; simp
      · rw [decide_eq_false hl0, if_neg Bool.false_ne_true, if_neg Bool.false_ne_true]
        repeat tm_at "e"
        exact fin (.inr ⟨d', l', hT, hl0⟩)
end
end
section
section
variable {G : Gh} {k : Nat} {sc : Scope} {ρ : Rho} {H : MH} {Q : V → MH → Prop}
theorem unpack2 {A : Around} {E : Value → Shared → Prop} {s : Shared} {l : Addr} {v w : Value} {P : List Value → Shared → Prop} (hh : A.handled = Option.none) (hl : s.heap.IsList l #[v, w])
    (hP : ∀ h', Heap.ExtBut s.heap.objs.size s.heap h' → P [v, w] { s with heap := h' }) : wpAny G.M A (unpackItems (.ref l) 2 Option.none) P E s := by
  have hne : l ≠ s.heap.objs.size := by obtain ⟨o, ho, _⟩ := hl; exact Nat.ne_of_lt (Heap.lt_size ho)
  unfold unpackItems
  refine wpAny_bind ?_
  unfold notIterableAtAll
  refine wpAny_bind (wpAny_specialOf hl.typeIs PySem.F.slot_list_iter.lookup (wpAny_pure ?_))
  simp only [Bool.false_eq_true, if_false]
  refine wpAny_bind (wpAny_holding (wpAny_pyIter_list hl ?_))
  have hk := push_keep s.heap { cls := .type "list_iterator", data := .fields #[.ref l, .int 0 0] }
  have hit : (s.heap.push { cls := .type "list_iterator", data := .fields #[.ref l, .int 0 0] }).IsListIter s.heap.objs.size l 0 := ⟨_, Heap.get?_push_size _ rfl, rfl, rfl⟩
  have hl1 : (s.heap.push { cls := .type "list_iterator", data := .fields #[.ref l, .int 0 0] }).IsList l #[v, w] := hl.push _
  generalize s.heap.push { cls := .type "list_iterator", data := .fields #[.ref l, .int 0 0] } = h₀ at hk hit hl1 ⊢
  have two : ∀ (R : List Value → Shared → Prop) (E' : Value → Shared → Prop), (∀ h₂, h₂.IsListIter s.heap.objs.size l 2 → Heap.ExtBut s.heap.objs.size h₀ h₂ → R [v, w] { s with heap := h₂ }) → wpAny G.M A (draw (.ref s.heap.objs.size) 2) R E' { s with heap := h₀ } := fun R E' hR => by
    show wpAny _ _ (pyNext (.ref s.heap.objs.size) >>= _) _ _ _
    refine wpAny_bind (wpAny_pyNext_list_item (s := { s with heap := h₀ }) hit hl1 (x := v) rfl fun h₁ hit₁ hs₁ => wpAny_bind (wpAny_holding ?_))
    show wpAny _ _ (pyNext (.ref s.heap.objs.size) >>= _) _ _ _
    refine wpAny_bind (wpAny_pyNext_list_item (s := { s with heap := h₁ }) hit₁ (hl1.extBut hs₁.extBut hne) (x := w) rfl fun h₂ hit₂ hs₂ => wpAny_bind (wpAny_holding ?_))
    show wpAny _ _ (pure []) _ _ _
    refine wpAny_pure (wpAny_pure (wpAny_pure (hR h₂ hit₂ fun b o hb e => hs₂.extBut b o hb (hs₁.extBut b o hb e))))
  refine wpAny_bind (wpAny_holding (two _ _ fun h₂ hit₂ hx => ?_))
  rw [if_neg (by (first | exact get_new | simp))]
  refine wpAny_bind (wpAny_holding (wpAny_pyNext_list_end (s := { s with heap := h₂ }) hh hit₂ (hl1.extBut hx hne) (by (first | exact get_new | simp)) fun h₃ he₃ => ?_))
  simp only [Option.isSome_none, Bool.false_eq_true, if_false]
  exact wpAny_pure (hP h₃ fun b o hb e => he₃ b o hb (hx b o hb (hk b o e)))
theorem TX_AssignL2 {elts : List Expr} {kk : Nat} {tpos pos : Pos} {e : Expr} {x y : Str} {Q : Fl → Rho → MH → Prop} (hn : namesOf elts = some [x, y]) (hk : ∀ z ∈ [x, y], sc.names.lookup z = some .local ∨ sc.names.lookup z = some .cell)
    (h : TE G k sc e ρ H fun u H' => ∃ n a b, u = .loc n ∧ H'[n]? = some (.list [a, b]) ∧ Q .next (bindN [x, y] [a, b] ρ) H')
    (hs : ∀ env, swapsWithSole [.Tuple elts kk tpos] e pos.line env = pure false := by intro _; rfl) (hw : ∀ env, env.scope = sc → swappedStores [.Tuple elts kk tpos] e env = pure Option.none := by (intro env q; cases env; cases q; rfl)) :
    TX G k sc (.Assign [.Tuple elts kk tpos] e pos) ρ H Q := by
  intro env A E s μ hsc hA V R
  refine Assign_Tuple (wpAny_mono (h env A E s μ hsc hA V R) ?_ fun _ _ e => e) (hs env) (hw env hsc)
  rintro v s₁ ⟨u, H₁, μ₁, X, R₁, z, n, ua, ub, rfl, hn', q⟩
  rw [VR] at z; obtain ⟨a, rfl, ha⟩ := z
  obtain ⟨a', ha', vs, m, hl, hlen, hvs⟩ := R₁.obj n _ hn'
  rw [ha] at ha'; cases ha'
  have hvs' := hvs
  rw [VRs] at hvs'
  obtain ⟨v1, r1, e1, _, hr⟩ := hvs'
  rw [VRs] at hr
  obtain ⟨v2, r2, e2, _, hr⟩ := hr
  rw [VRs] at hr
  have e : vs = #[v1, v2] := by apply Array.toList_inj.mp; rw [e1, e2, hr]
  subst e
  obtain ⟨q1, q2⟩ := assignEach_len (env := env) elts [x, y] hn
  rw [arm_assign_Tuple]
  refine wpAny_bind (wpAny_standAt ?_)
  unfold unpack
  rw [q1, q2]
  refine wpAny_bind (wpAny_holding (unpack2 hA.1 (IsL.isList hl) fun h' hx => ?_))
  have kp := extBut_size hx
  have X' : Ext μ₁ s₁ μ₁ { s₁ with heap := h' } := Ext.grow (tk := s₁.toks) kp
  have V₁ := V.ext X R
  exact wpAny_inOrder (fun _ w => w) elts [x, y] [ua, ub] [v1, v2] ρ E _ μ₁ _ hn (fun z hz => StOk.own (by rw [Env.kindOf, hsc]; exact hk z hz)) (V₁.ext X' R₁) (R₁.grow kp) (X'.vrs R₁ hvs) rfl
    fun s₂ X₂ R₂ V₂ => ⟨.next, _, H₁, μ₁, ((X.trans X').toS (V.ownOut R)).trans X₂, R₂, V₂, rfl, q⟩
end
end
section
theorem ratV_divInt (x l : Int) : Rat.divInt x l = (x : Rat) * (l : Rat)⁻¹ := by rw [Rat.divInt_eq_div, Rat.div_def]
theorem dflats (es : PL) : Flats (pE es) := fun e he => by
  obtain ⟨x, _, rfl⟩ := List.mem_map.mp he
  exact ⟨[x.2.num, (x.2.den : Int)], rfl⟩
theorem poly_one {n a : Nat} (hna : NA n a) (q : Rat) : polyOf n a [q] = dOf (zr n) q := by
  unfold polyOf polyL dOf
  rw [polyL]
  show (if q = 0 then [] else [(key n a 0, q)]) = _
  rw [key_zero hna]
theorem biL_bd {b : Nat} {xs : List Int} (h : BiL b xs) : BdL b (rc xs) := fun q hq => by
  obtain ⟨x, hx, rfl⟩ := List.mem_map.mp hq
  exact ⟨by simpa using h x hx, by unfold Bi; simp; exact Nat.one_le_two_pow⟩
section
variable {G : Gh} {k : Nat} {sc : Scope} {ρ : Rho} {H : MH} {Q : V → MH → Prop}
theorem law_end (P : Pr G) {n a i1 ia ib b s bt : Nat} {c : Int} {ns A B T d : List Int} {l : Int} {ρ : Rho} {Q : Fl → Rho → MH → Prop} (h : ∀ ρ H, Q (.ret (.bool true)) ρ H) (hna : NA n a)
    (l1 : look ρ "one" = some (.loc i1)) (l2 : look ρ "box" = some (.loc b)) (l3 : look ρ "n" = some (.int (n : Int))) (l4 : look ρ "at" = some (.int (a : Int))) (l5 : look ρ "a" = some (.loc ia)) (l6 : look ρ "b" = some (.loc ib))
    (hb : Bx H b s c ns) (h0 : 0 ≤ c) (h1 : c ≤ 1000) (hi : H[i1]? = some (.list (T.map .int))) (hT : T = d ++ [l]) (hl : l ≠ 0) (hTl : T.length ≤ 50) (hbt : BiL bt T) (hbt8 : bt ≤ 8000) (hib : i1 ≠ b)
    (ha : DictAt H ia (pE (polyOf n a (rc A)))) (hbb : DictAt H ib (pE (polyOf n a (rc B)))) (tA : TrimI A) (tB : TrimI B) (nA : A ≠ []) (nB : B ≠ []) (lA : A.length ≤ 4) (lB : B.length ≤ 4) (bA : BiL 5 A) (bB : BiL 5 B)
    (g1 : Idl (cf (rc A)) (cf (rc B)) (cf (rc T))) (g2 : Idl (cf (rc T)) (cf (rc T)) (cf (rc A))) (g3 : Idl (cf (rc T)) (cf (rc T)) (cf (rc B))) :
    TS G (k + 14) (sI 60) ((bI 60).drop 6) ρ H Q := by
  have hn := na_n hna
  have hn2 : n ≤ 2 := by (first | lia | omega)
  have hlr := rc_ne hl
  -- what is due
  have eD : (T.map fun x => ratV (Rat.divInt x l)) = ((rc d).map (· * (l : Rat)⁻¹) ++ [1]).map ratV := by
    rw [hT, List.map_append, List.map_append]
    congr 1
    · simp only [rc, List.map_map]
      exact List.map_congr_left fun x _ => by simp only [Function.comp]; rw [ratV_divInt]
    · simp only [List.map_cons, List.map_nil]
      rw [ratV_divInt, Rat.mul_inv_cancel _ hlr]
  have eD2 : (rc T).map (· * (l : Rat)⁻¹) = (rc d).map (· * (l : Rat)⁻¹) ++ [1] := by
    rw [hT]; simp [rc, Rat.mul_inv_cancel _ hlr]
  generalize hD : (rc d).map (· * (l : Rat)⁻¹) = D at eD eD2
  have d1 : Idl (cf (rc A)) (cf (rc B)) (cf (D ++ [1])) := by rw [← eD2, cf_scale]; exact .smul _ g1
  have dT : Idl (cf (D ++ [1])) (cf (D ++ [1])) (cf (rc T)) := by rw [cf_unscale (qs := rc T) (inv_ne hlr), eD2]; exact .smul _ .l
  have d2 := Idl.trans dT dT g2
  have d3 := Idl.trans dT dT g3
  have uniq : ∀ e : List Rat, Idl (cf (rc A)) (cf (rc B)) (cf (e ++ [1])) → Idl (cf (e ++ [1])) (cf (e ++ [1])) (cf (rc A)) → Idl (cf (e ++ [1])) (cf (e ++ [1])) (cf (rc B)) → e ++ [1] = D ++ [(1 : Rat)] := fun e i1 i2 i3 =>
    monic_unique (Idl.trans i2 i3 d1) (Idl.trans d2 d3 i1)
  have hDl : D.length + 1 = T.length := by rw [← hD, hT]; simp
  have TA := tA.rc
  have TB := tB.rc
  have nA' : rc A ≠ [] := by simpa [rc] using nA
  have nB' : rc B ≠ [] := by simpa [rc] using nB
  have lA' : (rc A).length ≤ 4 := by simpa [rc] using lA
  have lB' : (rc B).length ≤ 4 := by simpa [rc] using lB
  refine TS_cons ?_
  first
    | refine TX_AssignSw (names := ["due", "way", "number"]) (by decide +kernel) ?_
    | refine TX_AssignT (names := ["due", "way", "number"]) rfl (by decide +kernel) ?_
  repeat tm_at "e"
  refine lmonic_ct P (k := k + 12) hi hT hl (hbt l (by rw [hT]; simp)) (by (first | lia | omega)) hTl fun rd H₁ p1 rl1 hd => ?_
  rw [eD] at hd
  repeat tm_at "e"
  refine take_ct P (k := k + 13) (hb.pre p1) h0 h1 (by decide) fun way H₂ w0 w3 b2 k2 => ?_
  repeat tm_at "e"
  refine ⟨lim_ok rfl, ?_⟩
  repeat tm_at "e"
  have hbl : b < H.length := (List.getElem?_eq_some_iff.mp hb.1).1
  have keepD : ∀ {x : Nat} {es : Ent}, DictAt H x es → DictAt H₂ x es := fun {x es} ⟨ep, e⟩ => ⟨ep, k2.2 _ _ (fun q => by rw [q, hb.1] at e; cases e) (pre_get p1 e)⟩
  have ha2 := keepD ha
  have hb2 := keepD hbb
  have hd2 := k2.2 _ _ (by (first | lia | omega)) hd
  clear keepD k2 b2 p1 hd ha hbb hb hi
  have e53 : V.tup [V.int 5, V.int 3] = ratV (5 / 3 : Rat) := by
    have h1 : (5 / 3 : Rat).num = 5 := by decide +kernel
    have h2 : (5 / 3 : Rat).den = 3 := by decide +kernel
    show _ = V.tup [V.int (5 / 3 : Rat).num, V.int ((5 / 3 : Rat).den : Int)]
    rw [h1, h2]; rfl
  have n53 : (5 / 3 : Rat) ≠ 0 := by decide +kernel
  rw [e53]
  refine mvnumber_ct P (k := k + 12) hn2 fun rn H₃ F3 => ?_
  rw [dOf_ne n53] at F3
  repeat tm_at "e"
  refine ⟨lim_ok rfl, _, rfl, rfl, ?_⟩
  simp only [List.reverse_cons, List.reverse_nil, List.nil_append, List.cons_append, bindN]
  have a3 := ha2.mono F3.1
  have b3 := hb2.mono F3.1
  have d3' := pre_get F3.1 hd2
  have num3 := F3.at
  clear F3 ha2 hb2 hd2
  refine TS_cons ?_
  have hlpa := polyL_len (n := n) (a := a) (rc A) 0
  have hlpb := polyL_len (n := n) (a := a) (rc B) 0
  have minA : ∀ D : Nat → Int, min (lastL n fun _ => 0) (lastL n D) < 0 := fun D => by rw [lastL_zero]; (first | lia | omega)
  have minB : ∀ D : Nat → Int, min (lastL n D) (lastL n fun _ => 0) < 0 := fun D => by rw [lastL_zero]; (first | lia | omega)
  have e11 : V.tup [V.int 1, V.int 1] = ratV 1 := rfl
  have hone : pE (dOf (zr n) 1) = pE (dOf (List.replicate n 0) 1) := rfl
  repeat tm_at "e"
  refine mvgcd_min P (k := k + 11) (D := fun _ => 0) (D' := degs (rc A) a) hn num3 a3 (by (first | exact get_new | simp)) (poly_ne TA nA') (lim_ok rfl) (by unfold polyOf; simp only [lim]; (first | lia | omega)) (by (first | exact get_new | simp)) poly_klen (max_zr n _) (poly_maxs hna TA nA') (minA _) fun r1 H₄ F4 => ?_
  repeat tm_at "e"
  refine ⟨lim_ok rfl, ?_⟩
  repeat tm_at "e"
  rw [e11]
  refine mvnumber_ct P (k := k + 12) hn2 fun r2 H₅ F5 => ?_
  obtain ⟨ep4, x4⟩ := F4.at
  obtain ⟨ep5, x5⟩ := F5.at
  repeat tm_at "e"
  refine PB_dne (pre_get F5.1 x4) x5 (dflats _) ?_
  refine ⟨false, rfl, ?_⟩
  rw [if_neg Bool.false_ne_true]
  have p5 := F4.1.trans F5.1
  clear x4 x5 ep4 ep5
  repeat tm_at "e"
  refine mvgcd_min P (k := k + 11) (D := degs (rc B) a) (D' := fun _ => 0) hn (b3.mono p5) (num3.mono p5) (poly_ne TB nB') (by (first | exact get_new | simp)) (by unfold polyOf; simp only [lim]; (first | lia | omega)) (lim_ok rfl) poly_klen (by (first | exact get_new | simp)) (poly_maxs hna TB nB') (max_zr n _) (minB _) fun r3 H₆ F6 => ?_
  repeat tm_at "e"
  refine ⟨lim_ok rfl, ?_⟩
  repeat tm_at "e"
  rw [e11]
  refine mvnumber_ct P (k := k + 12) hn2 fun r4 H₇ F7 => ?_
  obtain ⟨ep4, x4⟩ := F6.at
  obtain ⟨ep5, x5⟩ := F7.at
  repeat tm_at "e"
  refine PB_dne (pre_get F7.1 x4) x5 (dflats _) ?_
  refine ⟨false, rfl, ?_⟩
  rw [if_neg Bool.false_ne_true]
  have p7 := p5.trans (F6.1.trans F7.1)
  clear x4 x5 ep4 ep5
  repeat tm_at "e"
  rw [if_neg Bool.false_ne_true]
  repeat tm_at "e"
  have a7 := a3.mono p7
  have b7 := b3.mono p7
  have d7 := pre_get p7 d3'
  have hD50 : (D ++ [1]).length ≤ 50 := by simp; (first | lia | omega)
  by_cases hw : way < 2
  · first | refine if_T hw ?_ | rw [decide_eq_true hw, if_pos rfl]
    have cmp : ∀ (r : Nat) (H' : MH) (e : List Rat) (K : V → MH → Prop), (∀ H, K (.bool true) H) → Fresh H₇ H' r (pE (polyOf n a (e ++ [1]))) → e ++ [1] = D ++ [(1 : Rat)] → TE G (k + 14) (sI 60) (match (nth (kid (nth (bI 60) 8)) 0) with | .Return (some (.Compare _ _ (x :: _) _)) _ => x | _ => .Constant .none 0 ⟨0, 0, 0, 0⟩) (upd (Str.ofString "due") (V.loc rd) (upd (Str.ofString "way") (V.int way) (upd (Str.ofString "number") (V.loc rn) ρ))) H' fun v H'' => PBin G (k + 14) (compareOp .Eq) (.loc r) v H'' K := by
      intro r H' e K hK F he
      show TE G (k + 14) (sI 60) (.Call (.Name _ _) _ _ _) _ _ _
      tm_at "e"
      repeat tm_at "e"
      refine poly_ct P (k := k + 12) hna (pre_get F.1 d7) hD50 fun r' H'' F' => ?_
      repeat tm_at "e"
      rw [he] at F
      obtain ⟨ep4, x4⟩ := F.at
      obtain ⟨ep5, x5⟩ := F'.at
      exact PB_deq (pre_get F'.1 x4) x5 (dflats _) (hK _)
    tm_at "e"
    tm_at "e"
    tm_at "e"
    repeat tm_at "e"
    by_cases hw0 : way = 0
    · first | refine if_T hw0 ?_ | rw [decide_eq_true hw0, if_pos rfl]
      repeat tm_at "e"
      refine mvgcd_poly P (k := k + 1) hna a7 b7 TA TB nA' nB' lA' lB' (biL_bd bA) (biL_bd bB) fun r H' e F i1 i2 i3 => ?_
      exact cmp r H' e _ (fun H => h _ H) F (uniq e i1 i2 i3)
    · first | refine if_F hw0 ?_ | rw [decide_eq_false hw0, if_neg Bool.false_ne_true]
      repeat tm_at "e"
      refine mvgcd_poly P (k := k + 1) hna b7 a7 TB TA nB' nA' lB' lA' (biL_bd bB) (biL_bd bA) fun r H' e F i1 i2 i3 => ?_
      exact cmp r H' e _ (fun H => h _ H) F (uniq e i1.swap i3 i2)
  · first | refine if_F hw ?_ | rw [decide_eq_false hw, if_neg Bool.false_ne_true]
    repeat tm_at "e"
    refine by_letter_ct P (k := k + 12) hna a7 TA nA' (by (first | lia | omega)) fun ra H₈ F8 => ?_
    repeat tm_at "e"
    refine by_letter_ct P (k := k + 12) hna (b7.mono F8.1) TB nB' (by (first | lia | omega)) fun rb H₉ F9 => ?_
    repeat tm_at "e"
    refine rgcd_ct P (k := k + 3) hn (F8.2.2.mono F9.1) F9.2.2 TA TB nA' nB' lA' lB' (biL_bd bA) (biL_bd bB) fun r H' e F i1 i2 i3 bG dl => ?_
    rw [uniq e i1 i2 i3] at F
    have d10 := pre_get (F8.1.trans (F9.1.trans F.1)) d7
    obtain ⟨uu, hu, hr⟩ := F.2.2
    repeat tm_at "e"
    refine TE_ListComp (by decide +kernel) (by decide +kernel) (TI_val ?_)
    tm_at "e"
    simp only [d10]
    refine ⟨⟨_, _, rfl⟩, ?_⟩
    refine loopC_ind emL_mono (fun vs ρ acc H'' => ∃ (ds rs : List Rat) (ws : List V), D ++ [1] = ds ++ rs ∧ vs = rs.map ratV ∧ acc = .list ws ∧ RowsL n H'' ws ds ∧ H' <+: H'' ∧ look ρ "n" = some (.int (n : Int)) ∧ look ρ "at" = some (.int (a : Int))) ?_ ?_ _ _ _ _ ⟨[], D ++ [1], [], rfl, rfl, rfl, trivial, List.prefix_refl _, by tm_at "lk", by tm_at "lk"⟩
    case refine_2 =>
      rintro u vs ρ acc H'' ⟨ds, rs, ws, e1, e2, rfl, g1, g2, m1, m2⟩
      cases rs with
      | nil => cases e2
      | cons q rs =>
        simp only [List.map_cons] at e2
        injection e2 with e2 e3
        subst e2 e3
        refine ⟨pre_get g2 d10, _, rfl, ws, rfl, ?_, ?_⟩
        · rw [g1.len]; have := congrArg List.length e1; simp at this; simp only [lim]; (first | lia | omega)
        repeat tm_at "e"
        refine ⟨lim_ok rfl, ?_⟩
        repeat tm_at "e"
        have q1 := List.prefix_append H'' [O.list [ratV q]]
        refine poly_ct P (k := k + 12) (cs := [q]) hna (by (first | exact get_new | simp)) (by (first | exact get_new | simp)) fun r' H₃ F' => ?_
        rw [poly_one hna] at F'
        exact ⟨ds ++ [q], rs, _, by simp [e1], rfl, rfl, (g1.mono (q1.trans F'.1)).snoc rfl F'.at, g2.trans (q1.trans F'.1), by tm_at "lk", by tm_at "lk"⟩
    rintro ρ' acc H'' ⟨ds, rs, ws, e1, e2, rfl, g1, g2, m1, m2⟩
    have : rs = [] := List.map_eq_nil_iff.mp e2.symm
    subst this
    rw [List.append_nil] at e1; subst e1
    refine ⟨pre_get g2 d10, _, rfl, ?_⟩
    have qq := List.prefix_append H'' [O.list ws]
    have g1' := g1.mono qq
    have hr' := hr.mono (g2.trans qq)
    refine PB_ldeq (us := uu) (ws := ws) (pre_get (g2.trans qq) hu) (by (first | exact get_new | simp)) (by rw [hr.len, g1.len]) (fun x p q hp hq => ?_) (h _ _)
    have hx : x < (D ++ [(1 : Rat)]).length := by rw [← hr.len]; exact (List.getElem?_eq_some_iff.mp hp).1
    obtain ⟨m1, e3, ep1, y1⟩ := hr'.get (t := x) (q := (D ++ [(1 : Rat)])[x]) (by simp [hx])
    obtain ⟨m2, e4, ep2, y2⟩ := g1'.get (t := x) (q := (D ++ [(1 : Rat)])[x]) (by simp [hx])
    rw [hp] at e3; rw [hq] at e4
    exact ⟨m1, m2, _, ep1, ep2, Option.some.inj e3, Option.some.inj e4, y1, y2, dflats _⟩
end
end
section
theorem sixp (j : Nat) : 1 ≤ 5 ^ j := Nat.one_le_pow _ _ (by decide)
-- the bits of the rests
noncomputable def ibs (m : Nat) : Nat := 6 * 5 ^ (4 - m) - 1
theorem ibs_step {r m : Nat} (h : r < m) (hm : m ≤ 4) : ibs m + 4 * (ibs m + 1) ≤ ibs r ∧ ibs m + 4 * (ibs m + 1) ≤ 8000 := by
  have h1 : m = 1 ∨ m = 2 ∨ m = 3 ∨ m = 4 := by (first | lia | omega)
  have h2 : r = 0 ∨ r = 1 ∨ r = 2 ∨ r = 3 := by (first | lia | omega)
  rcases h1 with rfl | rfl | rfl | rfl <;> rcases h2 with rfl | rfl | rfl | rfl <;> first | (first | lia | omega) | decide
theorem ibs_max (m : Nat) : ibs m ≤ 8000 := by
  unfold ibs
  have : 5 ^ (4 - m) ≤ 5 ^ 4 := Nat.pow_le_pow_right (by decide) (by (first | lia | omega))
  (first | lia | omega)
theorem Idl.zero {f g : Nat → Rat} : Idl f g (fun _ => 0) := by
  have := Idl.smul (f := f) (g := g) 0 .l
  simpa using this
theorem cf_nil : cf (rc []) = fun _ => 0 := by funext i; simp [cf, rc]
section
variable {G : Gh} {k : Nat} {sc : Scope} {ρ : Rho} {H : MH} {Q : V → MH → Prop}
theorem law_loop (P : Pr G) {n a i1 i2 ia ib b s : Nat} {c : Int} {ns A B : List Int} {ρ : Rho} {Q : Fl → Rho → MH → Prop} (h : ∀ ρ H, Q (.ret (.bool true)) ρ H) (hna : NA n a)
    (l1 : look ρ "one" = some (.loc i1)) (l0 : look ρ "other" = some (.loc i2)) (l2 : look ρ "box" = some (.loc b)) (l3 : look ρ "n" = some (.int (n : Int))) (l4 : look ρ "at" = some (.int (a : Int))) (l5 : look ρ "a" = some (.loc ia)) (l6 : look ρ "b" = some (.loc ib))
    (hb : Bx H b s c ns) (h0 : 0 ≤ c) (h1 : c ≤ 1000) (hi1 : H[i1]? = some (.list (A.map .int))) (hi2 : H[i2]? = some (.list (B.map .int))) (n1 : i1 ≠ b) (n2 : i2 ≠ b)
    (ha : DictAt H ia (pE (polyOf n a (rc A)))) (hbb : DictAt H ib (pE (polyOf n a (rc B)))) (tA : TrimI A) (tB : TrimI B) (nA : A ≠ []) (nB : B ≠ []) (lA : A.length ≤ 4) (lB : B.length ≤ 4) (bA : BiL 5 A) (bB : BiL 5 B) :
    TS G (k + 14) (sI 60) ((bI 60).drop 5) ρ H Q := by
  have b5 : ∀ m, m ≤ 4 → 5 ≤ ibs m := fun m hm => by
    unfold ibs
    have := sixp (4 - m)
    (first | lia | omega)
  refine TS_cons ?_
  refine TX_WhileJ (fun cn ρ H' => ∃ (S T : List Int) (j1 j2 : Nat), cn = T.length ∧ look ρ "one" = some (.loc j1) ∧ look ρ "other" = some (.loc j2) ∧ look ρ "box" = some (.loc b) ∧ look ρ "n" = some (.int (n : Int)) ∧ look ρ "at" = some (.int (a : Int)) ∧ look ρ "a" = some (.loc ia) ∧ look ρ "b" = some (.loc ib) ∧ H <+: H'
      ∧ H'[j1]? = some (.list (S.map .int)) ∧ H'[j2]? = some (.list (T.map .int)) ∧ j1 ≠ b ∧ j2 ≠ b ∧ TrimI S ∧ S ≠ [] ∧ TrimI T ∧ S.length ≤ 4 ∧ T.length ≤ 4 ∧ BiL (ibs T.length) S ∧ BiL (ibs T.length) T
      ∧ Idl (cf (rc A)) (cf (rc B)) (cf (rc S)) ∧ Idl (cf (rc A)) (cf (rc B)) (cf (rc T)) ∧ Idl (cf (rc S)) (cf (rc T)) (cf (rc A)) ∧ Idl (cf (rc S)) (cf (rc T)) (cf (rc B))) B.length
    ⟨A, B, i1, i2, rfl, l1, l0, l2, l3, l4, l5, l6, List.prefix_refl _, hi1, hi2, n1, n2, tA, nA, tB, lA, lB, fun x hx => (bA x hx).mono (b5 _ lB), fun x hx => (bB x hx).mono (b5 _ lB), .l, .r, .l, .r⟩ ?_
  clear l1 l0 l2 l3 l4 l5 l6
  rintro cn ρ H' ⟨S, T, j1, j2, rfl, l1, l0, l2, l3, l4, l5, l6, p, x1, x2, m1, m2, tS, nS, tT, lS, lT, bS, bT, g1, g2, g3, g4⟩ J hJ hR
  repeat tm_at "e"
  refine ⟨lim_ok rfl, ?_⟩
  have q1 := List.prefix_append H' [O.list []]
  have y1 := pre_get q1 x1
  have y2 := pre_get q1 x2
  have p1 := p.trans q1
  refine PB_lne (xs := T) (ys := []) y2 (by (first | exact get_new | simp)) ?_
  rcases tT with rfl | ⟨d, l, hT, hl⟩
  · simp only [decide_true, Bool.not_true]
    refine ⟨false, rfl, ?_⟩
    rw [if_neg Bool.false_ne_true]
    rw [cf_nil] at g3 g4
    obtain ⟨d, l, hS, hl⟩ := tS.resolve_left nS
    exact law_end P h hna l1 l2 l3 l4 l5 l6 (hb.pre p1) h0 h1 y1 hS hl (by (first | lia | omega)) bS (ibs_max _) m1 (ha.mono p1) (hbb.mono p1) tA tB nA nB lA lB bA bB g1 (Idl.trans .l .zero g3) (Idl.trans .l .zero g4)
  · have hne : T ≠ [] := by rw [hT]; simp
    simp only [hne, decide_false, Bool.not_false]
    refine ⟨true, rfl, ?_⟩
    rw [if_pos rfl]
    have hTl : T.length = d.length + 1 := by rw [hT]; simp
    have sA := (ibs_step (r := 0) (m := T.length) (by (first | lia | omega)) lT).2
    tm_at "e"
    refine TX_AssignSw (names := ["one", "other"]) (by decide +kernel) ?_
    repeat tm_at "e"
    refine lrest_ct P (k := k + 12) y1 y2 tS hT hl bS bT lS sA fun r H₂ R p2 r1 hr tR lR bR e1 e2 => ?_
    repeat tm_at "e"
    refine ⟨lim_ok rfl, _, rfl, rfl, ?_⟩
    simp only [List.reverse_cons, List.reverse_nil, List.nil_append, List.cons_append, bindN]
    repeat tm_at "e"
    have sR := (ibs_step lR lT).1
    have hbl : b < H.length := (List.getElem?_eq_some_iff.mp hb.1).1
    have := pre_len p1
    exact (hJ R.length _ _ lR ⟨T, R, j2, r, rfl, by tm_at "lk", by tm_at "lk", by tm_at "lk", by tm_at "lk", by tm_at "lk", by tm_at "lk", by tm_at "lk", p1.trans p2, pre_get p2 y2, hr, m2, by (first | lia | omega), .inr ⟨d, l, hT, hl⟩, hne, tR, lT, by (first | lia | omega),
      fun x hx => (bT x hx).mono (by (first | lia | omega)), fun x hx => (bR x hx).mono sR, g2, Idl.trans g1 g2 e1, Idl.trans e2 .l g3, Idl.trans e2 .l g4⟩).1
end
end
section
noncomputable abbrev exA : Expr := match nth (bI 60) 4 with | .Assign _ (.ListComp x _ _ _) _ => x | _ => .Constant .none 0 ⟨0, 0, 0, 0⟩
noncomputable abbrev scA : Scope := match nth (bI 60) 4 with | .Assign _ (.ListComp _ _ c _) _ => c | _ => sI 60
theorem ratV_int (x : Int) : ratV (x : Rat) = V.tup [.int x, .int 1] := by
  show V.tup [V.int (x : Rat).num, V.int ((x : Rat).den : Int)] = _
  rw [Rat.num_intCast, Rat.den_intCast]; rfl
section
variable {G : Gh} {k : Nat} {sc : Scope} {ρ : Rho} {H : MH} {Q : V → MH → Prop}
theorem poly_elt (P : Pr G) {n a i : Nat} {X : List Int} {ρ : Rho} (hna : NA n a) (l1 : look ρ "row" = some (.loc i)) (l2 : look ρ "n" = some (.int (n : Int))) (l3 : look ρ "at" = some (.int (a : Int))) (hi : H[i]? = some (.list (X.map .int))) (hX : X.length ≤ 50)
    (h : ∀ r H', Fresh H H' r (pE (polyOf n a (rc X))) → Q (.loc r) H') : TE G (k + 14) (relab scA (sI 60)) exA ρ H Q := by
  show TE G (k + 14) (relab scA (sI 60)) (.Call (.Name _ _) _ _ _) ρ H Q
  tm_at "e"
  tm_at "e"
  refine TE_ListComp (by decide +kernel) (by decide +kernel) (TI_val ?_)
  tm_at "e"
  simp only [hi]
  refine ⟨⟨_, _, rfl⟩, ?_⟩
  refine loopC_ind emL_mono (fun vs ρ acc H₂ => ∃ (ds rs : List Int), X = ds ++ rs ∧ vs = rs.map V.int ∧ acc = .list ((rc ds).map ratV) ∧ H₂ = H) ?_ ?_ _ _ _ _ ⟨[], X, rfl, rfl, rfl, rfl⟩
  case refine_2 =>
    rintro u vs ρ₁ acc H₂ ⟨ds, rs, e1, e2, rfl, rfl⟩
    cases rs with
    | nil => cases e2
    | cons x rs =>
      simp only [List.map_cons] at e2
      injection e2 with e2 e2'
      subst e2 e2'
      refine ⟨hi, _, rfl, _, rfl, by have := congrArg List.length e1; simp [rc] at this ⊢; simp only [lim]; (first | lia | omega), ?_⟩
      repeat tm_at "e"
      refine ⟨lim_ok rfl, ?_⟩
      exact ⟨ds ++ [x], rs, by simp [e1], rfl, by simp [rc, ratV_int], rfl⟩
  rintro ρ₁ acc H₂ ⟨ds, rs, e1, e2, rfl, rfl⟩
  have : rs = [] := List.map_eq_nil_iff.mp e2.symm
  subst this
  rw [List.append_nil] at e1; subst e1
  refine ⟨hi, _, rfl, ?_⟩
  have q1 := List.prefix_append H₂ [O.list ((rc X).map ratV)]
  repeat tm_at "e"
  refine poly_ct P (k := k + 12) (cs := rc X) hna (by (first | exact get_new | simp)) (by simpa [rc] using hX) fun r H' F => ?_
  exact h r H' ⟨q1.trans F.1, Nat.le_trans (pre_len q1) F.2.1, F.2.2⟩
theorem law_polys (P : Pr G) {n a i1 i2 b s : Nat} {c : Int} {ns A B : List Int} {ρ : Rho} {Q : Fl → Rho → MH → Prop} (h : ∀ ρ H, Q (.ret (.bool true)) ρ H) (hna : NA n a)
    (l1 : look ρ "one" = some (.loc i1)) (l0 : look ρ "other" = some (.loc i2)) (l2 : look ρ "box" = some (.loc b)) (l3 : look ρ "n" = some (.int (n : Int))) (l4 : look ρ "at" = some (.int (a : Int)))
    (hb : Bx H b s c ns) (h0 : 0 ≤ c) (h1 : c ≤ 1000) (hi1 : H[i1]? = some (.list (A.map .int))) (hi2 : H[i2]? = some (.list (B.map .int))) (n1 : i1 ≠ b) (n2 : i2 ≠ b)
    (tA : TrimI A) (tB : TrimI B) (nA : A ≠ []) (nB : B ≠ []) (lA : A.length ≤ 4) (lB : B.length ≤ 4) (bA : BiL 5 A) (bB : BiL 5 B) :
    TS G (k + 14) (sI 60) ((bI 60).drop 4) ρ H Q := by
  refine TS_cons ?_
  refine TX_AssignL2 (x := "a") (y := "b") rfl (by decide +kernel) ?_
  refine TE_ListComp (by decide +kernel) (by decide +kernel) (TI_val ?_)
  repeat tm_at "e"
  refine ⟨lim_ok rfl, ?_⟩
  refine ⟨⟨_, _, rfl⟩, ?_⟩
  refine ⟨trivial, _, rfl, _, rfl, lim_ok rfl, ?_⟩
  refine poly_elt P (k := k) hna (by tm_at "lk") (by tm_at "lk") (by tm_at "lk") hi1 (by (first | lia | omega)) fun ra H₁ F1 => ?_
  refine ⟨trivial, _, rfl, _, rfl, lim_ok rfl, ?_⟩
  refine poly_elt P (k := k) hna (by tm_at "lk") (by tm_at "lk") (by tm_at "lk") (pre_get F1.1 hi2) (by (first | lia | omega)) fun rb H₂ F2 => ?_
  refine ⟨trivial, _, rfl, ?_⟩
  have q3 := List.prefix_append H₂ [O.list ([] ++ [V.loc ra] ++ [V.loc rb])]
  refine ⟨_, _, _, rfl, (by simp; exact ⟨rfl, rfl⟩), ?_⟩
  simp only [bindN]
  have p1 := F1.1.trans (F2.1.trans q3)
  exact law_loop P (k := k) h hna (by tm_at "lk") (by tm_at "lk") (by tm_at "lk") (by tm_at "lk") (by tm_at "lk") (by tm_at "lk") (by tm_at "lk") (hb.pre p1) h0 h1 (pre_get p1 hi1) (pre_get p1 hi2) n1 n2 (F1.at.mono (F2.1.trans q3)) (F2.at.mono q3) tA tB nA nB lA lB bA bB
end
end
section
noncomputable abbrev exR : Expr := match nth (bI 60) 2 with | .Assign _ (.ListComp x _ _ _) _ => x | _ => .Constant .none 0 ⟨0, 0, 0, 0⟩
noncomputable abbrev scR : Scope := match nth (bI 60) 2 with | .Assign _ (.ListComp _ _ c _) _ => c | _ => sI 60
section
variable {G : Gh} {k : Nat} {sc : Scope} {ρ : Rho} {H : MH} {Q : V → MH → Prop}
theorem bi5 {v : Int} (h : -18 ≤ v ∧ v ≤ 18) : Bi 5 v := by unfold Bi; (first | lia | omega)
theorem row_elt (P : Pr G) {b s g : Nat} {c : Int} {ns ds : List Int} {M : Nat} {ρ : Rho} (l1 : look ρ "box" = some (.loc b)) (l2 : look ρ "degrees" = some (.loc g)) (hb : Bx H b s c ns) (h0 : 0 ≤ c) (h1 : c ≤ 900) (hg : H[g]? = some (.list (ds.map .int))) (hgb : g ≠ b) (hd : ds.length = 4) (hM : ∀ d ∈ ds, 0 ≤ d ∧ d ≤ (M : Int)) (hM2 : M ≤ 2)
    (h : ∀ r H' X X' c' l, c' ≤ c + 4 → 0 ≤ c' → X = X' ++ [l] → l ≠ 0 → H'[r]? = some (.list (X.map V.int)) → X.length ≤ M + 1 → (∀ x ∈ X, -3 ≤ x ∧ x ≤ 3) → Bx H' b s c' ns → Ke b H H' → H.length ≤ r → Q (.loc r) H') :
    TE G (k + 14) (relab scR (sI 60)) exR ρ H Q := by
  show TE G (k + 14) (relab scR (sI 60)) (.Call (.Name _ _) _ _ _) ρ H Q
  tm_at "e"
  repeat tm_at "e"
  refine row_ct P (k := k + 12) hb h0 h1 hg hgb hd hM hM2 fun r H' R c' l h1 h2 h3 h4 h5 h6 h7 h8 h9 h10 => ?_
  refine h r H' _ R c' l h1 h2 rfl (by (first | lia | omega)) h3 (by simp; (first | lia | omega)) (fun x hx => ?_) h8 h9 h10
  rcases List.mem_append.mp hx with hx | hx
  · exact h5 x hx
  · rw [List.mem_singleton] at hx; (first | lia | omega)
theorem law_rows (P : Pr G) {n a b s : Nat} {c : Int} {ns : List Int} {ρ : Rho} {Q : Fl → Rho → MH → Prop} (h : ∀ ρ H, Q (.ret (.bool true)) ρ H) (hna : NA n a)
    (l2 : look ρ "box" = some (.loc b)) (l3 : look ρ "n" = some (.int (n : Int))) (l4 : look ρ "at" = some (.int (a : Int)))
    (hb : Bx H b s c ns) (h0 : 0 ≤ c) (h1 : c ≤ 100) :
    TS G (k + 14) (sI 60) ((bI 60).drop 2) ρ H Q := by
  have hbl : b < H.length := (List.getElem?_eq_some_iff.mp hb.1).1
  refine TS_cons ?_
  refine TX_AssignLC (by decide +kernel) (by decide +kernel) (by decide +kernel) (TI_val ?_)
  repeat tm_at "e"
  refine ⟨lim_ok rfl, ?_⟩
  repeat tm_at "e"
  refine ⟨lim_ok rfl, ?_⟩
  repeat tm_at "e"
  refine ⟨lim_ok rfl, ?_⟩
  repeat tm_at "e"
  refine ⟨lim_ok rfl, ?_⟩
  refine ⟨⟨_, _, rfl⟩, ?_⟩
  have g1 : ∀ {x y z : O}, (H ++ [x] ++ [y] ++ [z])[H.length]? = some x := by simp
  have g2 : ∀ {x y z : O}, (H ++ [x] ++ [y] ++ [z])[(H ++ [x]).length]? = some y := by simp
  have g3 : ∀ {x y z : O}, (H ++ [x] ++ [y] ++ [z])[(H ++ [x] ++ [y]).length]? = some z := by simp
  have c1 : (H ++ [O.list [V.int 0, V.int 1, V.int 1, V.int 1]])[H.length]? = some (.list ([0, 1, 1, 1].map V.int)) := by simp
  generalize e1 : H ++ [O.list [V.int 0, V.int 1, V.int 1, V.int 1]] = H1 at c1 ⊢
  have q1 : H <+: H1 := e1 ▸ List.prefix_append _ _
  have c2 : (H1 ++ [O.list [V.int 1, V.int 1, V.int 2, V.int 2]])[H1.length]? = some (.list ([1, 1, 2, 2].map V.int)) := by simp
  generalize e2 : H1 ++ [O.list [V.int 1, V.int 1, V.int 2, V.int 2]] = H2 at c2 ⊢
  have q2 : H1 <+: H2 := e2 ▸ List.prefix_append _ _
  have c3 : (H2 ++ [O.list [V.int 0, V.int 1, V.int 1, V.int 2]])[H2.length]? = some (.list ([0, 1, 1, 2].map V.int)) := by simp
  generalize e3 : H2 ++ [O.list [V.int 0, V.int 1, V.int 1, V.int 2]] = H3 at c3 ⊢
  have q3 : H2 <+: H3 := e3 ▸ List.prefix_append _ _
  clear g1 g2 g3 e1 e2 e3
  have r1 := pre_len q1
  have r2 := pre_len q2
  have r3 := pre_len q3
  have hb3 := hb.pre (q1.trans (q2.trans q3))
  refine ⟨trivial, _, rfl, _, rfl, lim_ok rfl, ?_⟩
  refine row_elt P (k := k) (M := 1) (by tm_at "lk") (by tm_at "lk") hb3 h0 (by (first | lia | omega)) (pre_get (q2.trans q3) c1) (by (first | lia | omega)) rfl (by (first | exact get_new | simp)) (by decide) fun i0 H4 X0 X0' c4 x0 f1 f2 f3 f4 f5 f6 f7 b4 k4 f8 => ?_
  refine ⟨trivial, _, rfl, _, rfl, lim_ok rfl, ?_⟩
  have hb3l := pre_len q3
  have gg2 := k4.2 _ _ (by (first | lia | omega)) (pre_get q3 c2)
  have gg3 := k4.2 _ _ (by (first | lia | omega)) c3
  refine row_elt P (k := k) (M := 2) (by tm_at "lk") (by tm_at "lk") b4 f2 (by (first | lia | omega)) gg2 (by (first | lia | omega)) rfl (by (first | exact get_new | simp)) (by decide) fun i1 H5 X1 X1' c5 x1 j1 j2 j3 j4 j5 j6 j7 b5 k5 j8 => ?_
  refine ⟨trivial, _, rfl, _, rfl, lim_ok rfl, ?_⟩
  refine row_elt P (k := k) (M := 2) (by tm_at "lk") (by tm_at "lk") b5 j2 (by (first | lia | omega)) (k5.2 _ _ (by (first | lia | omega)) gg3) (by (first | lia | omega)) rfl (by (first | exact get_new | simp)) (by decide) fun i2 H6 X2 X2' c6 x2 m1 m2 m3 m4 m5 m6 m7 b6 k6 m8 => ?_
  refine ⟨trivial, _, rfl, ?_⟩
  have s4 := k4.1; have s5 := k5.1; have s6 := k6.1
  have y0 := k6.2 _ _ (by (first | lia | omega)) (k5.2 _ _ (by (first | lia | omega)) f5)
  have y1 := k6.2 _ _ (by (first | lia | omega)) j5
  have y2 := m5
  clear gg2 gg3 b4 b5 hb hb3 k4 k5 k6 f5 j5 m5 c1 c2 c3
  simp only [List.nil_append, List.cons_append]
  have q7 := List.prefix_append H6 [O.list [V.loc i0, V.loc i1, V.loc i2]]
  have hr : (H6 ++ [O.list [V.loc i0, V.loc i1, V.loc i2]])[H6.length]? = some (.list [V.loc i0, V.loc i1, V.loc i2]) := by simp
  generalize H6 ++ [O.list [V.loc i0, V.loc i1, V.loc i2]] = H7 at q7 hr ⊢
  have b7 := b6.pre q7
  replace y0 := pre_get q7 y0
  replace y1 := pre_get q7 y1
  replace y2 := pre_get q7 y2
  have s7 := pre_len q7
  refine TS_cons ?_
  first
    | refine TX_AssignSw (names := ["one", "other"]) (by decide +kernel) ?_
    | refine TX_AssignT (names := ["one", "other"]) rfl (by decide +kernel) ?_
  repeat tm_at "e"
  refine PI_list hr (by decide) rfl ?_
  repeat tm_at "e"
  refine PI_list hr (by decide) rfl ?_
  repeat tm_at "e"
  have o0 := congrArg List.length f3
  have o1 := congrArg List.length j3
  have o2 := congrArg List.length m3
  simp at o0 o1 o2
  refine prod_ct P (k := k + 13) y0 y1 f3 j3 (by (first | lia | omega)) (by (first | lia | omega)) f7 j7 fun u1 H8 F1 p8 u2 u3 u4 u5 => ?_
  have hr8 := pre_get p8 hr
  repeat tm_at "e"
  refine PI_list hr8 (by decide) rfl ?_
  repeat tm_at "e"
  refine PI_list hr8 (by decide) rfl ?_
  repeat tm_at "e"
  refine prod_ct P (k := k + 13) (pre_get p8 y0) (pre_get p8 y2) f3 m3 (by (first | lia | omega)) (by (first | lia | omega)) f7 m7 fun v1 H9 F2 p9 v2 v3 v4 v5 => ?_
  have s8 := pre_len p8
  repeat tm_at "e"
  refine ⟨lim_ok rfl, _, rfl, rfl, ?_⟩
  simp only [List.reverse_cons, List.reverse_nil, List.nil_append, List.cons_append, bindN]
  have n1 := Int.mul_ne_zero f4 j4
  have n2 := Int.mul_ne_zero f4 m4
  exact law_polys P (k := k) h hna (by tm_at "lk") (by tm_at "lk") (by tm_at "lk") (by tm_at "lk") (by tm_at "lk") (b7.pre (p8.trans p9)) m2 (by (first | lia | omega)) (pre_get p9 u3) v3 (by (first | lia | omega)) (by (first | lia | omega))
    (.inr ⟨_, _, rfl, n1⟩) (.inr ⟨_, _, rfl, n2⟩) (by (first | exact get_new | simp)) (by (first | exact get_new | simp)) (by simp; (first | lia | omega)) (by simp; (first | lia | omega)) (fun x hx => bi5 (u5 x hx)) (fun x hx => bi5 (v5 x hx))
structure TSW (G : Gh) (k : Nat) (sc : Scope) (b : List Stmt) (ρ : Rho) (H : MH) (Q : Fl → Rho → MH → Prop) : Prop where
  mk ::
  out : TS G k sc b ρ H Q
noncomputable def law1 : List Stmt := (bI 60).drop 1
theorem law_first (P : Pr G) {b s : Nat} {ns : List Int} {ρ : Rho} {Q : Fl → Rho → MH → Prop} (h : ∀ ρ H, Q (.ret (.bool true)) ρ H) (l2 : look ρ "box" = some (.loc b)) (hb : Bx H b s 0 ns) : TSW G (k + 14) (sI 60) law1 ρ H Q := by
  refine TSW.mk ?_
  show TS G (k + 14) (sI 60) (_ :: _) ρ H Q
  refine TS_cons ?_
  show TX G (k + 14) (sI 60) (.Assign [.Tuple _ _ _] (.Subscript _ _ _) _) ρ H _
  refine TX_AssignT (names := ["n", "at"]) (hn := ?_) (hk := ?_) (h := ?_) (hs := ?_) (hw := ?_)
  case refine_1 => rfl
  case refine_2 => decide +kernel
  case refine_4 => intro _; rfl
  case refine_5 => intro env q; cases env; cases q; rfl
  repeat tm_at "e"
  refine ⟨lim_ok rfl, ?_⟩
  repeat tm_at "e"
  refine ⟨lim_ok rfl, ?_⟩
  repeat tm_at "e"
  refine ⟨lim_ok rfl, ?_⟩
  repeat tm_at "e"
  refine ⟨lim_ok rfl, ?_⟩
  repeat tm_at "e"
  refine ⟨lim_ok rfl, ?_⟩
  repeat tm_at "e"
  have q1 := List.prefix_append H [O.list [V.tup [V.int 1, V.int 0], V.tup [V.int 2, V.int 0], V.tup [V.int 2, V.int 1], V.tup [V.int 2, V.int 0]]]
  have hbl : b < H.length := (List.getElem?_eq_some_iff.mp hb.1).1
  refine take_ct P (k := k + 13) (hb.pre q1) (by decide) (by decide) (by decide) fun v H2 v0 v4 b2 k2 => ?_
  have hx := k2.2 H.length (O.list [V.tup [V.int 1, V.int 0], V.tup [V.int 2, V.int 0], V.tup [V.int 2, V.int 1], V.tup [V.int 2, V.int 0]]) (by (first | lia | omega)) (by (first | exact get_new | simp))
  obtain ⟨n, a, hna, hv⟩ : ∃ n a : Nat, NA n a ∧ [V.tup [V.int 1, V.int 0], V.tup [V.int 2, V.int 0], V.tup [V.int 2, V.int 1], V.tup [V.int 2, V.int 0]][v.toNat]? = some (V.tup [V.int (n : Int), V.int (a : Int)]) := by
    have : v = 0 ∨ v = 1 ∨ v = 2 ∨ v = 3 := by (first | lia | omega)
    rcases this with rfl | rfl | rfl | rfl
    · exact ⟨1, 0, .inl ⟨rfl, rfl⟩, rfl⟩
    · exact ⟨2, 0, .inr (.inl ⟨rfl, rfl⟩), rfl⟩
    · exact ⟨2, 1, .inr (.inr ⟨rfl, rfl⟩), rfl⟩
    · exact ⟨2, 0, .inr (.inl ⟨rfl, rfl⟩), rfl⟩
  refine PI_list hx v0 hv ?_
  refine ⟨_, rfl, rfl, ?_⟩
  simp only [bindN]
  exact law_rows P (k := k) h hna (by tm_at "lk") (by tm_at "lk") (by tm_at "lk") b2 (by decide) (by decide)
end
end
section
section
variable {G : Gh} {k : Nat} {sc : Scope} {ρ : Rho} {H : MH} {Q : V → MH → Prop}
theorem TX.mono {b : Stmt} {Q Q' : Fl → Rho → MH → Prop} (h : TX G k sc b ρ H Q) (hq : ∀ f ρ H, Q f ρ H → Q' f ρ H) : TX G k sc b ρ H Q' :=
  fun env A E s μ hs hA V R => wpAny_mono (h env A E s μ hs hA V R) (fun f s' ⟨fl, ρ', H', μ', X, R', V', hf, q⟩ => ⟨fl, ρ', H', μ', X, R', V', hf, hq _ _ _ q⟩) fun _ _ e => e
theorem TS_uncons {l l' : List Stmt} {Q : Fl → Rho → MH → Prop} (hl : nth l 0 :: l' = l) (h : TX G k sc (nth l 0) ρ H fun fl ρ' H' => match fl with | .next => TSW G k sc l' ρ' H' Q | fl => Q fl ρ' H') : TS G k sc l ρ H Q := by
  have := TS_cons (b := l') (TX.mono h fun fl ρ' H' q => by cases fl with
    | next => exact q.out
    | _ => exact q)
  rwa [hl] at this
theorem law1_eq : nth (bI 60) 0 :: law1 = bI 60 := rfl
theorem law_top (P : Pr G) {ns : List Int} {Q : Fl → Rho → MH → Prop} (h : ∀ ρ H, Q (.ret (.bool true)) ρ H) : TS G (k + 14) (sI 60) (bI 60) [("script", .base (ns.map V.int))] [] Q := by
  refine TS_uncons law1_eq ?_
  show TX G (k + 14) (sI 60) (.Assign [.Name _ _] (.List _ _) _) _ _ _
  tm_at "e"
  tm_at "e"
  tm_at "e"
  repeat tm_at "e"
  refine ⟨_, rfl, PSl_base (by decide) ?_⟩
  repeat tm_at "e"
  refine CB_list (l := (ns.map V.int).take (24 : Int).toNat) (by (first | exact get_new | simp)) ?_
  tm_at "e"
  tm_at "e"
  tm_at "e"
  refine ⟨lim_ok rfl, ?_⟩
  dsimp only
  generalize e : ([] ++ [O.list ((ns.map V.int).take (24 : Int).toNat)] ++ [O.list ((ns.map V.int).take (24 : Int).toNat)] ++ [O.list [V.loc (List.length ([] ++ [O.list ((ns.map V.int).take (24 : Int).toNat)])), V.int 0]] : MH) = H0
  have hb : Bx H0 2 1 0 (ns.take 24) := by rw [← e]; exact ⟨rfl, by simp [List.map_take], by decide⟩
  refine law_first P (k := k) (b := 2) (s := 1) (ns := ns.take 24) h ?_ hb
  exact lu_hit
end
end
end Mine
section
namespace Mine
-- the statements of the text but its names of modules
noncomputable def keepL : List Nat := [1, 3, 4, 5, 6, 8, 9, 11, 12, 13, 14, 15, 16, 17, 18, 19, 20, 22, 23, 24, 25, 26, 27, 28, 29, 30, 31, 32, 33, 34, 35, 36, 38, 39, 40, 41, 42, 44, 45, 46, 47, 48, 49, 50, 51, 53, 54, 55, 56, 57, 58, 59, 60]
noncomputable def qv : Program := view PySem.Challenge.pw_rh0031_01 keepL
-- what is seen of R0, R1
noncomputable def twoAt (s : Shared) (x : Str) : Option Obj := (s.heap.nsMap mainGlobals x).bind fun v => match v with | .ref a => s.heap.get? a | _ => none
noncomputable def obsR (s : Shared) : Bool × Option Obj × Option Obj := (s.heap.isNs mainGlobals, twoAt s "R0", twoAt s "R1")
noncomputable def pairO (x y : Int) (t u : Tok) : Obj := { cls := .type "tuple", dict := none, data := .seq #[.int x t, .int y u] 0, slots := #[] }
noncomputable def SaysR (h : Heap) : Prop := ∃ mg, h.Ns mainGlobals mg ∧ (∃ a, mg "R0" = some (.ref a) ∧ h.get? a = some (pairO 0 1 272 273)) ∧ ∃ a, mg "R1" = some (.ref a) ∧ h.get? a = some (pairO 1 1 275 276)
theorem two_of {s : Shared} {x : Str} {o : Obj} (h : twoAt s x = some o) : ∃ a, s.heap.nsMap mainGlobals x = some (.ref a) ∧ s.heap.get? a = some o := by
  unfold twoAt at h
  obtain ⟨v, hv, h⟩ := Option.bind_eq_some_iff.mp h
  cases v with
  | ref a => exact ⟨a, hv, h⟩
  | _ => cases h
noncomputable def hookR : Hook where
  α := Bool × Option Obj × Option Obj
  obs := obsR
  val := fun _ => (true, some (pairO 0 1 272 273), some (pairO 1 1 275 276))
  says := fun _ h => SaysR h
  of := fun w s e => by
    have e1 := congrArg (·.1) e
    have e2 := congrArg (·.2.1) e
    have e3 := congrArg (·.2.2) e
    exact ⟨_, Heap.Ns.of_isNs e1, two_of e2, two_of e3⟩
  keeps := fun w h h' ⟨mg, g, ⟨a, a1, a2⟩, b, b1, b2⟩ hk => ⟨mg, g.keeps hk, ⟨a, a1, hk _ _ a2⟩, b, b1, hk _ _ b2⟩
theorem said : PySem.Challenge.rw_rh0031_01.wellSaid = true := (congrFun PySem.W.Fast.te9446332074065402090 _).trans (by kernel_rfl)
-- the run of the top, by the library's quick twins
noncomputable abbrev runW (w : World) : Option Shared := openEnds treeTable PySem.Challenge.pw_rh0031_01 w 3606
theorem run1 (w : World) : (runW w).map (fun s => seen ((recsOf qv).map (·.name)) (ownsOf qv) [] { s with gens := #[] }) = some (expectedOf qv) := by
  unfold runW openEnds fencedOpening topFrom expectedOf
  rw [PySem.W.Fast.te10274390034422433532, PySem.W.Fast.te14082659384304107361, PySem.W.Fast.te14364793385576792824, PySem.W.Fast.te14289696077712309145, PySem.W.Fast.te1435165496053646825, PySem.W.Fast.te5160383126252970620, PySem.W.Fast.te3399658132070893891, PySem.W.Fast.te5991557255702980513]
  kernel_rfl
theorem run2 (w : World) : (runW w).map (fun s => (s.heap.bltView, xlAt qv [] s && recOk [] s, s.gens.size == 0, pinSeenD qv (drecsOf qv) s, plainSeenD qv [] s, clsSeenW qv [] s, hookR.obs s)) = some (bltViewBooted, true, true, pinGoodD (drecsOf qv), plainGoodD qv [], clsGoodW qv [], hookR.val w) := by
  unfold runW openEnds fencedOpening topFrom pinGoodD plainGoodD clsGoodW
  rw [PySem.W.Fast.te10274390034422433532, PySem.W.Fast.te14082659384304107361, PySem.W.Fast.te14364793385576792824, PySem.W.Fast.te14289696077712309145, PySem.W.Fast.te1435165496053646825, PySem.W.Fast.te16090120013241838585, PySem.W.Fast.te11698064438423848299, PySem.W.Fast.te7369524293546568484, PySem.W.Fast.te3247288618530077131]
  kernel_rfl
theorem run3 (w : World) : (runW w).map (fun s => s.heap.keysOk (looseW qv []) ((recsOf qv).map (·.name)) ((litsOf qv).map (·.1)) ((clssOf qv (looseW qv [])).map (·.name)) && s.heap.accountedOkI (importedModules PySem.Challenge.pw_rh0031_01.main.body) && s.heap.isNs mainGlobals && s.heap.isNs builtinsNs && tablesOk qv s.heap) = some true := by
  unfold runW openEnds fencedOpening topFrom
  rw [PySem.W.Fast.te10274390034422433532, PySem.W.Fast.te14082659384304107361, PySem.W.Fast.te14364793385576792824, PySem.W.Fast.te14289696077712309145, PySem.W.Fast.te1435165496053646825, PySem.W.Fast.te10880121769531294198, PySem.W.Fast.te14722251495701143533, PySem.W.Fast.te10994771534591457954, PySem.W.Fast.te3399658132070893891, PySem.W.Fast.te13664370479719496447, PySem.W.Fast.te821141287760084731, PySem.W.Fast.te7409074990110511671]
  kernel_rfl
theorem run4 (w : World) : (runW w).map (fun s => tabsOk qv s) = some true := by
  unfold runW openEnds fencedOpening topFrom
  rw [PySem.W.Fast.te10274390034422433532, PySem.W.Fast.te14082659384304107361, PySem.W.Fast.te14364793385576792824, PySem.W.Fast.te14289696077712309145, PySem.W.Fast.te1435165496053646825, PySem.W.Fast.te479339242167458305]
  kernel_rfl
theorem run5 (w : World) : (runW w).map (fun s => (plainSeenE qv (looseW qv []) s, wideSeen qv s)) = some (plainGoodE qv (looseW qv []), wideGood qv) := by
  unfold runW openEnds fencedOpening topFrom plainGoodE wideGood
  rw [PySem.W.Fast.te10274390034422433532, PySem.W.Fast.te14082659384304107361, PySem.W.Fast.te14364793385576792824, PySem.W.Fast.te14289696077712309145, PySem.W.Fast.te1435165496053646825, PySem.W.Fast.te2386780881361962483, PySem.W.Fast.te7317090234206586261, PySem.W.Fast.te821141287760084731]
  kernel_rfl
theorem left : LeftO PySem.Challenge.pw_rh0031_01 qv [] (fun s => xlAt qv [] s && recOk [] s) hookR.obs hookR.val 3606 := fun w => by
  obtain ⟨s, hs, h1⟩ := Option.map_eq_some_iff.mp (run1 w)
  have h2 := run2 w
  have h3 := run3 w
  have h4 := run4 w
  have h5 := run5 w
  rw [hs, Option.map_some] at h2 h3 h4 h5
  have h2 := Option.some.inj h2
  have h3 := Option.some.inj h3
  have h4 := Option.some.inj h4
  have h5 := Option.some.inj h5
  have a1 := congrArg (·.1) h2
  have a2 := congrArg (·.2.1) h2
  have a3 := congrArg (·.2.2.1) h2
  have a4 := congrArg (·.2.2.2.1) h2
  have a5 := congrArg (·.2.2.2.2.1) h2
  have a6 := congrArg (·.2.2.2.2.2.1) h2
  have a7 := congrArg (·.2.2.2.2.2.2) h2
  have b1 := congrArg (·.1) h5
  have b2 := congrArg (·.2) h5
  clear h2 h5
  show (runW w).map _ = _
  rw [hs, Option.map_some]
  refine congrArg some ?_
  refine Prod.ext ?_ a7
  unfold openSeen openGood
  refine Prod.ext h1 (Prod.ext a1 (Prod.ext ?_ (Prod.ext h4 (Prod.ext a4 (Prod.ext b1 (Prod.ext a5 (Prod.ext b2 a6)))))))
  show (_ && _ && _) = true
  exact look_both (look_both h3 a2) a3
end Mine

end

section
namespace Mine
noncomputable def mkD (i : Nat) : DefRec := match stI i with | .FunctionDef n p b _ _ _ s _ _ q => ⟨n, p, b, s, q⟩ | _ => ⟨"", pI i, [], sI i, ⟨0, 0, 0, 0⟩⟩
noncomputable def idxs : List Nat := [3, 4, 5, 6, 8, 9, 14, 15, 16, 17, 18, 19, 20, 22, 23, 24, 25, 26, 27, 28, 29, 30, 31, 32, 33, 34, 35, 36, 40, 41, 42, 44, 45, 46, 47, 48, 49, 50, 51, 53, 54, 55, 56, 57, 58, 59, 60]
theorem recs_eq : recsOf qv = idxs.map mkD := by kernel_rfl!
section
variable {loose : List Str} {mean : ExcName → Option Value} {mg mb : Str → Option Value} {h : Heap} {prog : Program} {w : World}
theorem fn_all (T : Top qv loose mean mg mb h) {i : Nat} (hi : i ∈ idxs) : FnAt ⟨prog, w, h, mg, mb⟩ (mkD i).name (mkD i).params (mkD i).body (mkD i).scope :=
  ⟨T.fn (mkD i) (by rw [recs_eq]; exact List.mem_map_of_mem hi)⟩
theorem vr_pair {hb h' : Heap} {μ : List Addr} {a : Addr} {x y : Int} {t u : Tok} {n : Nat} (e : h'.get? a = some { cls := .type "tuple", dict := none, data := .seq #[.int x t, .int y u] n, slots := #[] }) : VR hb μ h' (.tup [.int x, .int y]) (.ref a) := by
  rw [VR]
  refine ⟨a, #[.int x t, .int y u], n, rfl, e, by simp [lim], ?_⟩
  rw [VRs]
  refine ⟨_, _, rfl, by rw [VR]; exact ⟨t, rfl⟩, ?_⟩
  rw [VRs]
  refine ⟨_, _, rfl, by rw [VR]; exact ⟨u, rfl⟩, ?_⟩
  rw [VRs]
theorem pr_of (T : Top qv loose mean mg mb h)
    (nb : ∀ x ∈ (["abs", "len", "enumerate", "max", "min", "any", "tuple", "list", "dict", "range"] : List Str), mg x = none)
    (r0 : ∃ v, mg "R0" = some v ∧ ∀ μ h', (∀ (a : Addr) (o : Obj), h.get? a = some o → h'.get? a = some o) → VR h μ h' (.tup [.int 0, .int 1]) v)
    (r1 : ∃ v, mg "R1" = some v ∧ ∀ μ h', (∀ (a : Addr) (o : Obj), h.get? a = some o → h'.get? a = some o) → VR h μ h' (.tup [.int 1, .int 1]) v)
    (m1 : ∃ t, mg "MOST_BITS" = some (.int 200000 t)) (m2 : ∃ t, mg "MOST_FAR" = some (.int 20000 t)) (m3 : ∃ t, mg "MOST_WORK" = some (.int 3000000 t)) : Pr ⟨prog, w, h, mg, mb⟩ where
  ok := ⟨T.g, T.b, T.nolimit, T.builtins⟩
  nb := nb
  gcd := fn_all T (i := 8) (by decide)
  bits := fn_all T (i := 9) (by decide)
  rat := fn_all T (i := 14) (by decide)
  radd := fn_all T (i := 15) (by decide)
  rmul := fn_all T (i := 16) (by decide)
  rdiv := fn_all T (i := 17) (by decide)
  rneg := fn_all T (i := 18) (by decide)
  rinv := fn_all T (i := 19) (by decide)
  vast := fn_all T (i := 20) (by decide)
  mvterm := fn_all T (i := 22) (by decide)
  mvnumber := fn_all T (i := 23) (by decide)
  mvadd := fn_all T (i := 24) (by decide)
  add_term := fn_all T (i := 25) (by decide)
  mvneg := fn_all T (i := 26) (by decide)
  mvsub := fn_all T (i := 27) (by decide)
  mvscale := fn_all T (i := 28) (by decide)
  mvshift := fn_all T (i := 29) (by decide)
  mvmul := fn_all T (i := 30) (by decide)
  mvlead := fn_all T (i := 31) (by decide)
  mvmonic := fn_all T (i := 32) (by decide)
  degree_in := fn_all T (i := 33) (by decide)
  last_letter := fn_all T (i := 34) (by decide)
  by_letter := fn_all T (i := 35) (by decide)
  from_letter := fn_all T (i := 36) (by decide)
  first_divisor := fn_all T (i := 40) (by decide)
  mvdivide := fn_all T (i := 41) (by decide)
  mvexact := fn_all T (i := 42) (by decide)
  trimmed := fn_all T (i := 44) (by decide)
  pseudo := fn_all T (i := 45) (by decide)
  content := fn_all T (i := 46) (by decide)
  primitive := fn_all T (i := 47) (by decide)
  mvcontent := fn_all T (i := 48) (by decide)
  monic := fn_all T (i := 49) (by decide)
  rgcd := fn_all T (i := 50) (by decide)
  mvgcd := fn_all T (i := 51) (by decide)
  okey := fn_all T (i := 3) (by decide)
  product := fn_all T (i := 4) (by decide)
  divide := fn_all T (i := 5) (by decide)
  quotient := fn_all T (i := 6) (by decide)
  take := fn_all T (i := 53) (by decide)
  row := fn_all T (i := 54) (by decide)
  prod := fn_all T (i := 55) (by decide)
  shared := fn_all T (i := 56) (by decide)
  rest := fn_all T (i := 57) (by decide)
  lmonic := fn_all T (i := 58) (by decide)
  poly := fn_all T (i := 59) (by decide)
  law := fn_all T (i := 60) (by decide)
  r0 := r0
  r1 := r1
  mbits := m1
  mfar := m2
  mwork := m3
end
theorem vrs_ints {hb : Heap} {μ : List Addr} {h : Heap} {vs : List Value} {ns : List Int} (x : IntsAre vs ns) : VRs hb μ h (ns.map V.int) vs := by
  induction x with
  | nil => rw [List.map_nil, VRs]
  | cons n t _ ih => rw [List.map_cons, VRs]; exact ⟨_, _, rfl, by rw [VR]; exact ⟨t, rfl⟩, ih⟩
theorem law_ct {G : Gh} {k : Nat} (P : Pr G) {ns : List Int} {Q : V → MH → Prop} (h : ∀ H, Q (.bool true) H) : CT G (k + 15) "law" [.base (ns.map V.int)] [] Q := by
  refine CT_enter1 P.ok P.law (x := "script") (by decide +kernel) (fun _ _ _ _ => rfl) ?_
  exact law_top P (k := k) fun ρ H => h H
theorem ns_unique {h : Heap} {a : Addr} {m m' : Str → Option Value} (x : h.Ns a m) (y : h.Ns a m') : m = m' := by
  obtain ⟨o, es, ep, e1, e2, _, e3⟩ := x
  obtain ⟨o', es', ep', f1, f2, _, f3⟩ := y
  rw [e1] at f1; cases f1
  rw [e2] at f2; cases f2
  funext n
  rw [← e3, ← f3]
theorem int_of {loose : List Str} {mean : ExcName → Option Value} {mg mb : Str → Option Value} {h : Heap} (T : Top qv loose mean mg mb h) {x : Str} {i : Int} (e : valOf qv x = some (.int i)) : ∃ t, mg x = some (.int i t) := by
  obtain ⟨v, e, r⟩ := T.const x _ e
  cases r h with
  | int _ t => exact ⟨t, e⟩
-- what is behind the top
theorem pr_top {mean : ExcName → Option Value} {mg mb : Str → Option Value} {h : Heap} {prog : Program} {w : World} (T : Top qv (looseW qv []) mean mg mb h) (Y : SaysR h) : Pr ⟨prog, w, h, mg, mb⟩ := by
  obtain ⟨mg', g', ⟨a, a1, a2⟩, b, b1, b2⟩ := Y
  cases ns_unique g' T.g
  refine pr_of T (fun x hx => ?_) ⟨_, a1, fun μ h' hk => vr_pair (hk _ _ a2)⟩ ⟨_, b1, fun μ h' hk => vr_pair (hk _ _ b2)⟩ ?_ ?_ ?_
  · have key : (["abs", "len", "enumerate", "max", "min", "any", "tuple", "list", "dict", "range"] : List Str).all (fun x => !startupNames.contains x && !(looseW qv []).contains x && !((recsOf qv).map (·.name)).contains x && !((litsOf qv).map (·.1)).contains x && !((clssOf qv (looseW qv [])).map (·.name)).contains x) = true := by kernel_rfl!
    have := List.all_eq_true.mp key x hx
    simp only [Bool.and_eq_true, Bool.not_eq_true', List.contains_eq_mem, decide_eq_false_iff_not] at this
    obtain ⟨⟨⟨⟨h1, h2⟩, h3⟩, h4⟩, h5⟩ := this
    exact T.free x h1 h2 h3 h4 h5
  · exact int_of T (by kernel_rfl!)
  · exact int_of T (by kernel_rfl!)
  · exact int_of T (by kernel_rfl!)
end Mine

end

set_option maxHeartbeats 8000000 in
theorem PySem.Challenge.cw_rh0031_01_holds : PySem.Challenge.rw_rh0031_01.Holds := by
  refine holds_law Mine.said fun sd => ?_
  refine holds_open (q := Mine.qv) (loose := []) (Xt := fun s => xlAt Mine.qv [] s && recOk [] s) (XP := XL Mine.qv []) (Yf := Mine.hookR.obs) (Ya := Mine.hookR.val) (YP := Mine.hookR.says) (N := 3606) (d := Mine.mkD 60) (kwd := [])
    Mine.left Mine.hookR.of Mine.hookR.keeps (fun s e => xl_of s (Bool.and_eq_true_iff.mp e).1) XL.keeps (by kernel_rfl!) (by kernel_rfl!) (by kernel_rfl!) (fun s e => recFacts_of (Bool.and_eq_true_iff.mp e).2) rfl sd (by kernel_rfl!) ⟨rfl, rfl, rfl, rfl, rfl, by decide +kernel⟩ ?hw ?hc
  case hw => w_witness2
  case hc =>
    intro w s₀ s₁ mg mb G Y fa o pm cd doc dV kV ho hd hcd hD hmg hg args vals as hpre hlay hrd hwl hlo
    have P : Mine.Pr ⟨PySem.Challenge.rw_rh0031_01.row.prog, w, s₁.heap, mg, mb⟩ := Mine.pr_top G.T Y
    clear hD hcd hd ho
    wrow_args hpre hlay hrd hwl hlo
    rename_i ns hs hlay0 hL hr hl2 w5 w6 l vs w7 hlist ra w8 r0 hI hrw hlen htrue
    refine wpAny_mono (Mine.law_ct P (k := 0) (ns := ns) (Q := fun u _ => u = .bool true) (fun _ => rfl) fa ?_ callerA _ s₁ [] [.ref l] ?_ ?_ ?_) ?_ fun _ _ e => e
    · exact hmg
    · exact ⟨rfl, by decide, by decide⟩
    · refine ⟨fun _ _ e => e, rfl, List.nodup_nil, fun _ hx => (nomatch hx), fun n o e => by simp at e, ?_⟩
      obtain ⟨mc, ⟨o, es, ep, ho, _⟩, _⟩ := G.T.nodigits
      exact ⟨o, ho⟩
    · rw [Mine.VRs]
      refine ⟨_, _, rfl, ?_, by rw [Mine.VRs]⟩
      rw [Mine.VR]
      refine ⟨l, _, rfl, hlist, ?_, Mine.vrs_ints hI⟩
      rw [List.length_map]; simp only [Mine.lim]; omega
    · rintro v s' ⟨u, H', μ', X, R, hv, rfl⟩
      rw [Mine.VR] at hv
      subst hv
      obtain ⟨h', tk, rfl⟩ := X.same
      refine GoodW.toG ⟨.inl ⟨.bool true, .bool true, [], rfl, fun cls => rfl, .bool true, ?_, unshared_nil⟩, R.base, rfl, hg⟩
      wrow_post
