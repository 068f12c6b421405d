import PyProof.Rows.All
import Wide.All
import OpenK.AllK
import Wide.FinOn
import Lean
import PySem.Challenge.RW_qd0007_01
set_option Elab.async false
set_option maxRecDepth 100000
set_option linter.unusedVariables false
set_option linter.unusedSimpArgs false
set_option compiler.extract_closed false

namespace Mine
theorem nn {α : Type} {a : α} : a ∉ ([] : List α) := fun h => nomatch h
theorem lb {a b : Nat} (h : Nat.ble a b = true) : a ≤ b := Nat.le_of_ble_eq_true h
theorem le0 {a b c : Nat} (h : a ≤ b) (hc : b ≤ c) : a ≤ c := Nat.le_trans h hc
theorem le1 {a b k c : Nat} (h : a ≤ b) (hc : b + k ≤ c) : a + k ≤ c := Nat.le_trans (Nat.add_le_add_right h k) hc
theorem le2 {a b x y c : Nat} (h : a ≤ b) (h' : x ≤ y) (hc : b + y ≤ c) : a + x ≤ c := Nat.le_trans (Nat.add_le_add h h') hc
theorem map_le {α β : Type} {f : α → β} {l : List α} {a b : Nat} (h : l.length ≤ a) (hb : a ≤ b) : (l.map f).length ≤ b := by rw [List.length_map]; exact Nat.le_trans h hb
end Mine

-- part L1
namespace Mine
open PySem PySem.W PySem.Calls PyProof.Rows


inductive AV where
  | none | bool (b : Bool) | int (i : Int) | str (x : Str) | tup (l : List AV) | ref (i : Nat) | fix (a : Addr)
  deriving Inhabited

inductive AO where
  | list (l : List AV)
  | dictI (l : List (Int × AV)) (ep : Nat)
  | dictS (l : List (Str × AV))
  | pair
  | set (l : List AV)
  | range (m : Nat)
  deriving Inhabited

structure Cx where
  prog : Program
  w : World
  B : Heap
  mg : Str → Option Value
  mb : Str → Option Value
  g3 : ∃ o, B.get? 3 = some o

structure Cx.Ok (C : Cx) (recs : List DefRec) : Prop where
  g : C.B.Ns mainGlobals C.mg
  b : C.B.Ns builtinsNs C.mb
  nolimit : C.B.NoLimit
  fn : ∀ d ∈ recs, ∃ a o pm code doc, C.mg d.name = some (.ref a) ∧ C.B.get? a = some o ∧ o.data = .func (docDef d.name d.params d.body d.scope pm code doc) ∧ C.B.CodeRec code d.name
  free : ∀ x : Str, x ∈ (["range", "len", "tuple", "sorted", "set", "zip", "enumerate", "min", "max", "int"] : List Str) → C.mg x = Option.none
  builtins : ∀ x : Str, x ≠ "__name__" → C.mb x = bootBuiltins x

noncomputable def TupAt (h : Heap) (a : Addr) (vs : Array Value) : Prop := ∃ n, IsT h a vs n
theorem TupAt.isTuple {h : Heap} {a vs} (x : TupAt h a vs) : h.IsTuple a vs := let ⟨n, e⟩ := x; ⟨_, e, rfl, n, rfl⟩

mutual
noncomputable def Rep (h : Heap) (As : List Addr) : AV → Value → Prop
  | .none, v => v = .none
  | .bool b, v => v = .bool b
  | .int i, v => ∃ t, v = .int i t
  | .str x, v => ∃ t, v = .str x t
  | .tup l, v => ∃ a vs, v = .ref a ∧ a ∉ As ∧ TupAt h a vs ∧ RepL h As l vs.toList
  | .ref i, v => ∃ a, v = .ref a ∧ As[i]? = some a
  | .fix a, v => v = .ref a
noncomputable def RepL (h : Heap) (As : List Addr) : List AV → List Value → Prop
  | [], vs => vs = []
  | a :: l, vs => ∃ v r, vs = v :: r ∧ Rep h As a v ∧ RepL h As l r
end

noncomputable def RepK {α : Type} (h : Heap) (As : List Addr) (l : List (α × AV)) (kvs : List (α × Value)) : Prop := kvs.map (·.1) = l.map (·.1) ∧ RepL h As (l.map (·.2)) (kvs.map (·.2))


noncomputable def walkOk (place : Array Nat) : Bool := (List.range (place.size + 1)).all fun i => Nat.beq (SetTable.below place (if Nat.beq i 0 then 0 else place.getD (i - 1) 0 + 1)) i
structure SetGood (C : Cx) (t : SetTable) (n : Nat) : Prop where
  fits : t.fits n = true
  plain : t.plain = true
  led : t.led = !C.w.params.followText "set-order"
  walk : walkOk t.place = true
  few : n ≤ 5

noncomputable def ObjAt (C : Cx) (h : Heap) (As : List Addr) (a : Addr) : AO → Prop
  | .list l => ∃ vs, h.PlainList a vs ∧ RepL h As l vs.toList
  | .dictI l ep => ∃ kvs, h.DictAt (intKind C.prog C.w) a kvs ep ∧ RepK h As l kvs
  | .dictS l => ∃ kvs, h.DictOf (strKind C.prog C.w) a kvs ∧ RepK h As l kvs
  | .pair => ∃ x y, IsPair h a x y
  | .range m => ∃ t₁ t₂ t₃, IsRange h a 0 m 1 t₁ t₂ t₃
  | .set l => ∃ es ep t, h.get? a = some { cls := .type "set", dict := Option.none, data := .set es ep t, slots := #[] } ∧ SetGood C t es.size ∧ RepL h As l (es.toList.map (·.2))

structure Sim (C : Cx) (As : List Addr) (σ : List AO) (h : Heap) : Prop where
  base : ∀ b o, C.B.get? b = some o → h.get? b = some o
  len : As.length = σ.length
  nodup : As.Nodup
  off : ∀ a ∈ As, C.B.get? a = Option.none
  hi : ∀ a ∈ As, 4 ≤ a
  obj : ∀ (i : Nat) (a : Addr) (o : AO), As[i]? = some a → σ[i]? = some o → ObjAt C h As a o


structure Ext (W : List Addr) (As : List Addr) (s : Shared) (As₂ : List Addr) (s₂ : Shared) : Prop where
  same : ∃ h tk, s₂ = { s with heap := h, toks := tk }
  keep : ∀ b o, b ∉ As → b ∉ W → s.heap.get? b = some o → s₂.heap.get? b = some o
  more : ∃ As', As₂ = As ++ As' ∧ ∀ a ∈ As', a ∉ As ∧ a ∉ W ∧ s.heap.get? a = Option.none

theorem Ext.refl {W As s} : Ext W As s As s := ⟨⟨_, _, rfl⟩, fun _ _ _ _ e => e, [], by simp, by simp⟩
theorem Ext.trans {W As s As₁ s₁ As₂ s₂} (x : Ext W As s As₁ s₁) (y : Ext W As₁ s₁ As₂ s₂) : Ext W As s As₂ s₂ := by
  obtain ⟨h₁, tk₁, rfl⟩ := x.same
  obtain ⟨h₂, tk₂, rfl⟩ := y.same
  obtain ⟨X, rfl, hX⟩ := x.more
  obtain ⟨Y, rfl, hY⟩ := y.more
  refine ⟨⟨h₂, tk₂, rfl⟩, fun b o hb hw e => ?_, X ++ Y, by simp, fun a ha => ?_⟩
  · refine y.keep b o (fun hm => ?_) hw (x.keep b o hb hw e)
    rcases List.mem_append.mp hm with hm | hm
    · exact hb hm
    · rw [(hX b hm).2.2] at e; cases e
  · rcases List.mem_append.mp ha with ha | ha
    · exact hX a ha
    · obtain ⟨h1, h2, h3⟩ := hY a ha
      have h1' : a ∉ As := fun hm => h1 (List.mem_append_left _ hm)
      refine ⟨h1', h2, ?_⟩
      cases e : s.heap.get? a with
      | none => rfl
      | some o => rw [x.keep a o h1' h2 e] at h3; cases h3

theorem Ext.wider {W As s As₂ s₂} (x : Ext [] As s As₂ s₂) (hW : ∀ a ∈ W, ∃ o, s.heap.get? a = some o) : Ext W As s As₂ s₂ := by
  obtain ⟨X, e, hX⟩ := x.more
  refine ⟨x.same, fun b o hb _ q => x.keep b o hb (by first | exact nn | exact lb rfl | simp) q, X, e, fun a ha => ?_⟩
  obtain ⟨h1, _, h3⟩ := hX a ha
  exact ⟨h1, (fun (hw : a ∈ W) => by obtain ⟨o, q⟩ := hW a hw; rw [h3] at q; cases q), h3⟩


theorem Ext.drop {W As s As₂ s₂} (x : Ext W As s As₂ s₂) (hW : ∀ a ∈ W, s.heap.get? a = Option.none) : Ext [] As s As₂ s₂ := by
  obtain ⟨X, e, hX⟩ := x.more
  exact ⟨x.same, fun b o hb _ q => x.keep b o hb (fun hw => by rw [hW b hw] at q; cases q) q, X, e, fun a ha => ⟨(hX a ha).1, by simp, (hX a ha).2.2⟩⟩

section
variable {C : Cx} {As : List Addr} {σ : List AO} {h : Heap}

theorem Sim.big (S : Sim C As σ h) : 4 ≤ h.objs.size := by
  obtain ⟨o, e⟩ := C.g3
  exact Heap.lt_size (S.base _ _ e)

theorem DictOf_cls {K : Type} [DecidableEq K] {knd : KeyKind C.prog C.w K} {a kvs} (x : h.DictOf knd a kvs) : ∃ o es ep, h.get? a = some o ∧ o.cls = .type "dict" ∧ o.data = .dict es ep := by
  obtain ⟨o, es, ep, ho, he, hd, _⟩ := x
  exact ⟨o, es, ep, ho, he.1, hd⟩

theorem ObjAt.ex {a : Addr} {o : AO} (x : ObjAt C h As a o) : ∃ ob, h.get? a = some ob ∧ ((∃ vs n, ob.data = .seq vs n) ∨ (∃ es n, ob.data = .dict es n) ∨ (∃ es n t, ob.data = .set es n t) ∨ ∃ vs, ob.data = .fields vs) := by
  cases o with
  | list l => obtain ⟨vs, ⟨n, e⟩, _⟩ := x; exact ⟨_, e, .inl ⟨_, _, rfl⟩⟩
  | dictI l ep => obtain ⟨kvs, d, _⟩ := x; obtain ⟨o, es, ep, e, c, dd⟩ := DictOf_cls d.dictOf; exact ⟨o, e, .inr (.inl ⟨_, _, dd⟩)⟩
  | dictS l => obtain ⟨kvs, d, _⟩ := x; obtain ⟨o, es, ep, e, c, dd⟩ := DictOf_cls d; exact ⟨o, e, .inr (.inl ⟨_, _, dd⟩)⟩
  | pair => obtain ⟨x, y, e⟩ := x; exact ⟨_, e, .inl ⟨_, _, rfl⟩⟩
  | set l => obtain ⟨es, ep, t, e, _⟩ := x; exact ⟨_, e, .inr (.inr (.inl ⟨_, _, _, rfl⟩))⟩
  | range m => obtain ⟨t₁, t₂, t₃, e⟩ := x; exact ⟨_, e, .inr (.inr (.inr ⟨_, rfl⟩))⟩

theorem Sim.at (S : Sim C As σ h) {a : Addr} (ha : a ∈ As) : ∃ (i : Nat) (o : AO), As[i]? = some a ∧ σ[i]? = some o ∧ ObjAt C h As a o := by
  obtain ⟨i, hi, e⟩ := List.getElem_of_mem ha
  have e' : As[i]? = some a := by rw [List.getElem?_eq_getElem hi, e]
  have hs : i < σ.length := S.len ▸ hi
  exact ⟨i, σ[i], e', by simp [hs], S.obj i a _ e' (by simp [hs])⟩

theorem Sim.notCell (S : Sim C As σ h) {a : Addr} {v} (x : h.IsCell a v) : a ∉ As := fun ha => by
  obtain ⟨i, o, _, _, ob⟩ := S.at ha
  obtain ⟨q, e, d⟩ := ob.ex
  obtain ⟨q', e', d'⟩ := x
  rw [e] at e'; cases e'
  rw [d'] at d
  rcases d with ⟨_, _, d⟩ | ⟨_, _, d⟩ | ⟨_, _, _, d⟩ | ⟨_, d⟩ <;> cases d

mutual
theorem Rep.imp {h h' : Heap} {As X : List Addr} (H : ∀ a vs, a ∉ As → TupAt h a vs → a ∉ As ++ X ∧ TupAt h' a vs) : ∀ {av : AV} {v : Value}, Rep h As av v → Rep h' (As ++ X) av v
  | .none, _, x => x
  | .fix _, _, x => x
  | .bool _, _, x => x
  | .int _, _, x => x
  | .str _, _, x => x
  | .tup l, v, x => by
    unfold Rep at x ⊢
    obtain ⟨a, vs, e, ha, t, r⟩ := x
    exact ⟨a, vs, e, (H _ _ ha t).1, (H _ _ ha t).2, RepL.imp H r⟩
  | .ref i, v, x => by
    unfold Rep at x ⊢
    obtain ⟨a, e, q⟩ := x
    exact ⟨a, e, by rw [List.getElem?_append_left (by rw [List.getElem?_eq_some_iff] at q; exact q.1)]; exact q⟩
theorem RepL.imp {h h' : Heap} {As X : List Addr} (H : ∀ a vs, a ∉ As → TupAt h a vs → a ∉ As ++ X ∧ TupAt h' a vs) : ∀ {l : List AV} {vs : List Value}, RepL h As l vs → RepL h' (As ++ X) l vs
  | [], _, x => x
  | a :: l, vs, x => by
    unfold RepL at x ⊢
    obtain ⟨v, r, e, p, q⟩ := x
    exact ⟨v, r, e, Rep.imp H p, RepL.imp H q⟩
end
end
end Mine

-- part L2
namespace Mine
open PySem PySem.W PySem.Calls PyProof.Rows

theorem Ext.tup {W As : List Addr} {s s₂ : Shared} {Y : List Addr} (X : Ext W As s (As ++ Y) s₂) (hW : ∀ a ∈ W, ∀ vs, ¬ s.heap.IsTuple a vs) : ∀ a vs, a ∉ As → TupAt s.heap a vs → a ∉ As ++ Y ∧ TupAt s₂.heap a vs := fun a vs ha t => by
  obtain ⟨Z, e, hZ⟩ := X.more
  have e : Y = Z := List.append_cancel_left e
  subst e
  obtain ⟨n, q⟩ := id t
  refine ⟨fun hm => ?_, n, X.keep a _ ha (fun hw => hW a hw vs t.isTuple) q⟩
  rcases List.mem_append.mp hm with hm | hm
  · exact ha hm
  · exact absurd q (by unfold IsT; rw [(hZ a hm).2.2]; simp)
theorem Rep.ext {C : Cx} {W As : List Addr} {σ : List AO} {s s₂ : Shared} {As₂ : List Addr} {av : AV} {v : Value} (x : Rep s.heap As av v) (S : Sim C As σ s.heap) (X : Ext W As s As₂ s₂)
    (hW : ∀ a ∈ W, ∀ vs, ¬ s.heap.IsTuple a vs := by intro a ha; cases ha) : Rep s₂.heap As₂ av v := by
  obtain ⟨Y, rfl, _⟩ := X.more
  exact Rep.imp (X.tup hW) x
theorem RepL.ext {C : Cx} {W As : List Addr} {σ : List AO} {s s₂ : Shared} {As₂ : List Addr} {av : List AV} {v : List Value} (x : RepL s.heap As av v) (S : Sim C As σ s.heap) (X : Ext W As s As₂ s₂)
    (hW : ∀ a ∈ W, ∀ vs, ¬ s.heap.IsTuple a vs := by intro a ha; cases ha) : RepL s₂.heap As₂ av v := by
  obtain ⟨Y, rfl, _⟩ := X.more
  exact RepL.imp (X.tup hW) x

theorem RepL.cons {h : Heap} {As : List Addr} {a : AV} {l : List AV} {v : Value} {r : List Value} (x : Rep h As a v) (y : RepL h As l r) : RepL h As (a :: l) (v :: r) := by
  unfold RepL; exact ⟨v, r, rfl, x, y⟩
theorem RepL.nil {h : Heap} {As : List Addr} : RepL h As [] [] := by unfold RepL; rfl
theorem RepL.length {h : Heap} {As : List Addr} : ∀ {l : List AV} {vs : List Value}, RepL h As l vs → vs.length = l.length
  | [], _, x => by unfold RepL at x; rw [x]; rfl
  | _ :: l, _, x => by unfold RepL at x; obtain ⟨v, r, rfl, _, q⟩ := x; simp [q.length]
theorem RepL.get {h : Heap} {As : List Addr} : ∀ {l : List AV} {vs : List Value}, RepL h As l vs → ∀ {i : Nat} {a : AV}, l[i]? = some a → ∃ v, vs[i]? = some v ∧ Rep h As a v
  | [], _, _, i, a, e => by simp at e
  | b :: l, _, x, i, a, e => by
    unfold RepL at x; obtain ⟨v, r, rfl, p, q⟩ := x
    cases i with
    | zero => simp at e; subst e; exact ⟨v, rfl, p⟩
    | succ i => simp at e; obtain ⟨u, e', p'⟩ := q.get e; exact ⟨u, by simpa using e', p'⟩
theorem RepL.of_get {h : Heap} {As : List Addr} : ∀ {l : List AV} {vs : List Value}, vs.length = l.length → (∀ (i : Nat) (a : AV) (v : Value), l[i]? = some a → vs[i]? = some v → Rep h As a v) → RepL h As l vs
  | [], [], _, _ => RepL.nil
  | a :: l, v :: vs, e, x => RepL.cons (x 0 a v rfl rfl) (RepL.of_get (by simpa using e) fun i a' v' p q => x (i + 1) a' v' (by simpa using p) (by simpa using q))
theorem RepL.append {h : Heap} {As : List Addr} : ∀ {l m : List AV} {vs ws : List Value}, RepL h As l vs → RepL h As m ws → RepL h As (l ++ m) (vs ++ ws)
  | [], _, _, _, x, y => by unfold RepL at x; subst x; exact y
  | _ :: l, _, _, _, x, y => by unfold RepL at x; obtain ⟨v, r, rfl, p, q⟩ := x; exact RepL.cons p (q.append y)

structure FrameOk (C : Cx) (sc : Scope) (ρ : List (Str × AV)) (env : Env) (As : List Addr) (h : Heap) : Prop where
  scope : env.scope = sc
  kind : sc.kind = .function
  globals : env.globals = mainGlobals
  builtins : env.builtins = builtinsNs
  off : env.locals ∉ As
  offB : C.B.get? env.locals = Option.none
  ns : ∃ m, h.Ns env.locals m ∧ ∀ x av, sc.names.lookup x = some .local → ρ.lookup x = some av → ∃ v, m x = some v ∧ Rep h As av v
  cells : ∀ x k, sc.names.lookup x = some k → k = .cell ∨ k = .free → ∃ c ov, env.cells.lookup x = some c ∧ h.IsCell c ov ∧ C.B.get? c = Option.none ∧ ∀ av, ρ.lookup x = some av → ∃ v, ov = some v ∧ Rep h As av v
  apart : ∀ x y c, env.cells.lookup x = some c → env.cells.lookup y = some c → x = y
  live : ∀ x c, (x, c) ∈ env.cells → ∃ ov, h.IsCell c ov

noncomputable def own (env : Env) : List Addr := env.locals :: env.cells.map (·.2)

theorem Ns_ex {h : Heap} {a m} (x : h.Ns a m) : ∃ o es ep, h.get? a = some o ∧ o.data = .dict es ep := let ⟨o, es, ep, e, d, _⟩ := x; ⟨o, es, ep, e, d⟩
theorem Ns_notTuple {h : Heap} {a m} (x : h.Ns a m) (vs) : ¬ h.IsTuple a vs := fun t => by
  obtain ⟨o, es, ep, e, d, _⟩ := x
  obtain ⟨o', e', _, n, d'⟩ := t
  rw [e] at e'; cases e'; rw [d] at d'; cases d'
theorem Cell_notTuple {h : Heap} {a v} (x : h.IsCell a v) (vs) : ¬ h.IsTuple a vs := fun t => by
  obtain ⟨o, e, d⟩ := x
  obtain ⟨o', e', _, n, d'⟩ := t
  rw [e] at e'; cases e'; rw [d] at d'; cases d'
theorem Ns_notCell {h : Heap} {a m} (x : h.Ns a m) (v) : ¬ h.IsCell a v := fun t => by
  obtain ⟨o, es, ep, e, d, _⟩ := x
  obtain ⟨o', e', d'⟩ := t
  rw [e] at e'; cases e'; rw [d] at d'; cases d'

section
variable {C : Cx} {n : Nat} {sc : Scope} {ρ : List (Str × AV)} {env : Env} {As As₂ : List Addr} {σ : List AO} {s s₂ : Shared}

theorem FrameOk.ownLive {h : Heap} (F : FrameOk C sc ρ env As h) : ∀ a ∈ own env, ∃ o, h.get? a = some o := fun a ha => by
  rcases List.mem_cons.mp ha with rfl | ha
  · obtain ⟨m, x, _⟩ := F.ns; obtain ⟨o, _, _, e, _⟩ := Ns_ex x; exact ⟨o, e⟩
  · obtain ⟨⟨x, c⟩, hm, rfl⟩ := List.mem_map.mp ha
    obtain ⟨ov, o, e, _⟩ := F.live x c hm
    exact ⟨o, e⟩
theorem FrameOk.ownTuple {h : Heap} (F : FrameOk C sc ρ env As h) : ∀ a ∈ own env, ∀ vs, ¬ h.IsTuple a vs := fun a ha vs => by
  rcases List.mem_cons.mp ha with rfl | ha
  · obtain ⟨m, x, _⟩ := F.ns; exact Ns_notTuple x vs
  · obtain ⟨⟨x, c⟩, hm, rfl⟩ := List.mem_map.mp ha
    obtain ⟨ov, o⟩ := F.live x c hm
    exact Cell_notTuple o vs

theorem FrameOk.ext (F : FrameOk C sc ρ env As s.heap) (S : Sim C As σ s.heap) (X : Ext [] As s As₂ s₂) : FrameOk C sc ρ env As₂ s₂.heap := by
  obtain ⟨Y, e, hY⟩ := X.more
  obtain ⟨m, hn, hm⟩ := F.ns
  refine ⟨F.scope, F.kind, F.globals, F.builtins, ?_, F.offB, ⟨m, ?_, fun x av hx hr => ?_⟩, fun x k hx hk => ?_, F.apart, fun x c hc => ?_⟩
  · subst e
    intro hmem
    rcases List.mem_append.mp hmem with q | q
    · exact F.off q
    · obtain ⟨o, _, _, e', _⟩ := Ns_ex hn
      rw [(hY _ q).2.2] at e'; cases e'
  · exact hn.at' fun o e' => X.keep _ o F.off (by first | exact nn | exact lb rfl | simp) e'
  · obtain ⟨v, hv, r⟩ := hm x av hx hr
    exact ⟨v, hv, r.ext S X⟩
  · obtain ⟨c, ov, h1, h2, h3, h4⟩ := F.cells x k hx hk
    refine ⟨c, ov, h1, ?_, h3, fun av hr => ?_⟩
    · obtain ⟨o, ho, hd⟩ := id h2
      exact ⟨o, X.keep c o (S.notCell h2) (by first | exact nn | exact lb rfl | simp) ho, hd⟩
    · obtain ⟨v, hv, r⟩ := h4 av hr
      exact ⟨v, hv, r.ext S X⟩
  · obtain ⟨ov, h2⟩ := F.live x c hc
    obtain ⟨o, ho, hd⟩ := id h2
    exact ⟨ov, o, X.keep c o (S.notCell h2) (by first | exact nn | exact lb rfl | simp) ho, hd⟩


theorem FrameOk.forget {h : Heap} {ρ' : List (Str × AV)} (F : FrameOk C sc ρ env As h) (hs : ∀ x av, ρ'.lookup x = some av → ρ.lookup x = some av) : FrameOk C sc ρ' env As h := by
  obtain ⟨m, hn, hm⟩ := F.ns
  refine ⟨F.scope, F.kind, F.globals, F.builtins, F.off, F.offB, ⟨m, hn, fun x av hx hr => hm x av hx (hs x av hr)⟩, fun x k hx hk => ?_, F.apart, F.live⟩
  obtain ⟨c, ov, h1, h2, h3, h4⟩ := F.cells x k hx hk
  exact ⟨c, ov, h1, h2, h3, fun av hr => h4 av (hs x av hr)⟩
end

structure Room (n : Nat) (A : Around) : Prop where
  hd : A.handled = Option.none
  dp : A.depth + n + 2 ≤ recursionLimit
  un : A.units + 12 * n + 12 < cLine

theorem Room.le {n m : Nat} {A : Around} (R : Room n A) (h : m ≤ n) : Room m A := ⟨R.hd, by have := R.dp; (first | assumption | decide | exact le0 (by assumption) (by decide) | exact le1 (by assumption) (by decide) | exact le2 (by assumption) (by assumption) (by decide) | lia | omega), by have := R.un; (first | assumption | decide | exact le0 (by assumption) (by decide) | exact le1 (by assumption) (by decide) | exact le2 (by assumption) (by assumption) (by decide) | lia | omega)⟩
theorem Room.deeper {n : Nat} {A : Around} (R : Room (n + 1) A) (env : Env) : Room n (A.deeper env) := ⟨R.hd, by have := R.dp; show A.depth + 1 + n + 2 ≤ _; (first | assumption | decide | exact le0 (by assumption) (by decide) | exact le1 (by assumption) (by decide) | exact le2 (by assumption) (by assumption) (by decide) | lia | omega), by have := R.un; show A.units + 3 + 12 * n + 12 < _; (first | assumption | decide | exact le0 (by assumption) (by decide) | exact le1 (by assumption) (by decide) | exact le2 (by assumption) (by assumption) (by decide) | lia | omega)⟩

inductive PostE (C : Cx) (As : List Addr) (s : Shared) (Q : AV → List AO → Prop) (v : Value) (s' : Shared) : Prop where
  | mk (av : AV) (σ' : List AO) (As₂ : List Addr) (X : Ext [] As s As₂ s') (S : Sim C As₂ σ' s'.heap) (q : Q av σ') (r : Rep s'.heap As₂ av v)
inductive PostL (C : Cx) (As : List Addr) (s : Shared) (Q : List AV → List AO → Prop) (v : List Value) (s' : Shared) : Prop where
  | mk (av : List AV) (σ' : List AO) (As₂ : List Addr) (X : Ext [] As s As₂ s') (S : Sim C As₂ σ' s'.heap) (q : Q av σ') (r : RepL s'.heap As₂ av v)
inductive PostB (C : Cx) (As : List Addr) (s : Shared) (Q : Bool → List AO → Prop) (b : Bool) (s' : Shared) : Prop where
  | mk (σ' : List AO) (As₂ : List Addr) (X : Ext [] As s As₂ s') (S : Sim C As₂ σ' s'.heap) (q : Q b σ')


structure EvE (C : Cx) (n : Nat) (sc : Scope) (ρ : List (Str × AV)) (e : Expr) (σ : List AO) (Q : AV → List AO → Prop) : Prop where
  run : ∀ (A : Around), Room n A → ∀ (env : Env) (As : List Addr) (s : Shared) (E : Value → Shared → Prop), FrameOk C sc ρ env As s.heap → Sim C As σ s.heap →
    wpAny (model C.prog C.w) A (eval e env) (PostE C As s Q) E s
structure EvB (C : Cx) (n : Nat) (sc : Scope) (ρ : List (Str × AV)) (e : Expr) (σ : List AO) (Q : Bool → List AO → Prop) : Prop where
  run : ∀ (A : Around), Room n A → ∀ (env : Env) (As : List Addr) (s : Shared) (E : Value → Shared → Prop), FrameOk C sc ρ env As s.heap → Sim C As σ s.heap →
    wpAny (model C.prog C.w) A (isTrue e env (eval e env)) (PostB C As s Q) E s

noncomputable def EvL (C : Cx) (n : Nat) (sc : Scope) (ρ : List (Str × AV)) : List Expr → List AO → (List AV → List AO → Prop) → Prop
  | [], σ, Q => Q [] σ
  | e :: r, σ, Q => EvE C n sc ρ e σ fun a σ' => EvL C n sc ρ r σ' fun l σ'' => Q (a :: l) σ''

section
variable {C : Cx} {n : Nat} {sc : Scope} {ρ : List (Str × AV)} {env : Env} {As : List Addr} {σ : List AO} {s : Shared} {A : Around} {E : Value → Shared → Prop} {e : Expr}

theorem evl_nil {Q : List AV → List AO → Prop} (h : Q [] σ) : EvL C n sc ρ [] σ Q := h
theorem evl_cons {r : List Expr} {Q : List AV → List AO → Prop} (h : EvE C n sc ρ e σ fun a σ' => EvL C n sc ρ r σ' fun l σ'' => Q (a :: l) σ'') : EvL C n sc ρ (e :: r) σ Q := h
theorem PostE.mono {Q Q' : AV → List AO → Prop} {v : Value} {s' : Shared} (x : PostE C As s Q v s') (h : ∀ a σ', Q a σ' → Q' a σ') : PostE C As s Q' v s' :=
  let ⟨av, σ', As₂, X, S, q, r⟩ := x; ⟨av, σ', As₂, X, S, h _ _ q, r⟩
theorem EvE.mono {Q Q' : AV → List AO → Prop} (x : EvE C n sc ρ e σ Q) (h : ∀ a σ', Q a σ' → Q' a σ') : EvE C n sc ρ e σ Q' := 
  ⟨fun A R env As s E F S => wpAny_mono (x.run A R env As s E F S) (fun _ _ p => p.mono h) fun _ _ p => p⟩
theorem EvB.mono {Q Q' : Bool → List AO → Prop} (x : EvB C n sc ρ e σ Q) (h : ∀ a σ', Q a σ' → Q' a σ') : EvB C n sc ρ e σ Q' := 
  ⟨fun A R env As s E F S => wpAny_mono (x.run A R env As s E F S) (fun _ _ ⟨σ', As₂, X, S, q⟩ => ⟨σ', As₂, X, S, h _ _ q⟩) fun _ _ p => p⟩

theorem EvE.use {Q : AV → List AO → Prop} {K : Value → Shared → Prop} (H : EvE C n sc ρ e σ Q) (R : Room n A) (F : FrameOk C sc ρ env As s.heap) (S : Sim C As σ s.heap)
    (k : ∀ v s' av σ' As₂, Ext [] As s As₂ s' → Sim C As₂ σ' s'.heap → FrameOk C sc ρ env As₂ s'.heap → Q av σ' → Rep s'.heap As₂ av v → K v s') : wpAny (model C.prog C.w) A (eval e env) K E s :=
  wpAny_mono (H.run A R env As s E F S) (fun v s' ⟨av, σ', As₂, X, S', q, r⟩ => k v s' av σ' As₂ X S' (F.ext S X) q r) fun _ _ p => p
theorem EvB.use {Q : Bool → List AO → Prop} {K : Bool → Shared → Prop} (H : EvB C n sc ρ e σ Q) (R : Room n A) (F : FrameOk C sc ρ env As s.heap) (S : Sim C As σ s.heap)
    (k : ∀ b s' σ' As₂, Ext [] As s As₂ s' → Sim C As₂ σ' s'.heap → FrameOk C sc ρ env As₂ s'.heap → Q b σ' → K b s') : wpAny (model C.prog C.w) A (isTrue e env (eval e env)) K E s :=
  wpAny_mono (H.run A R env As s E F S) (fun v s' ⟨σ', As₂, X, S', q⟩ => k v s' σ' As₂ X S' (F.ext S X) q) fun _ _ p => p

theorem PostE.lift {Q : AV → List AO → Prop} {v : Value} {s₁ s' : Shared} {As₁ : List Addr} (X : Ext [] As s As₁ s₁) (x : PostE C As₁ s₁ Q v s') : PostE C As s Q v s' :=
  let ⟨av, σ', As₂, Y, S, q, r⟩ := x; ⟨av, σ', As₂, X.trans Y, S, q, r⟩
theorem PostB.lift {Q : Bool → List AO → Prop} {v : Bool} {s₁ s' : Shared} {As₁ : List Addr} (X : Ext [] As s As₁ s₁) (x : PostB C As₁ s₁ Q v s') : PostB C As s Q v s' :=
  let ⟨σ', As₂, Y, S, q⟩ := x; ⟨σ', As₂, X.trans Y, S, q⟩


theorem PostE.here {Q : AV → List AO → Prop} {v : Value} {av : AV} {tk : Nat} (S : Sim C As σ s.heap) (q : Q av σ) (r : Rep s.heap As av v) : PostE C As s Q v { s with toks := tk } :=
  ⟨av, σ, As, ⟨⟨_, _, rfl⟩, fun _ _ _ _ e => e, [], by simp, by simp⟩, S, q, r⟩

theorem notStarred {es : List Expr} (h : es.all (fun e => !isStarred e) = true) : ∀ env, starEach es env = es.map fun e => (false, eval e env) := fun env => by
  induction es with
  | nil => rfl
  | cons e r ih =>
    simp only [List.all_cons, Bool.and_eq_true] at h
    have ih' := ih h.2
    cases e <;> first | exact absurd h.1 Bool.false_ne_true | (show _ :: starEach r env = _; rw [ih']; rfl)

theorem EvL.spliced {es : List Expr} {pos : Pos} (h : es.all (fun e => !isStarred e) = true) {Q : List AV → List AO → Prop} {K : List Value → Shared → Prop} (H : EvL C n sc ρ es σ Q) (R : Room n A)
    (F : FrameOk C sc ρ env As s.heap) (S : Sim C As σ s.heap)
    (k : ∀ v s' av σ' As₂, Ext [] As s As₂ s' → Sim C As₂ σ' s'.heap → FrameOk C sc ρ env As₂ s'.heap → Q av σ' → RepL s'.heap As₂ av v → K v s') :
    wpAny (model C.prog C.w) A (PySem.spliced (backTo pos (starEach es env))) K E s := by
  rw [notStarred h]
  induction es generalizing σ s As Q K with
  | nil => exact spliced_nil (k _ _ _ _ _ Ext.refl S F H RepL.nil)
  | cons e r ih =>
    simp only [List.all_cons, Bool.and_eq_true] at h
    show wpAny _ _ (PySem.spliced ((false, eval e env) :: backTo pos (r.map fun e => (false, eval e env)))) _ _ _
    refine spliced_cons (EvE.use H R F S fun v s₁ av σ₁ As₁ X₁ S₁ F₁ H₁ r₁ => ?_)
    refine ih h.2 H₁ F₁ S₁ fun vs s₂ avs σ₂ As₂ X₂ S₂ F₂ q r₂ => ?_
    exact k _ _ _ _ _ (X₁.trans X₂) S₂ F₂ q (RepL.cons (r₁.ext S₁ X₂) r₂)
end
end Mine

-- part L3
namespace Mine
open PySem PySem.W PySem.Calls PyProof.Rows

noncomputable def isVar (sc : Scope) (x : Str) : Bool := match sc.names.lookup x with
  | some .local | some .cell | some .free => true
  | _ => false

section
variable {C : Cx} {n : Nat} {sc : Scope} {ρ : List (Str × AV)} {env : Env} {As : List Addr} {σ : List AO} {s : Shared} {A : Around} {E : Value → Shared → Prop} {recs : List DefRec}

theorem PostE.now {Q : AV → List AO → Prop} {v : Value} {av : AV} (S : Sim C As σ s.heap) (q : Q av σ) (r : Rep s.heap As av v) : PostE C As s Q v s := ⟨av, σ, As, Ext.refl, S, q, r⟩
theorem PostB.now {Q : Bool → List AO → Prop} {b : Bool} (S : Sim C As σ s.heap) (q : Q b σ) : PostB C As s Q b s := ⟨σ, As, Ext.refl, S, q⟩

theorem FrameOk.load {x : Str} {av : AV} {K : Value → Shared → Prop} (F : FrameOk C sc ρ env As s.heap) (hl : ρ.lookup x = some av) (hv : isVar sc x = true) (hc : (x == ("__classdict__" : Str)) = false)
    (k : ∀ v, Rep s.heap As av v → K v s) : wpAny (model C.prog C.w) A (loadName env x) K E s := by
  have hk : env.scope.kind = .function := by rw [F.scope]; exact F.kind
  have hkind : env.kindOf x = sc.names.lookup x := by unfold Env.kindOf; rw [F.scope]
  unfold isVar at hv
  split at hv
  · rename_i e
    obtain ⟨m, hn, hm⟩ := F.ns
    obtain ⟨v, hmv, r⟩ := hm x av e hl
    exact wpAny_loadName_local hk (hkind.trans e) hn hmv (k v r)
  · rename_i e
    obtain ⟨c, ov, h1, h2, _, h4⟩ := F.cells x _ e (.inl rfl)
    obtain ⟨v, rfl, r⟩ := h4 av hl
    exact wpAny_loadName_cell hk (hkind.trans e) h1 h2 (k v r)
  · rename_i e
    obtain ⟨c, ov, h1, h2, _, h4⟩ := F.cells x _ e (.inr rfl)
    obtain ⟨v, rfl, r⟩ := h4 av hl
    exact wpAny_loadName_free hk (hkind.trans e) h1 h2 (k v r) hc
  · cases hv

theorem ev_name {x : Str} {pos : Pos} {av : AV} {Q : AV → List AO → Prop} (hl : ρ.lookup x = some av) (hv : isVar sc x = true) (h : Q av σ)
    (hd : (x == ("__debug__" : Str)) = false := by decide) (hc : (x == ("__classdict__" : Str)) = false := by decide) : EvE C n sc ρ (.Name x pos) σ Q := 
  ⟨fun A R env As s E F S => wpAny_Name (F.load hl hv hc fun v r => PostE.now S h r) hd⟩

theorem ev_int {i : Int} {k : Nat} {pos : Pos} {Q : AV → List AO → Prop} (h : Q (.int i) σ) : EvE C n sc ρ (.Constant (.int i) k pos) σ Q := 
  ⟨fun A R env As s E F S => wpAny_Constant_int (PostE.here S h ⟨_, rfl⟩)⟩
theorem ev_str {x : Str} {k : Nat} {pos : Pos} {Q : AV → List AO → Prop} (h : Q (.str x) σ) : EvE C n sc ρ (.Constant (.str x) k pos) σ Q := 
  ⟨fun A R env As s E F S => wpAny_Constant_str (PostE.here S h ⟨_, rfl⟩)⟩
theorem ev_bool {b : Bool} {k : Nat} {pos : Pos} {Q : AV → List AO → Prop} (h : Q (.bool b) σ) : EvE C n sc ρ (.Constant (.bool b) k pos) σ Q := 
  ⟨fun A R env As s E F S => by
    show wpAny _ _ (pure (Value.bool b)) _ _ _
    exact wpAny_pure (PostE.now S h rfl)⟩


theorem RepL.same {h h' : Heap} (hT : ∀ b vs, b ∉ As → TupAt h b vs → TupAt h' b vs) {l vs} (r : RepL h As l vs) : RepL h' As l vs := by
  have := RepL.imp (X := []) (fun b vs hb t => ⟨by simpa using hb, hT b vs hb t⟩) r; simpa using this
theorem Rep.same {h h' : Heap} (hT : ∀ b vs, b ∉ As → TupAt h b vs → TupAt h' b vs) {l vs} (r : Rep h As l vs) : Rep h' As l vs := by
  have := Rep.imp (X := []) (fun b vs hb t => ⟨by simpa using hb, hT b vs hb t⟩) r; simpa using this
theorem RepL.grow {h h' : Heap} (keep : ∀ b o, h.get? b = some o → h'.get? b = some o) {l vs} (r : RepL h As l vs) : RepL h' As l vs := r.same fun b vs _ t => let ⟨n, e⟩ := t; ⟨n, keep _ _ e⟩
theorem Rep.grow {h h' : Heap} (keep : ∀ b o, h.get? b = some o → h'.get? b = some o) {l vs} (r : Rep h As l vs) : Rep h' As l vs := r.same fun b vs _ t => let ⟨n, e⟩ := t; ⟨n, keep _ _ e⟩
theorem ObjAt.by {h h' : Heap} {a : Addr} {X : List Addr} (rep : ∀ {l vs}, RepL h As l vs → RepL h' (As ++ X) l vs) (e : ∀ o, h.get? a = some o → h'.get? a = some o) {o : AO} (x : ObjAt C h As a o) : ObjAt C h' (As ++ X) a o := by
  cases o with
  | list l => obtain ⟨vs, ⟨n, q⟩, r⟩ := x; exact ⟨vs, ⟨n, e _ q⟩, rep r⟩
  | dictI l ep => obtain ⟨kvs, ⟨o, es, q, d⟩, q', r⟩ := x; exact ⟨kvs, ⟨o, es, e _ q, d⟩, q', rep r⟩
  | dictS l => obtain ⟨kvs, ⟨o, es, ep, q, d⟩, q', r⟩ := x; exact ⟨kvs, ⟨o, es, ep, e _ q, d⟩, q', rep r⟩
  | pair => obtain ⟨x, y, q⟩ := x; exact ⟨x, y, e _ q⟩
  | set l => obtain ⟨es, ep, t, q, g, r⟩ := x; exact ⟨es, ep, t, e _ q, g, rep r⟩
  | range m => obtain ⟨t₁, t₂, t₃, q⟩ := x; exact ⟨t₁, t₂, t₃, e _ q⟩
theorem ObjAt.keepT {h h' : Heap} {a : Addr} (hT : ∀ b vs, b ∉ As → TupAt h b vs → TupAt h' b vs) (e : h'.get? a = h.get? a) {o : AO} (x : ObjAt C h As a o) : ObjAt C h' As a o := by
  have := x.by (X := []) (h' := h') (fun r => by simpa using r.same hT) (fun o q => e.trans q)
  simpa using this
theorem ObjAt.grow {h h' : Heap} {a : Addr} (keep : ∀ b x, h.get? b = some x → h'.get? b = some x) {o : AO} (x : ObjAt C h As a o) : ObjAt C h' As a o := by
  have := x.by (X := []) (h' := h') (fun r => by simpa using r.grow keep) (fun o q => keep _ _ q)
  simpa using this


theorem Sim.grow {h' : Heap} {tk : Nat} (S : Sim C As σ s.heap) (keep : ∀ b o, s.heap.get? b = some o → h'.get? b = some o) : Sim C As σ h' ∧ Ext [] As s As { s with heap := h', toks := tk } :=
  ⟨⟨fun b x e => keep b x (S.base b x e), S.len, S.nodup, S.off, S.hi, fun i a ob h1 h2 => (S.obj i a ob h1 h2).grow keep⟩, ⟨_, _, rfl⟩, fun b x _ _ e => keep b x e, [], by simp, by simp⟩

theorem Sim.push (S : Sim C As σ s.heap) (o : Obj) : Sim C As σ (s.heap.push o) ∧ Ext [] As s As { s with heap := s.heap.push o } := S.grow (tk := s.toks) fun b x e => Heap.get?_push_of_some _ e


theorem Sim.fresh (S : Sim C As σ s.heap) : s.heap.objs.size ∉ As ∧ C.B.get? s.heap.objs.size = Option.none ∧ s.heap.get? s.heap.objs.size = Option.none := by
  have h0 : s.heap.get? s.heap.objs.size = Option.none := by
    cases e : s.heap.get? s.heap.objs.size with
    | none => rfl
    | some o => exact absurd (Heap.lt_size e) (Nat.lt_irrefl _)
  refine ⟨fun hm => ?_, ?_, h0⟩
  · obtain ⟨i, o, _, _, ob⟩ := S.at hm
    obtain ⟨q, e, _⟩ := ob.ex
    rw [h0] at e; cases e
  · cases e : C.B.get? s.heap.objs.size with
    | none => rfl
    | some o => rw [S.base _ _ e] at h0; cases h0

theorem PostE.tuple {Q : AV → List AO → Prop} {l : List AV} {vs : List Value} (S : Sim C As σ s.heap) (r : RepL s.heap As l vs) (q : Q (.tup l) σ) :
    PostE C As s Q (.ref s.heap.objs.size) { s with heap := s.heap.push { cls := .type "tuple", data := .seq vs.toArray } } := by
  obtain ⟨S', X⟩ := S.push { cls := .type "tuple", data := .seq vs.toArray }
  refine ⟨_, σ, As, X, S', q, ?_⟩
  unfold Rep
  exact ⟨_, vs.toArray, rfl, S.fresh.1, ⟨0, Heap.get?_push_size _ rfl⟩, by simpa using r.ext S X⟩


theorem Sim.add {h' : Heap} {tk : Nat} {a : Addr} {o : AO} (S : Sim C As σ s.heap) (keep : ∀ b x, s.heap.get? b = some x → h'.get? b = some x) (ha : s.heap.get? a = Option.none) (h4 : 4 ≤ a)
    (ho : ObjAt C h' (As ++ [a]) a o) : Sim C (As ++ [a]) (σ ++ [o]) h' ∧ Ext [] As s (As ++ [a]) { s with heap := h', toks := tk } := by
  have haA : a ∉ As := fun hm => by
    obtain ⟨i, o, _, _, ob⟩ := S.at hm
    obtain ⟨q, e, _⟩ := ob.ex
    rw [ha] at e; cases e
  have haB : C.B.get? a = Option.none := by
    cases e : C.B.get? a with
    | none => rfl
    | some o => rw [S.base _ _ e] at ha; cases ha
  refine ⟨⟨fun b x e => keep b x (S.base b x e), by simp [S.len], ?_, ?_, ?_, fun i b ob h1 h2 => ?_⟩, ⟨_, _, rfl⟩, fun b x _ _ e => keep b x e, [a], rfl, ?_⟩
  · rw [List.nodup_append]
    exact ⟨S.nodup, by simp, fun x hx y hy e => by simp at hy; subst hy; subst e; exact haA hx⟩
  · intro x hx
    rcases List.mem_append.mp hx with hx | hx
    · exact S.off x hx
    · simp at hx; subst hx; exact haB
  · intro x hx
    rcases List.mem_append.mp hx with hx | hx
    · exact S.hi x hx
    · simp at hx; subst hx; exact h4
  · by_cases hi : i < As.length
    · rw [List.getElem?_append_left hi] at h1
      rw [List.getElem?_append_left (S.len ▸ hi)] at h2
      exact (S.obj i b ob h1 h2).by (fun r => RepL.imp (fun c vs hc t => by
        obtain ⟨n, e⟩ := id t
        refine ⟨fun hm => ?_, n, keep _ _ e⟩
        rcases List.mem_append.mp hm with hm | hm
        · exact hc hm
        · simp at hm; subst hm; exact absurd e (by unfold IsT; rw [ha]; simp)) r) (fun o q => keep _ _ q)
    · have : i = As.length := by
        have := List.getElem?_eq_some_iff.mp h1
        obtain ⟨hl, _⟩ := this
        simp at hl
        (first | assumption | decide | exact le0 (by assumption) (by decide) | exact le1 (by assumption) (by decide) | exact le2 (by assumption) (by assumption) (by decide) | lia | omega)
      subst this
      simp at h1
      rw [S.len] at h2
      simp at h2
      subst h1 h2
      exact ho
  · intro x hx; simp at hx; subst hx; exact ⟨haA, by simp, ha⟩

theorem PostE.list {Q : AV → List AO → Prop} {l : List AV} {vs : List Value} (S : Sim C As σ s.heap) (r : RepL s.heap As l vs) (q : Q (.ref σ.length) (σ ++ [.list l])) :
    PostE C As s Q (.ref s.heap.objs.size) { s with heap := s.heap.push { cls := .type "list", data := .seq vs.toArray } } := by
  have keep : ∀ b x, s.heap.get? b = some x → (s.heap.push { cls := .type "list", data := .seq vs.toArray }).get? b = some x := fun b x e => Heap.get?_push_of_some _ e
  obtain ⟨S', X⟩ := S.add (tk := s.toks) (o := .list l) keep S.fresh.2.2 S.big ⟨vs.toArray, ⟨0, Heap.get?_push_size _ rfl⟩, by
    have := RepL.imp (h' := s.heap.push { cls := .type "list", data := .seq vs.toArray }) (X := [s.heap.objs.size]) (fun c vs hc t => by
      obtain ⟨n, e⟩ := id t
      refine ⟨fun hm => ?_, n, keep _ _ e⟩
      rcases List.mem_append.mp hm with hm | hm
      · exact hc hm
      · simp at hm; subst hm; exact absurd e (by unfold IsT; rw [S.fresh.2.2]; simp)) r
    simpa using this⟩
  refine ⟨_, _, _, X, S', q, ?_⟩
  unfold Rep
  exact ⟨_, rfl, by rw [← S.len]; simp⟩

theorem ev_tuple {es : List Expr} {k : Nat} {pos : Pos} {Q : AV → List AO → Prop} (h : EvL C n sc ρ es σ fun l σ' => l.length ≤ 1000 ∧ Q (.tup l) σ') (hs : es.all (fun e => !isStarred e) = true := by rfl) : EvE C n sc ρ (.Tuple es k pos) σ Q := 
  ⟨fun A R env As s E F S => Tuple_ (EvL.spliced hs h R F S fun vs s' avs σ' As₂ X S' F' q r => wpAny_newTuple (PostE.lift X (PostE.tuple S' r q.2)) (by rw [r.length, sizeLine_eq]; have := q.1; (first | assumption | decide | exact le0 (by assumption) (by decide) | exact le1 (by assumption) (by decide) | exact le2 (by assumption) (by assumption) (by decide) | lia | omega)))⟩
theorem ev_list {es : List Expr} {pos : Pos} {Q : AV → List AO → Prop} (h : EvL C n sc ρ es σ fun l σ' => l.length ≤ 1000 ∧ Q (.ref σ'.length) (σ' ++ [.list l])) (hs : es.all (fun e => !isStarred e) = true := by rfl) : EvE C n sc ρ (.List es pos) σ Q := 
  ⟨fun A R env As s E F S => List_ (EvL.spliced hs h R F S fun vs s' avs σ' As₂ X S' F' q r => wpAny_newList (PostE.lift X (PostE.list S' r q.2)) (by rw [r.length, sizeLine_eq]; have := q.1; (first | assumption | decide | exact le0 (by assumption) (by decide) | exact le1 (by assumption) (by decide) | exact le2 (by assumption) (by assumption) (by decide) | lia | omega)))⟩
end
end Mine

-- part L4
namespace Mine
open PySem PySem.W PySem.Calls PyProof.Rows


structure BinR (C : Cx) (n : Nat) (op : Operator) (a b : AV) (σ : List AO) (Q : AV → List AO → Prop) : Prop where
  run : ∀ (A : Around), Room n A → ∀ (As : List Addr) (s : Shared) (E : Value → Shared → Prop) (u v : Value), Sim C As σ s.heap → Rep s.heap As a u → Rep s.heap As b v →
    wpAny (model C.prog C.w) A (binaryOp op u v) (PostE C As s Q) E s

structure CmpR (C : Cx) (n : Nat) (op : CmpOp) (a b : AV) (σ : List AO) (Q : Bool → List AO → Prop) : Prop where
  run : ∀ (A : Around), Room n A → ∀ (As : List Addr) (s : Shared) (E : Value → Shared → Prop) (u v : Value), Sim C As σ s.heap → Rep s.heap As a u → Rep s.heap As b v →
    wpAny (model C.prog C.w) A (compareOp op u v) (fun r s' => ∃ b, r = .bool b ∧ PostB C As s Q b s') E s

structure SubR (C : Cx) (n : Nat) (a i : AV) (σ : List AO) (Q : AV → List AO → Prop) : Prop where
  run : ∀ (A : Around), Room n A → ∀ (As : List Addr) (s : Shared) (E : Value → Shared → Prop) (u v : Value) (value slice : Expr), Sim C As σ s.heap → Rep s.heap As a u → Rep s.heap As i v →
    wpAny (model C.prog C.w) A (subscriptTail value slice u v) (PostE C As s Q) E s

structure CallV (C : Cx) (n : Nat) (f : Value) (l : List AV) (σ : List AO) (Q : AV → List AO → Prop) : Prop where
  run : ∀ (A : Around), Room n A → ∀ (As : List Addr) (s : Shared) (E : Value → Shared → Prop) (vs : List Value), Sim C As σ s.heap → RepL s.heap As l vs →
    wpAny (model C.prog C.w) A (call f vs []) (PostE C As s Q) E s

section
variable {C : Cx} {n : Nat} {sc : Scope} {ρ : List (Str × AV)} {env : Env} {As : List Addr} {σ : List AO} {s : Shared} {A : Around} {E : Value → Shared → Prop} {recs : List DefRec}

theorem ev_bin {op : Operator} {l r : Expr} {pos : Pos} {Q : AV → List AO → Prop} (h : EvE C n sc ρ l σ fun a σ₁ => EvE C n sc ρ r σ₁ fun b σ₂ => BinR C n op a b σ₂ Q) : EvE C n sc ρ (.BinOp l op r pos) σ Q := 
  ⟨fun A R env As s E F S => wpAny_BinOp (EvE.use h R F S fun u s₁ a σ₁ As₁ X₁ S₁ F₁ H₁ r₁ => EvE.use H₁ R F₁ S₁ fun v s₂ b σ₂ As₂ X₂ S₂ F₂ H₂ r₂ =>
    wpAny_mono (H₂.run A R As₂ s₂ E u v S₂ (r₁.ext S₁ X₂) r₂) (fun _ _ p => p.lift (X₁.trans X₂)) fun _ _ p => p)⟩
theorem ev_cmp {op : CmpOp} {l r : Expr} {pos : Pos} {Q : AV → List AO → Prop} (h : EvE C n sc ρ l σ fun a σ₁ => EvE C n sc ρ r σ₁ fun b σ₂ => CmpR C n op a b σ₂ fun c σ₃ => Q (.bool c) σ₃)
    (hm : behindInMarks op r = false := by with_unfolding_all rfl) : EvE C n sc ρ (.Compare l [op] [r] pos) σ Q := 
  ⟨fun A R env As s E F S => wpAny_Compare1 (hm := hm) (EvE.use h R F S fun u s₁ a σ₁ As₁ X₁ S₁ F₁ H₁ r₁ => EvE.use H₁ R F₁ S₁ fun v s₂ b σ₂ As₂ X₂ S₂ F₂ H₂ r₂ =>
    wpAny_mono (H₂.run A R As₂ s₂ E u v S₂ (r₁.ext S₁ X₂) r₂) (fun _ _ p => by
      obtain ⟨c, rfl, σ', As', X, S', q⟩ := p
      exact ⟨_, _, _, (X₁.trans X₂).trans X, S', q, rfl⟩) fun _ _ p => p)⟩
theorem eb_cmp {op : CmpOp} {l r : Expr} {pos : Pos} {Q : Bool → List AO → Prop} (h : EvE C n sc ρ l σ fun a σ₁ => EvE C n sc ρ r σ₁ fun b σ₂ => CmpR C n op a b σ₂ Q)
    (hm : behindInMarks op r = false := by with_unfolding_all rfl) : EvB C n sc ρ (.Compare l [op] [r] pos) σ Q := 
  ⟨fun A R env As s E F S => wpAny_isTrue_Compare1 (hm := hm) (EvE.use h R F S fun u s₁ a σ₁ As₁ X₁ S₁ F₁ H₁ r₁ => EvE.use H₁ R F₁ S₁ fun v s₂ b σ₂ As₂ X₂ S₂ F₂ H₂ r₂ =>
    wpAny_mono (H₂.run A R As₂ s₂ E u v S₂ (r₁.ext S₁ X₂) r₂) (fun _ _ p => by
      obtain ⟨c, rfl, x⟩ := p
      exact wpAny_truthy_bool (x.lift (X₁.trans X₂))) fun _ _ p => p)⟩
theorem eb_not {x : Expr} {pos : Pos} {Q : Bool → List AO → Prop} (h : EvB C n sc ρ x σ fun b σ' => Q (!b) σ') : EvB C n sc ρ (.UnaryOp .Not x pos) σ Q := 
  ⟨fun A R env As s E F S => wpAny_isTrue_Not (EvB.use h R F S fun b s₁ σ₁ As₁ X₁ S₁ F₁ H₁ => ⟨_, _, X₁, S₁, H₁⟩)⟩
theorem eb_value {e : Expr} {Q : Bool → List AO → Prop} (h : EvE C n sc ρ e σ fun a σ' => ∃ b, a = .bool b ∧ Q b σ')
    (he : ∀ env whole, isTrue e env whole = (do let v ← whole; standAt e.pos; holding [v] (truthy v)) := by intro _ _; rfl) : EvB C n sc ρ e σ Q := 
  ⟨fun A R env As s E F S => isTrue_plain (EvE.use h R F S fun v s₁ a σ₁ As₁ X₁ S₁ F₁ H₁ r₁ => by
    obtain ⟨b, rfl, q⟩ := H₁
    unfold Rep at r₁; subst r₁
    exact wpAny_truthy_bool ⟨_, _, X₁, S₁, q⟩) (he _ _)⟩
theorem ev_ifexp {t b o : Expr} {pos : Pos} {Q : AV → List AO → Prop} (h : EvB C n sc ρ t σ fun c σ' => match c with | true => EvE C n sc ρ b σ' Q | false => EvE C n sc ρ o σ' Q) : EvE C n sc ρ (.IfExp t b o pos) σ Q := 
  ⟨fun A R env As s E F S => wpAny_IfExp (EvB.use h R F S fun c s₁ σ₁ As₁ X₁ S₁ F₁ H₁ => by
    cases c
    · simp only [Bool.false_eq_true, if_false]
      exact wpAny_mono (H₁.run A R env As₁ s₁ E F₁ S₁) (fun _ _ p => p.lift X₁) fun _ _ p => p
    · simp only [if_true]
      exact wpAny_mono (H₁.run A R env As₁ s₁ E F₁ S₁) (fun _ _ p => p.lift X₁) fun _ _ p => p)⟩


noncomputable def EvAll (C : Cx) (n : Nat) (sc : Scope) (ρ : List (Str × AV)) (op : BoolOp) : List Expr → List AO → (Bool → List AO → Prop) → Prop
  | [], σ, Q => Q (op == .And) σ
  | e :: r, σ, Q => EvB C n sc ρ e σ fun b σ' => match op, b with
    | .And, true => EvAll C n sc ρ op r σ' Q
    | .And, false => Q false σ'
    | .Or, true => Q true σ'
    | .Or, false => EvAll C n sc ρ op r σ' Q
theorem eva_and {e : Expr} {r : List Expr} {Q : Bool → List AO → Prop} (h : EvB C n sc ρ e σ fun b σ' => match b with | true => EvAll C n sc ρ .And r σ' Q | false => Q false σ') : EvAll C n sc ρ .And (e :: r) σ Q := by
  unfold EvAll; exact h.mono fun b σ' q => by cases b <;> exact q
theorem eva_or {e : Expr} {r : List Expr} {Q : Bool → List AO → Prop} (h : EvB C n sc ρ e σ fun b σ' => match b with | true => Q true σ' | false => EvAll C n sc ρ .Or r σ' Q) : EvAll C n sc ρ .Or (e :: r) σ Q := by
  unfold EvAll; exact h.mono fun b σ' q => by cases b <;> exact q
theorem eva_and0 {Q : Bool → List AO → Prop} (h : Q true σ) : EvAll C n sc ρ .And [] σ Q := h
theorem eva_or0 {Q : Bool → List AO → Prop} (h : Q false σ) : EvAll C n sc ρ .Or [] σ Q := h
theorem EvAll.use {op : BoolOp} : ∀ {es : List Expr} {As : List Addr} {σ : List AO} {s : Shared} {Q : Bool → List AO → Prop}, EvAll C n sc ρ op es σ Q → Room n A → FrameOk C sc ρ env As s.heap → Sim C As σ s.heap →
    wpAny (model C.prog C.w) A (allTrue op es env) (PostB C As s Q) E s
  | [], As, σ, s, Q, h, R, F, S => by
    show wpAny _ _ (pure (op == .And)) _ _ _
    exact wpAny_pure (PostB.now S h)
  | e :: r, As, σ, s, Q, h, R, F, S => by
    unfold EvAll at h
    cases op with
    | And =>
      refine wpAny_allTrue_And_cons (EvB.use h R F S fun c s₁ σ₁ As₁ X₁ S₁ F₁ H₁ => ?_)
      cases c
      · simp at H₁ ⊢; exact ⟨_, _, X₁, S₁, H₁⟩
      · simp at H₁ ⊢; exact wpAny_mono (EvAll.use H₁ R F₁ S₁) (fun _ _ p => p.lift X₁) fun _ _ p => p
    | Or =>
      refine wpAny_allTrue_Or_cons (EvB.use h R F S fun c s₁ σ₁ As₁ X₁ S₁ F₁ H₁ => ?_)
      cases c
      · simp at H₁ ⊢; exact wpAny_mono (EvAll.use H₁ R F₁ S₁) (fun _ _ p => p.lift X₁) fun _ _ p => p
      · simp at H₁ ⊢; exact ⟨_, _, X₁, S₁, H₁⟩
theorem eb_bool {op : BoolOp} {es : List Expr} {pos : Pos} {Q : Bool → List AO → Prop} (h : EvAll C n sc ρ op es σ Q) : EvB C n sc ρ (.BoolOp op es pos) σ Q := 
  ⟨fun A R env As s E F S => wpAny_isTrue_BoolOp (EvAll.use h R F S)⟩

theorem ev_and {x y : Expr} {pos : Pos} {Q : AV → List AO → Prop} (h : EvE C n sc ρ x σ fun a σ' => ∃ b, a = .bool b ∧ match b with | true => EvE C n sc ρ y σ' Q | false => Q (.bool false) σ') : EvE C n sc ρ (.BoolOp .And [x, y] pos) σ Q := 
  ⟨fun A R env As s E F S => wpAny_And2 (EvE.use h R F S fun v s₁ a σ₁ As₁ X₁ S₁ F₁ H₁ r₁ => by
    obtain ⟨b, rfl, q⟩ := H₁
    unfold Rep at r₁; subst r₁
    refine wpAny_truthy_bool ?_
    cases b
    · simp only [Bool.false_eq_true, if_false]
      exact ⟨_, _, _, X₁, S₁, q, rfl⟩
    · simp only [if_true]
      exact wpAny_mono (q.run A R env As₁ s₁ E F₁ S₁) (fun _ _ p => p.lift X₁) fun _ _ p => p)⟩

theorem ev_neg {x : Expr} {pos : Pos} {Q : AV → List AO → Prop} (h : EvE C n sc ρ x σ fun a σ' => ∃ i, a = .int i ∧ Q (.int (-i)) σ') : EvE C n sc ρ (.UnaryOp .USub x pos) σ Q := 
  ⟨fun A R env As s E F S => wpAny_UnaryOp (EvE.use h R F S fun v s₁ a σ₁ As₁ X₁ S₁ F₁ H₁ r₁ => by
    obtain ⟨i, rfl, q⟩ := H₁
    unfold Rep at r₁; obtain ⟨t, rfl⟩ := r₁
    exact PyProof.Rows.neg_int (PostE.lift X₁ (PostE.here S₁ q ⟨_, rfl⟩)))⟩

theorem ev_sub {x i : Expr} {pos : Pos} {Q : AV → List AO → Prop} (h : EvE C n sc ρ x σ fun a σ₁ => EvE C n sc ρ i σ₁ fun b σ₂ => SubR C n a b σ₂ Q) : EvE C n sc ρ (.Subscript x i pos) σ Q := 
  ⟨fun A R env As s E F S => Subscript_ (EvE.use h R F S fun u s₁ a σ₁ As₁ X₁ S₁ F₁ H₁ r₁ => EvE.use H₁ R F₁ S₁ fun v s₂ b σ₂ As₂ X₂ S₂ F₂ H₂ r₂ =>
    wpAny_mono (H₂.run A R As₂ s₂ E u v x i S₂ (r₁.ext S₁ X₂) r₂) (fun _ _ p => p.lift (X₁.trans X₂)) fun _ _ p => p)⟩

-- ints
theorem bin_add {i j : Int} {Q : AV → List AO → Prop} (h : Q (.int (i + j)) σ) : BinR C n .Add (.int i) (.int j) σ Q := ⟨fun A R As s E u v S hu hv => by
  obtain ⟨t, rfl⟩ := hu; obtain ⟨t', rfl⟩ := hv
  exact PyProof.Rows.add_int (PostE.here S h ⟨_, rfl⟩)⟩
theorem bin_sub {i j : Int} {Q : AV → List AO → Prop} (h : Q (.int (i - j)) σ) : BinR C n .Sub (.int i) (.int j) σ Q := ⟨fun A R As s E u v S hu hv => by
  obtain ⟨t, rfl⟩ := hu; obtain ⟨t', rfl⟩ := hv
  exact PyProof.Rows.sub_int (PostE.here S h ⟨_, rfl⟩)⟩
theorem bin_mod {i j : Int} {Q : AV → List AO → Prop} (hj : j ≠ 0) (h : Q (.int (i.fmod j)) σ) : BinR C n .Mod (.int i) (.int j) σ Q := ⟨fun A R As s E u v S hu hv => by
  obtain ⟨t, rfl⟩ := hu; obtain ⟨t', rfl⟩ := hv
  exact PyProof.Rows.mod_int' hj (PostE.here S h ⟨_, rfl⟩)⟩
theorem bin_mul {i j : Int} {Q : AV → List AO → Prop} (hm : IntMulOk i j) (h : Q (.int (i * j)) σ) : BinR C n .Mult (.int i) (.int j) σ Q := ⟨fun A R As s E u v S hu hv => by
  obtain ⟨t, rfl⟩ := hu; obtain ⟨t', rfl⟩ := hv
  exact PyProof.Rows.mul_int (PostE.here S h ⟨_, rfl⟩) hm⟩
theorem bin_div {i j : Int} {Q : AV → List AO → Prop} (hj : j ≠ 0) (hp : Builtin.divisionGoesByPylong i j = false) (h : Q (.int (i.fdiv j)) σ) : BinR C n .FloorDiv (.int i) (.int j) σ Q := ⟨fun A R As s E u v S hu hv => by
  obtain ⟨t, rfl⟩ := hu; obtain ⟨t', rfl⟩ := hv
  exact PyProof.Rows.floordiv_int hj (PostE.here S h ⟨_, rfl⟩) (.inl hp)⟩
theorem bin_pow {i j : Int} {Q : AV → List AO → Prop} (h0 : 0 ≤ j) (h1 : j ≤ 1000000) (hi : i.natAbs < 2 ^ 64) (h : Q (.int (i ^ j.toNat)) σ) : BinR C n .Pow (.int i) (.int j) σ Q := ⟨fun A R As s E u v S hu hv => by
  obtain ⟨t, rfl⟩ := hu; obtain ⟨t', rfl⟩ := hv
  exact PyProof.Rows.pow_int_small h0 h1 hi (PostE.here S h ⟨_, rfl⟩)⟩
theorem cmp_eq_int {i j : Int} {Q : Bool → List AO → Prop} (h : Q (i == j) σ) : CmpR C n .Eq (.int i) (.int j) σ Q := ⟨fun A R As s E u v S hu hv => by
  obtain ⟨t, rfl⟩ := hu; obtain ⟨t', rfl⟩ := hv
  exact PyProof.Rows.eq_int ⟨_, rfl, PostB.now S h⟩⟩
theorem cmp_ne_int {i j : Int} {Q : Bool → List AO → Prop} (h : Q (i != j) σ) : CmpR C n .NotEq (.int i) (.int j) σ Q := ⟨fun A R As s E u v S hu hv => by
  obtain ⟨t, rfl⟩ := hu; obtain ⟨t', rfl⟩ := hv
  exact PyProof.Rows.ne_int ⟨_, rfl, PostB.now S h⟩⟩
theorem cmp_lt_int {i j : Int} {Q : Bool → List AO → Prop} (h : Q (decide (i < j)) σ) : CmpR C n .Lt (.int i) (.int j) σ Q := ⟨fun A R As s E u v S hu hv => by
  obtain ⟨t, rfl⟩ := hu; obtain ⟨t', rfl⟩ := hv
  exact PyProof.Rows.lt_int ⟨_, rfl, PostB.now S h⟩⟩
theorem cmp_gt_int {i j : Int} {Q : Bool → List AO → Prop} (h : Q (decide (j < i)) σ) : CmpR C n .Gt (.int i) (.int j) σ Q := ⟨fun A R As s E u v S hu hv => by
  obtain ⟨t, rfl⟩ := hu; obtain ⟨t', rfl⟩ := hv
  exact PyProof.Rows.gt_int ⟨_, rfl, PostB.now S h⟩⟩
theorem cmp_eq_str {x y : Str} {Q : Bool → List AO → Prop} (h : Q (x == y) σ) : CmpR C n .Eq (.str x) (.str y) σ Q := ⟨fun A R As s E u v S hu hv => by
  obtain ⟨t, rfl⟩ := hu; obtain ⟨t', rfl⟩ := hv
  exact PyProof.Rows.eq_str ⟨_, rfl, PostB.now S h⟩⟩
theorem cmp_ne_str {x y : Str} {Q : Bool → List AO → Prop} (h : Q (x != y) σ) : CmpR C n .NotEq (.str x) (.str y) σ Q := ⟨fun A R As s E u v S hu hv => by
  obtain ⟨t, rfl⟩ := hu; obtain ⟨t', rfl⟩ := hv
  exact PyProof.Rows.ne_str ⟨_, rfl, PostB.now S h⟩⟩

-- items
theorem sub_ops {slice : Expr} {o : Value} {i : Value} : ∃ ops, subscripted slice false o i = operate ops (getItem o i) := by
  cases slice with
  | Slice a b c d => cases c <;> exact ⟨_, rfl⟩
  | _ => exact ⟨_, rfl⟩
theorem TupAt.isTup {h : Heap} {a vs} (x : TupAt h a vs) : IsTup h a vs := let ⟨n, e⟩ := x; ⟨_, e, rfl, n, rfl⟩
theorem subTail {K : Value → Shared → Prop} {o i : Value} {T id : String} {value slice : Expr} (hT : s.TypeIs o T) (hl : typeLookup (.type T) "__getitem__" = pure (some (.builtin id)))
    (hg : wpAny (model C.prog C.w) A (getItem o i) K E s) : wpAny (model C.prog C.w) A (subscriptTail value slice o i) K E s := by
  obtain ⟨ops, e⟩ := sub_ops (slice := slice) (o := o) (i := i)
  exact tail_any hT hl hg e
theorem sub_tup {l : List AV} {i : Int} {j : Nat} {a : AV} {Q : AV → List AO → Prop} (hj : seqIndex? i l.length = some j) (ha : l[j]? = some a) (h : Q a σ) (hlo : -(2 ^ 63) ≤ i := by decide) (hhi : i < 2 ^ 63 := by decide) : SubR C n (.tup l) (.int i) σ Q := 
  ⟨fun A R As s E u v value slice S hu hv => by
    unfold Rep at hu hv
    obtain ⟨t, vs, rfl, _, T, r⟩ := hu; obtain ⟨tk, rfl⟩ := hv
    obtain ⟨x, hx, rx⟩ := r.get ha
    refine subTail ⟨_, T.choose_spec, rfl⟩ slot_tuple_getitem.lookup ?_
    refine PyProof.Rows.getItem_tuple T.isTup hlo hhi (j := j) (x := x) ?_ (by simpa using hx) (PostE.now S h rx)
    rw [← Array.length_toList, r.length]; exact hj⟩
theorem sub_list {k : Nat} {l : List AV} {i : Int} {a : AV} {Q : AV → List AO → Prop} (hk : σ[k]? = some (.list l)) (h0 : 0 ≤ i) (ha : l[i.toNat]? = some a) (h : Q a σ) (hhi : i < 2 ^ 63 := by decide) : SubR C n (.ref k) (.int i) σ Q := 
  ⟨fun A R As s E u v value slice S hu hv => by
    unfold Rep at hu hv
    obtain ⟨t, rfl, e⟩ := hu; obtain ⟨tk, rfl⟩ := hv
    obtain ⟨vs, pl, r⟩ := S.obj k t _ e hk
    obtain ⟨x, hx, rx⟩ := r.get ha
    have hl : s.heap.IsList t vs := pl.isList
    exact subTail hl.typeIs slot_list_getitem.lookup (wpAny_getItem_list hl h0 hhi (by simpa using hx) (PostE.now S h rx))⟩

-- calls
theorem call_use {f : Str} {p pos : Pos} {e : Expr} {es : List Expr} {fv : Value} {P : List AV → List AO → Prop} {K : Value → Shared → Prop} (hC : C.Ok recs) (hx : sc.names.lookup f = some .globalImplicit)
    (hf : C.mg f = some fv ∨ (C.mg f = Option.none ∧ C.mb f = some fv))
    (hv : (∃ id, fv = .builtin id) ∨ (∃ T, fv = .type T) ∨ ∃ a o fd, fv = .ref a ∧ C.B.get? a = some o ∧ o.data = .func fd)
    (h : EvL C n sc ρ (e :: es) σ P) (hs : (e :: es).all (fun e => !isStarred e) = true) (hd : (f == ("__debug__" : Str)) = false) (R : Room n A) (F : FrameOk C sc ρ env As s.heap) (S : Sim C As σ s.heap)
    (k : ∀ vs s' avs σ' As₂, Ext [] As s As₂ s' → Sim C As₂ σ' s'.heap → P avs σ' → RepL s'.heap As₂ avs vs → wpAny (model C.prog C.w) A (PySem.call fv vs) K E s') :
    wpAny (model C.prog C.w) A (eval (.Call (.Name f p) (e :: es) [] pos) env) K E s := by
  refine wpAny_Call_NameR (Name_function_global (by rw [F.scope]; exact F.kind) (by unfold Env.kindOf; rw [F.scope]; exact hx) ?_ hd)
  have hg : s.heap.Ns env.globals C.mg := by rw [F.globals]; exact hC.g.keeps S.base
  have hb : s.heap.Ns env.builtins C.mb := by rw [F.builtins]; exact hC.b.keeps S.base
  have key : wpAny (model C.prog C.w) A (callWith pos fv [] (backTo pos (starEach (e :: es) env)) []) K E s := by
    have args : ∀ (P : Shared → Prop), (∀ s' As₂, Ext [] As s As₂ s' → (∀ b o, C.B.get? b = some o → s'.heap.get? b = some o) → P s') →
        wpAny (model C.prog C.w) A (PySem.spliced (backTo pos (starEach (e :: es) env))) (fun vs s₁ => P s₁ ∧ wpAny (model C.prog C.w) A (PySem.call fv vs) K E s₁) E s := fun P hP =>
      EvL.spliced hs h R F S fun vs s' avs σ' As₂ X S' F' H r => ⟨hP s' As₂ X S'.base, k vs s' avs σ' As₂ X S' H r⟩
    have he : starEach (e :: es) env = (false, eval e env) :: starEach es env := by
      rw [notStarred hs, notStarred (by simp only [List.all_cons, Bool.and_eq_true] at hs; exact hs.2)]; rfl
    have hpl : (backTo pos (starEach es env)).any (·.1) = false := by
      rw [notStarred (by simp only [List.all_cons, Bool.and_eq_true] at hs; exact hs.2)]
      rw [List.any_eq_false]
      intro x hx
      obtain ⟨y, hy, rfl⟩ := List.mem_map.mp hx
      obtain ⟨z, hz, rfl⟩ := List.mem_map.mp hy
      simp
    rcases hv with ⟨id, rfl⟩ | ⟨T, rfl⟩ | ⟨a, o, fd, rfl, ho, hdat⟩
    · exact callWith_builtin1 (wpAny_mono (args (fun _ => True) fun _ _ _ _ => trivial) (fun _ _ p => p.2) fun _ _ p => p) he hpl
    · exact PyProof.Rows.callWith_type1 (wpAny_mono (args (fun _ => True) fun _ _ _ _ => trivial) (fun _ _ p => p.2) fun _ _ p => p) he hpl
    · exact callWith_def_at (h' := C.B) ho hdat (args (fun s' => s'.heap.get? a = some o) fun s' As₂ X k => k a o ho) he
  rcases hf with hf | ⟨hf, hf'⟩
  · exact loadGlobal_global hg hf key
  · exact loadGlobal_builtin hg hf hb hf' key
theorem EvE.call {f : Str} {p pos : Pos} {e : Expr} {es : List Expr} {fv : Value} {Q : AV → List AO → Prop} (hC : C.Ok recs) (hx : sc.names.lookup f = some .globalImplicit)
    (hf : C.mg f = some fv ∨ (C.mg f = Option.none ∧ C.mb f = some fv))
    (hv : (∃ id, fv = .builtin id) ∨ (∃ T, fv = .type T) ∨ ∃ a o fd, fv = .ref a ∧ C.B.get? a = some o ∧ o.data = .func fd)
    (h : EvL C n sc ρ (e :: es) σ fun l σ' => CallV C n fv l σ' Q) (hs : (e :: es).all (fun e => !isStarred e) = true := by rfl) (hd : (f == ("__debug__" : Str)) = false := by decide) :
    EvE C n sc ρ (.Call (.Name f p) (e :: es) [] pos) σ Q := ⟨fun A R env As s E F S =>
  call_use hC hx hf hv h hs hd R F S fun vs s' avs σ' As₂ X S' H r => wpAny_mono (H.run A R As₂ s' E vs S' r) (fun _ _ p => p.lift X) fun _ _ p => p⟩
end
end Mine

-- part L5
namespace Mine
open PySem PySem.W PySem.Calls PySem.SeqAt PyProof.Rows

mutual
inductive PyOf (σ : List AO) : AV → PyData → Prop
  | none : PyOf σ .none .none
  | bool (b : Bool) : PyOf σ (.bool b) (.bool b)
  | int (i : Int) : PyOf σ (.int i) (.int i)
  | str (x : Str) : PyOf σ (.str x) (.str x)
  | tup {l : List AV} {ds : List PyData} : PyOfL σ l ds → PyOf σ (.tup l) (.tuple ds)
  | ref {i : Nat} {l : List AV} {ds : List PyData} : σ[i]? = some (.list l) → PyOfL σ l ds → PyOf σ (.ref i) (.list ds)
inductive PyOfL (σ : List AO) : List AV → List PyData → Prop
  | nil : PyOfL σ [] []
  | cons {a : AV} {d : PyData} {l : List AV} {ds : List PyData} : PyOf σ a d → PyOfL σ l ds → PyOfL σ (a :: l) (d :: ds)
end

section
variable {C : Cx} {n : Nat} {sc : Scope} {ρ : List (Str × AV)} {env : Env} {As : List Addr} {σ : List AO} {s : Shared} {A : Around} {E : Value → Shared → Prop} {recs : List DefRec}

mutual
theorem PyOf.reads {h : Heap} (S : Sim C As σ h) : ∀ {a : AV} {d : PyData} {v : Value}, PyOf σ a d → Rep h As a v → ∃ as, Reads h v d as
  | _, _, v, .none, r => by unfold Rep at r; subst r; exact ⟨_, .none⟩
  | _, _, v, .bool b, r => by unfold Rep at r; subst r; exact ⟨_, .bool b⟩
  | _, _, v, .int i, r => by unfold Rep at r; obtain ⟨t, rfl⟩ := r; exact ⟨_, .int i t⟩
  | _, _, v, .str x, r => by unfold Rep at r; obtain ⟨t, rfl⟩ := r; exact ⟨_, .str x t⟩
  | _, _, v, .tup p, r => by
    unfold Rep at r
    obtain ⟨a, vs, rfl, _, ⟨n, e⟩, r⟩ := r
    obtain ⟨as, q⟩ := PyOfL.reads S p r
    exact ⟨as, .tuple e rfl rfl q⟩
  | _, _, v, .ref hk p, r => by
    unfold Rep at r
    obtain ⟨a, rfl, e⟩ := r
    obtain ⟨vs, ⟨n, pl⟩, r⟩ := S.obj _ _ _ e hk
    obtain ⟨as, q⟩ := PyOfL.reads S p r
    exact ⟨a :: as, .list pl rfl rfl q⟩
theorem PyOfL.reads {h : Heap} (S : Sim C As σ h) : ∀ {l : List AV} {ds : List PyData} {vs : List Value}, PyOfL σ l ds → RepL h As l vs → ∃ as, ReadsAll h vs ds as
  | _, _, vs, .nil, r => by unfold RepL at r; subst r; exact ⟨_, .nil⟩
  | _, _, vs, .cons p q, r => by
    unfold RepL at r
    obtain ⟨v, rs, rfl, r1, r2⟩ := r
    obtain ⟨as, x⟩ := PyOf.reads S p r1
    obtain ⟨bs, y⟩ := PyOfL.reads S q r2
    exact ⟨_, .cons x y⟩
end

theorem cmp_eq {a b : AV} {da db : PyData} {Q : Bool → List AO → Prop} (pa : PyOf σ a da) (pb : PyOf σ b db) (ha : da.canLay0 = true) (hb : db.canLay0 = true) (hd : min da.depth db.depth ≤ 10) (h : Q (PyData.eqv da db) σ) :
    CmpR C n .Eq a b σ Q := ⟨fun A R As s E u v S hu hv => by
  obtain ⟨as, x⟩ := pa.reads S hu
  obtain ⟨bs, y⟩ := pb.reads S hv
  exact compareEq_reads x y ha hb (by have := R.un; (first | assumption | decide | exact le0 (by assumption) (by decide) | exact le1 (by assumption) (by decide) | exact le2 (by assumption) (by assumption) (by decide) | lia | omega)) ⟨_, rfl, PostB.now S h⟩⟩
theorem cmp_in_tup {a : AV} {l : List AV} {d : PyData} {ds : List PyData} {Q : Bool → List AO → Prop} (pa : PyOf σ a d) (pb : PyOfL σ l ds) (ha : d.canLay0 = true) (hb : PyData.canLayAll0 ds = true) (hd : min (PyData.depthAll ds) d.depth ≤ 10)
    (h : Q (ds.any fun y => PyData.eqv y d) σ) : CmpR C n .In a (.tup l) σ Q := ⟨fun A R As s E u v S hu hv => by
  obtain ⟨as, x⟩ := pa.reads S hu
  obtain ⟨bs, y⟩ := (PyOf.tup pb).reads S hv
  exact in_tuple_reads y x hb ha (by have := R.un; (first | assumption | decide | exact le0 (by assumption) (by decide) | exact le1 (by assumption) (by decide) | exact le2 (by assumption) (by assumption) (by decide) | lia | omega)) ⟨_, rfl, PostB.now S h⟩⟩
theorem cmp_notin_tup {a : AV} {l : List AV} {d : PyData} {ds : List PyData} {Q : Bool → List AO → Prop} (pa : PyOf σ a d) (pb : PyOfL σ l ds) (ha : d.canLay0 = true) (hb : PyData.canLayAll0 ds = true) (hd : min (PyData.depthAll ds) d.depth ≤ 10)
    (h : Q (!ds.any fun y => PyData.eqv y d) σ) : CmpR C n .NotIn a (.tup l) σ Q := ⟨fun A R As s E u v S hu hv => by
  obtain ⟨as, x⟩ := pa.reads S hu
  obtain ⟨bs, y⟩ := (PyOf.tup pb).reads S hv
  exact notIn_tuple_reads y x hb ha (by have := R.un; (first | assumption | decide | exact le0 (by assumption) (by decide) | exact le1 (by assumption) (by decide) | exact le2 (by assumption) (by assumption) (by decide) | lia | omega)) ⟨_, rfl, PostB.now S h⟩⟩
theorem cmp_notin_list {a : AV} {k : Nat} {l : List AV} {d : PyData} {ds : List PyData} {Q : Bool → List AO → Prop} (hk : σ[k]? = some (.list l)) (pa : PyOf σ a d) (pb : PyOfL σ l ds) (ha : d.canLay0 = true) (hb : PyData.canLayAll0 ds = true) (hd : min (PyData.depthAll ds) d.depth ≤ 10)
    (h : Q (!ds.any fun y => PyData.eqv y d) σ) : CmpR C n .NotIn a (.ref k) σ Q := ⟨fun A R As s E u v S hu hv => by
  obtain ⟨as, x⟩ := pa.reads S hu
  obtain ⟨bs, y⟩ := (PyOf.ref hk pb).reads S hv
  exact notIn_list_reads y x hb ha (by have := R.un; (first | assumption | decide | exact le0 (by assumption) (by decide) | exact le1 (by assumption) (by decide) | exact le2 (by assumption) (by assumption) (by decide) | lia | omega)) ⟨_, rfl, PostB.now S h⟩⟩

-- dicts keyed by ints
noncomputable def getI {α : Type} (l : List (Int × α)) (k : Int) : Option α := (l.find? fun kv => kv.1 = k).map (·.2)
noncomputable def setI {α : Type} (l : List (Int × α)) (k : Int) (v : α) : List (Int × α) := if l.any (fun kv => kv.1 = k) then l.map (fun kv => if kv.1 = k then (kv.1, v) else kv) else l ++ [(k, v)]

theorem RepK.nil {α : Type} {h : Heap} {As : List Addr} : RepK (α := α) h As [] [] := ⟨rfl, RepL.nil⟩
theorem RepK.uncons {α : Type} {h : Heap} {As : List Addr} {k : α} {a : AV} {l : List (α × AV)} {kvs : List (α × Value)} (x : RepK h As ((k, a) :: l) kvs) : ∃ v r, kvs = (k, v) :: r ∧ Rep h As a v ∧ RepK h As l r := by
  obtain ⟨e, r⟩ := x
  cases kvs with
  | nil => simp at e
  | cons p r' =>
    obtain ⟨k', v⟩ := p
    simp at e
    simp only [List.map_cons] at r
    unfold RepL at r
    obtain ⟨v', r'', e', r1, r2⟩ := r
    simp at e'
    obtain ⟨rfl, rfl⟩ := e'
    exact ⟨v, r', by rw [e.1], r1, e.2, r2⟩
theorem RepK.cons {α : Type} {h : Heap} {As : List Addr} {k : α} {a : AV} {l : List (α × AV)} {v : Value} {kvs : List (α × Value)} (x : Rep h As a v) (y : RepK h As l kvs) : RepK h As ((k, a) :: l) ((k, v) :: kvs) :=
  ⟨by simp [y.1], RepL.cons x y.2⟩
theorem RepK.get {α : Type} [DecidableEq α] {h : Heap} {As : List Addr} {k : α} : ∀ {l : List (α × AV)} {kvs : List (α × Value)}, RepK h As l kvs →
    (∀ a, (l.find? fun kv => kv.1 = k).map (·.2) = some a → ∃ v, valueAt kvs k = some v ∧ Rep h As a v) ∧ ((l.find? fun kv => kv.1 = k).map (·.2) = Option.none → valueAt kvs k = Option.none)
  | [], kvs, x => by
    obtain ⟨e, _⟩ := x
    have : kvs = [] := by simpa using e
    subst this
    exact ⟨fun a q => by simp at q, fun _ => rfl⟩
  | (k', a') :: l, kvs, x => by
    obtain ⟨v, r, rfl, r1, r2⟩ := x.uncons
    have ih := RepK.get (k := k) r2
    by_cases hk : k' = k
    · refine ⟨fun a q => ⟨v, by simp [valueAt, hk], ?_⟩, fun q => by simp [hk] at q⟩
      simp [hk] at q; subst q; exact r1
    · refine ⟨fun a q => ?_, fun q => ?_⟩
      · rw [List.find?_cons_of_neg (by simp [hk])] at q
        obtain ⟨v', h1, h2⟩ := ih.1 a q
        exact ⟨v', by simpa [valueAt, hk] using h1, h2⟩
      · rw [List.find?_cons_of_neg (by simp [hk])] at q
        have := ih.2 q
        simpa [valueAt, hk] using this
theorem RepK.any {α : Type} {h : Heap} {As : List Addr} {p : α → Bool} : ∀ {l : List (α × AV)} {kvs : List (α × Value)}, RepK h As l kvs → kvs.any (fun kv => p kv.1) = l.any (fun kv => p kv.1)
  | l, kvs, ⟨e, _⟩ => by
    have h1 : kvs.any (fun kv => p kv.1) = (kvs.map (·.1)).any p := by rw [List.any_map]; rfl
    have h2 : l.any (fun kv => p kv.1) = (l.map (·.1)).any p := by rw [List.any_map]; rfl
    rw [h1, h2, e]
theorem RepK.setMap {α : Type} [DecidableEq α] {h : Heap} {As : List Addr} {k : α} {a : AV} {v : Value} (hr : Rep h As a v) : ∀ {l : List (α × AV)} {kvs : List (α × Value)}, RepK h As l kvs →
    RepK h As (l.map fun kv => if kv.1 = k then (kv.1, a) else kv) (kvs.map fun kv => if kv.1 = k then (kv.1, v) else kv)
  | [], kvs, x => by
    obtain ⟨e, _⟩ := x
    have : kvs = [] := by simpa using e
    subst this; exact RepK.nil
  | (k', a') :: l, kvs, x => by
    obtain ⟨v', r, rfl, r1, r2⟩ := x.uncons
    have ih := RepK.setMap (k := k) hr r2
    simp only [List.map_cons]
    by_cases hk : k' = k
    · simp only [hk, if_true]; exact RepK.cons hr ih
    · simp only [hk, if_false]; exact RepK.cons r1 ih
theorem RepK.snoc {α : Type} {h : Heap} {As : List Addr} {k : α} {a : AV} {v : Value} {l : List (α × AV)} {kvs : List (α × Value)} (x : RepK h As l kvs) (hr : Rep h As a v) : RepK h As (l ++ [(k, a)]) (kvs ++ [(k, v)]) :=
  ⟨by simp [x.1], by simpa using x.2.append (RepL.cons hr RepL.nil)⟩
theorem RepK.set {h : Heap} {As : List Addr} {k : Int} {a : AV} {v : Value} {l : List (Int × AV)} {kvs : List (Int × Value)} (x : RepK h As l kvs) (hr : Rep h As a v) : RepK h As (setI l k a) (stored kvs k v) := by
  unfold setI stored
  have e := x.any (p := fun j => decide (j = k))
  rw [e]
  split
  · exact x.setMap hr
  · exact x.snoc hr

theorem isInt (i : Int) (t : Tok) : (intKind C.prog C.w).is i (.int i t) = true := by simp [intKind, Value.isInt]
theorem Sim.notSys {h : Heap} (S : Sim C As σ h) {a : Addr} (ha : a ∈ As) : (a == sysModules) = false := by
  have := S.hi a ha
  rw [beq_eq_false_iff_ne]
  intro e
  rw [e] at this
  exact absurd this (by decide)


theorem Sim.put {h' : Heap} {tk : Nat} {k : Nat} {a : Addr} {o : AO} (S : Sim C As σ s.heap) (ha : As[k]? = some a) (hs : Heap.SameBut a s.heap h') (ho : ObjAt C h' As a o) :
    Sim C As (σ.set k o) h' ∧ Ext [] As s As { s with heap := h', toks := tk } := by
  have hmem : a ∈ As := List.mem_of_getElem? ha
  have hT : ∀ b vs, b ∉ As → TupAt s.heap b vs → TupAt h' b vs := fun b vs hb t => by
    obtain ⟨n, e⟩ := id t
    exact ⟨n, (hs.2 b (fun q => hb (q ▸ hmem))).trans e⟩
  refine ⟨⟨fun b x e => (hs.2 b (fun q => by rw [q, S.off a hmem] at e; cases e)).trans (S.base b x e), by simp [S.len], S.nodup, S.off, S.hi, fun i b ob h1 h2 => ?_⟩, ⟨_, _, rfl⟩,
    fun b x hb _ e => (hs.2 b (fun q => hb (q ▸ hmem))).trans e, [], by simp, by simp⟩
  by_cases hi : i = k
  · subst hi
    rw [ha] at h1; cases h1
    have hlt : i < σ.length := S.len ▸ (List.getElem?_eq_some_iff.mp ha).1
    rw [List.getElem?_set_self hlt] at h2
    cases h2; exact ho
  · rw [List.getElem?_set_ne (Ne.symm hi)] at h2
    have hne : b ≠ a := fun q => by
      subst q
      obtain ⟨l1, e1⟩ := List.getElem?_eq_some_iff.mp h1
      obtain ⟨l2, e2⟩ := List.getElem?_eq_some_iff.mp ha
      exact hi ((List.getElem?_inj l1 S.nodup).mp (h1.trans ha.symm))
    exact (S.obj i b ob h1 h2).keepT hT (hs.2 b hne)

theorem Sim.tupBut {h h' : Heap} (S : Sim C As σ h) {a : Addr} (ha : a ∈ As) (hs : Heap.SameBut a h h') : ∀ b vs, b ∉ As → TupAt h b vs → TupAt h' b vs := fun b vs hb t => by
  obtain ⟨n, e⟩ := id t
  exact ⟨n, (hs.2 b (fun q => hb (q ▸ ha))).trans e⟩

-- a dict keyed by ints: read, asked, written
theorem sub_dictI {k : Nat} {l : List (Int × AV)} {i : Int} {a : AV} {Q : AV → List AO → Prop} {ep : Nat} (hk : σ[k]? = some (.dictI l ep)) (ha : getI l i = some a) (h : Q a σ) : SubR C n (.ref k) (.int i) σ Q := 
  ⟨fun A R As s E u v value slice S hu hv => by
    unfold Rep at hu hv
    obtain ⟨t, rfl, e⟩ := hu; obtain ⟨tk, rfl⟩ := hv
    obtain ⟨kvs, d, r⟩ := S.obj k t _ e hk
    obtain ⟨x, hx, rx⟩ := (r.get (k := i)).1 a ha
    exact subTail d.dictOf.typeIs slot_dict_getitem.lookup (wpAny_getItem_of (isInt i tk) d.dictOf.mapOf hx (PostE.here S h rx))⟩
theorem cmp_in_dictI {k : Nat} {l : List (Int × AV)} {i : Int} {Q : Bool → List AO → Prop} {ep : Nat} (hk : σ[k]? = some (.dictI l ep)) (h : Q (getI l i).isSome σ) : CmpR C n .In (.int i) (.ref k) σ Q := 
  ⟨fun A R As s E u v S hu hv => by
    unfold Rep at hu hv
    obtain ⟨t, rfl, e⟩ := hv; obtain ⟨tk, rfl⟩ := hu
    obtain ⟨kvs, d, r⟩ := S.obj k t _ e hk
    refine wpAny_in_of (isInt i tk) (S.notSys (List.mem_of_getElem? e)) d.dictOf.mapOf ⟨_, rfl, ?_⟩
    have q : (valueAt kvs i).isSome = (getI l i).isSome := by
      cases hg : getI l i with
      | none => rw [(r.get (k := i)).2 hg]; rfl
      | some a => obtain ⟨x, hx, _⟩ := (r.get (k := i)).1 a hg; rw [hx]; rfl
    rw [q]
    exact ⟨σ, As, ⟨⟨_, _, rfl⟩, fun _ _ _ _ e => e, [], by simp, by simp⟩, S, h⟩⟩
theorem set_dictI {k : Nat} {l : List (Int × AV)} {i : Int} {a : AV} {u v x : Value} {K : Unit → Shared → Prop} {ep : Nat} (S : Sim C As σ s.heap) (hk : σ[k]? = some (.dictI l ep)) (hu : Rep s.heap As (.ref k) u) (hi : Rep s.heap As (.int i) v) (hx : Rep s.heap As a x)
    (hl : l.length ≤ 1000) (h : ∀ s' ep', Ext [] As s As s' → Sim C As (σ.set k (.dictI (setI l i a) ep')) s'.heap → K () s') : wpAny (model C.prog C.w) A (setItem u v x) K E s := by
  unfold Rep at hu hi
  obtain ⟨t, rfl, e⟩ := hu; obtain ⟨tk, rfl⟩ := hi
  obtain ⟨kvs, d, r⟩ := S.obj k t _ e hk
  have hlen : kvs.length = l.length := by have := congrArg List.length r.1; simpa using this
  refine wpAny_setItem_pairs (isInt i tk) d.dictOf (fun h' d' hs => ?_) (by rw [hlen, sizeLine_eq]; (first | assumption | decide | exact le0 (by assumption) (by decide) | exact le1 (by assumption) (by decide) | exact le2 (by assumption) (by assumption) (by decide) | lia | omega))
  have hT := S.tupBut (List.mem_of_getElem? e) hs
  obtain ⟨ep', d'⟩ := d'.dictAt
  obtain ⟨S', X⟩ := S.put (tk := s.toks + 1) e hs (o := .dictI (setI l i a) ep') ⟨_, d', (RepK.set ⟨r.1, RepL.same hT r.2⟩ (hx.same hT))⟩
  exact h _ _ X S'
end
end Mine

-- part L6
namespace Mine
open PySem PySem.W PySem.Calls PySem.SeqAt PyProof.Rows

section
variable {C : Cx} {n : Nat} {sc : Scope} {ρ : List (Str × AV)} {env : Env} {As : List Addr} {σ : List AO} {s : Shared} {A : Around} {E : Value → Shared → Prop} {recs : List DefRec}

theorem one {h : Heap} {a : AV} {vs : List Value} (r : RepL h As [a] vs) : ∃ v, vs = [v] ∧ Rep h As a v := by
  unfold RepL at r
  obtain ⟨v, r', rfl, p, q⟩ := r
  unfold RepL at q; subst q
  exact ⟨v, rfl, p⟩
theorem two {h : Heap} {a b : AV} {vs : List Value} (r : RepL h As [a, b] vs) : ∃ u v, vs = [u, v] ∧ Rep h As a u ∧ Rep h As b v := by
  unfold RepL at r
  obtain ⟨u, r', rfl, p, q⟩ := r
  obtain ⟨v, rfl, q1⟩ := one q
  exact ⟨u, v, rfl, p, q1⟩

theorem cv_len_list {k : Nat} {l : List AV} {Q : AV → List AO → Prop} (hk : σ[k]? = some (.list l)) (hl : l.length ≤ 1000) (h : Q (.int l.length) σ) : CallV C n (.builtin "len") [.ref k] σ Q := ⟨fun A R As s E vs S r => by
  obtain ⟨v, rfl, r0⟩ := one r
  clear r
  unfold Rep at r0
  obtain ⟨t, rfl, e⟩ := r0
  obtain ⟨vs, pl, r⟩ := S.obj k t _ e hk
  have hz : vs.size = l.length := by rw [← Array.length_toList, r.length]
  exact PyProof.Rows.len_list pl.isList (by rw [hz]; (first | assumption | decide | exact le0 (by assumption) (by decide) | exact le1 (by assumption) (by decide) | exact le2 (by assumption) (by assumption) (by decide) | lia | omega)) (PostE.here S h ⟨_, by rw [hz]⟩)⟩
theorem cv_len_tup {l : List AV} {Q : AV → List AO → Prop} (hl : l.length ≤ 1000) (h : Q (.int l.length) σ) : CallV C n (.builtin "len") [.tup l] σ Q := ⟨fun A R As s E vs S r => by
  obtain ⟨v, rfl, r0⟩ := one r
  clear r
  unfold Rep at r0
  obtain ⟨t, vs, rfl, _, T, r⟩ := r0
  have hz : vs.size = l.length := by rw [← Array.length_toList, r.length]
  exact PyProof.Rows.len_tuple T.isTup (by rw [hz]; (first | assumption | decide | exact le0 (by assumption) (by decide) | exact le1 (by assumption) (by decide) | exact le2 (by assumption) (by assumption) (by decide) | lia | omega)) (PostE.here S h ⟨_, by rw [hz]⟩)⟩
theorem cv_tuple_list {k : Nat} {l : List AV} {Q : AV → List AO → Prop} (hk : σ[k]? = some (.list l)) (hl : l.length ≤ 1000) (h : Q (.tup l) σ) : CallV C n (.type "tuple") [.ref k] σ Q := ⟨fun A R As s E vs S r => by
  obtain ⟨v, rfl, r0⟩ := one r
  clear r
  unfold Rep at r0
  obtain ⟨t, rfl, e⟩ := r0
  obtain ⟨vs, pl, r⟩ := S.obj k t _ e hk
  have hz : vs.size = l.length := by rw [← Array.length_toList, r.length]
  refine call_tuple_list pl.isList (fun h' keep => ?_) (by rw [hz, sizeLine_eq]; (first | assumption | decide | exact le0 (by assumption) (by decide) | exact le1 (by assumption) (by decide) | exact le2 (by assumption) (by assumption) (by decide) | lia | omega))
  obtain ⟨S', X⟩ := S.grow (tk := s.toks) keep
  have := PostE.tuple (s := { s with heap := h' }) (Q := Q) S' (r.grow keep) h
  simpa using PostE.lift X this⟩
theorem cv_int {i : Int} {Q : AV → List AO → Prop} (h : Q (.int i) σ) : CallV C n (.type "int") [.int i] σ Q := ⟨fun A R As s E vs S r => by
  obtain ⟨v, rfl, r0⟩ := one r
  clear r
  unfold Rep at r0
  obtain ⟨t, rfl⟩ := r0
  exact call_int_int (PostE.now S h ⟨_, rfl⟩)⟩
theorem cv_max {i j : Int} {Q : AV → List AO → Prop} (h : Q (.int (if j > i then j else i)) σ) : CallV C n (.builtin "max") [.int i, .int j] σ Q := ⟨fun A R As s E vs S r => by
  obtain ⟨u, v, rfl, r1, r2⟩ := two r
  unfold Rep at r1 r2
  obtain ⟨t, rfl⟩ := r1; obtain ⟨t', rfl⟩ := r2
  refine max_two_ints R.hd fun h' tk keep => ?_
  obtain ⟨S', X⟩ := S.grow (tk := tk) keep
  exact ⟨_, _, _, X, S', h, by split <;> exact ⟨_, rfl⟩⟩⟩
theorem cv_min {i j : Int} {Q : AV → List AO → Prop} (h : Q (.int (if j < i then j else i)) σ) : CallV C n (.builtin "min") [.int i, .int j] σ Q := ⟨fun A R As s E vs S r => by
  obtain ⟨u, v, rfl, r1, r2⟩ := two r
  unfold Rep at r1 r2
  obtain ⟨t, rfl⟩ := r1; obtain ⟨t', rfl⟩ := r2
  refine min_two_ints R.hd fun h' tk keep => ?_
  obtain ⟨S', X⟩ := S.grow (tk := tk) keep
  exact ⟨_, _, _, X, S', h, by split <;> exact ⟨_, rfl⟩⟩⟩

theorem bin_add_tup {l m : List AV} {Q : AV → List AO → Prop} (hl : l ≠ []) (hm : m ≠ []) (hs : l.length + m.length ≤ 1000) (h : Q (.tup (l ++ m)) σ) : BinR C n .Add (.tup l) (.tup m) σ Q := ⟨fun A R As s E u v S hu hv => by
  unfold Rep at hu hv
  obtain ⟨t, vs, rfl, _, ⟨c, T⟩, r⟩ := hu; obtain ⟨t', ws, rfl, _, ⟨c', T'⟩, r'⟩ := hv
  have hz : vs.size = l.length := by rw [← Array.length_toList, r.length]
  have hz' : ws.size = m.length := by rw [← Array.length_toList, r'.length]
  have e1 : ¬ vs.isEmpty = true := fun q => hl (by simp at q; subst q; simpa using hz.symm)
  have e2 : ¬ ws.isEmpty = true := fun q => hm (by simp at q; subst q; simpa using hz'.symm)
  refine P.add_tuple T T' e1 e2 ?_ (by rw [hz, hz', sizeLine_eq]; (first | assumption | decide | exact le0 (by assumption) (by decide) | exact le1 (by assumption) (by decide) | exact le2 (by assumption) (by assumption) (by decide) | lia | omega))
  have := PostE.tuple (Q := Q) (vs := vs.toList ++ ws.toList) S (r.append r') h
  rw [show (vs.toList ++ ws.toList).toArray = vs ++ ws by simp] at this
  exact this⟩
end
end Mine

-- part L7
namespace Mine
open PySem PySem.W PySem.Calls PySem.SeqAt PyProof.Rows


noncomputable abbrev rets (h : Heap) (As₂ : List Addr) (f : Flow) (out : Option AV) : Prop :=
    match f, out with
    | .next, Option.none => True
    | .ret v, some av => Rep h As₂ av v
    | _, _ => False
inductive PostS (C : Cx) (sc : Scope) (env : Env) (As : List Addr) (s : Shared) (Q : Option AV → List (Str × AV) → List AO → Prop) (f : Flow) (s' : Shared) : Prop where
  | mk (out : Option AV) (ρ' : List (Str × AV)) (σ' : List AO) (As₂ : List Addr) (X : Ext (own env) As s As₂ s') (S : Sim C As₂ σ' s'.heap) (F : FrameOk C sc ρ' env As₂ s'.heap) (q : Q out ρ' σ') (r : rets s'.heap As₂ f out)
structure ExS (C : Cx) (n : Nat) (sc : Scope) (ρ : List (Str × AV)) (b : List Stmt) (σ : List AO) (Q : Option AV → List (Str × AV) → List AO → Prop) : Prop where
  run : ∀ (A : Around), Room n A → ∀ (env : Env) (As : List Addr) (s : Shared) (E : Value → Shared → Prop), FrameOk C sc ρ env As s.heap → Sim C As σ s.heap →
    wpAny (model C.prog C.w) A (execs b env) (PostS C sc env As s Q) E s

structure Ex1 (C : Cx) (n : Nat) (sc : Scope) (ρ : List (Str × AV)) (b : Stmt) (σ : List AO) (Q : Option AV → List (Str × AV) → List AO → Prop) : Prop where
  run : ∀ (A : Around), Room n A → ∀ (env : Env) (As : List Addr) (s : Shared) (E : Value → Shared → Prop), FrameOk C sc ρ env As s.heap → Sim C As σ s.heap →
    wpAny (model C.prog C.w) A (exec b env) (PostS C sc env As s Q) E s
noncomputable def nm : Expr → Str
  | .Name x _ => x
  | _ => Str.empty
noncomputable def isName : Expr → Bool
  | .Name _ _ => true
  | _ => false
noncomputable def tnames : Expr → List Str
  | .Name x _ => [x]
  | .Tuple es _ _ => es.map nm
  | _ => []

noncomputable def ownX (env : Env) (xs : List Str) : List Addr := env.locals :: (env.cells.filter fun p => xs.contains p.1).map (·.2)

inductive PostT (C : Cx) (sc : Scope) (W : List Addr) (env : Env) (As : List Addr) (s : Shared) (Q : List (Str × AV) → List AO → Prop) (s' : Shared) : Prop where
  | mk (ρ' : List (Str × AV)) (σ' : List AO) (As₂ : List Addr) (X : Ext W As s As₂ s') (S : Sim C As₂ σ' s'.heap) (F : FrameOk C sc ρ' env As₂ s'.heap) (q : Q ρ' σ')
structure AsT (C : Cx) (n : Nat) (sc : Scope) (ρ : List (Str × AV)) (t : Expr) (av : AV) (σ : List AO) (Q : List (Str × AV) → List AO → Prop) : Prop where
  run : ∀ (A : Around), Room n A → ∀ (env : Env) (As : List Addr) (s : Shared) (E : Value → Shared → Prop) (v : Value), FrameOk C sc ρ env As s.heap → Sim C As σ s.heap → Rep s.heap As av v →
    wpAny (model C.prog C.w) A (assign t env v) (fun _ s' => PostT C sc (ownX env (tnames t)) env As s Q s') E s

noncomputable def isOwn (sc : Scope) (x : Str) : Bool := match sc.names.lookup x with
  | some .local | some .cell => true
  | _ => false

section
variable {C : Cx} {n : Nat} {sc : Scope} {ρ : List (Str × AV)} {env : Env} {As : List Addr} {σ : List AO} {s : Shared} {A : Around} {E : Value → Shared → Prop} {recs : List DefRec}

theorem PostS.lift {Q : Option AV → List (Str × AV) → List AO → Prop} {f : Flow} {s₁ s' : Shared} {As₁ : List Addr} (X : Ext (own env) As s As₁ s₁) (x : PostS C sc env As₁ s₁ Q f s') : PostS C sc env As s Q f s' :=
  let ⟨o, ρ', σ', As₂, Y, S', F', q, r⟩ := x; ⟨o, ρ', σ', As₂, X.trans Y, S', F', q, r⟩

theorem ex_nil {Q : Option AV → List (Str × AV) → List AO → Prop} (h : Q Option.none ρ σ) : ExS C n sc ρ [] σ Q := ⟨fun A R env As s E F S =>
  wpAny_execs_nil ⟨_, _, _, _, Ext.refl, S, F, h, trivial⟩⟩
theorem ex_cons {st : Stmt} {r : List Stmt} {Q : Option AV → List (Str × AV) → List AO → Prop} (h : Ex1 C n sc ρ st σ fun o ρ' σ' => match o with | Option.none => ExS C n sc ρ' r σ' Q | some v => Q (some v) ρ' σ') : ExS C n sc ρ (st :: r) σ Q := ⟨fun A R env As s E F S => by
  refine wpAny_execs_cons (wpAny_mono (h.run A R env As s E F S) (fun f s₁ p => ?_) fun _ _ p => p)
  obtain ⟨o, ρ', σ', As₂, X, S', F', q, r⟩ := p
  cases o with
  | none =>
    cases f <;> try exact r.elim
    exact wpAny_mono (q.run A R env As₂ s₁ E F' S') (fun _ _ p => p.lift X) fun _ _ p => p
  | some v =>
    cases f <;> try exact r.elim
    exact ⟨_, _, _, _, X, S', F', q, r⟩⟩

theorem FrameOk.wide {s' : Shared} {As₂ : List Addr} (F : FrameOk C sc ρ env As s.heap) (X : Ext [] As s As₂ s') : Ext (own env) As s As₂ s' := X.wider F.ownLive

theorem FrameOk.notSwap (F : FrameOk C sc ρ env As s.heap) : interactive env = false := by
  unfold interactive; rw [F.scope, F.kind]; rfl

theorem ex_return {e : Expr} {pos : Pos} {Q : Option AV → List (Str × AV) → List AO → Prop} (h : EvE C n sc ρ e σ fun v σ' => Q (some v) ρ σ') : Ex1 C n sc ρ (.Return (some e) pos) σ Q := ⟨fun A R env As s E F S =>
  wpAny_Return_some (EvE.use h R F S fun v s₁ a σ₁ As₁ X S₁ F₁ q r => ⟨_, _, _, _, F.wide X, S₁, F₁, q, r⟩)⟩
theorem ex_if {t : Expr} {b o : List Stmt} {pos : Pos} {Q : Option AV → List (Str × AV) → List AO → Prop} (h : EvB C n sc ρ t σ fun c σ' => match c with | true => ExS C n sc ρ b σ' Q | false => ExS C n sc ρ o σ' Q) : Ex1 C n sc ρ (.If t b o pos) σ Q := ⟨fun A R env As s E F S =>
  wpAny_If (EvB.use h R F S fun c s₁ σ₁ As₁ X S₁ F₁ q => by
    cases c
    · simp only [Bool.false_eq_true, if_false]
      exact wpAny_mono (q.run A R env As₁ s₁ E F₁ S₁) (fun _ _ p => p.lift (F.wide X)) fun _ _ p => p
    · simp only [if_true]
      exact wpAny_mono (q.run A R env As₁ s₁ E F₁ S₁) (fun _ _ p => p.lift (F.wide X)) fun _ _ p => p)⟩
theorem ex_expr {e : Expr} {pos : Pos} {Q : Option AV → List (Str × AV) → List AO → Prop} (h : EvE C n sc ρ e σ fun _ σ' => Q Option.none ρ σ') (hs : ∀ env, swapsWith e Option.none pos.line env = pure false := by intro _; rfl) : Ex1 C n sc ρ (.Expr e pos) σ Q := ⟨fun A R env As s E F S =>
  wpAny_Expr_any (EvE.use h R F S fun v s₁ a σ₁ As₁ X S₁ F₁ q r => ⟨_, _, _, _, F.wide X, S₁, F₁, q, trivial⟩) F.notSwap (hs env)⟩

theorem ownX_sub {xs : List Str} : ∀ a ∈ ownX env xs, a ∈ own env := fun a ha => by
  rcases List.mem_cons.mp ha with rfl | ha
  · exact List.mem_cons_self ..
  · obtain ⟨p, hp, rfl⟩ := List.mem_map.mp ha
    exact List.mem_cons_of_mem _ (List.mem_map.mpr ⟨p, (List.mem_filter.mp hp).1, rfl⟩)
theorem Ext.sub {W W' : List Addr} {As₂ : List Addr} {s₂ : Shared} (X : Ext W As s As₂ s₂) (hW : ∀ a ∈ W, a ∈ W') (hl : ∀ a ∈ W', ∃ o, s.heap.get? a = some o) : Ext W' As s As₂ s₂ := by
  obtain ⟨Y, e, hY⟩ := X.more
  refine ⟨X.same, fun b o hb hw q => X.keep b o hb (fun h => hw (hW b h)) q, Y, e, fun a ha => ⟨(hY a ha).1, (fun (h : a ∈ W') => ?_), (hY a ha).2.2⟩⟩
  obtain ⟨o, q⟩ := hl a h
  rw [(hY a ha).2.2] at q; cases q
theorem FrameOk.wideX {xs : List Str} {s' : Shared} {As₂ : List Addr} (F : FrameOk C sc ρ env As s.heap) (X : Ext (ownX env xs) As s As₂ s') : Ext (own env) As s As₂ s' := X.sub ownX_sub F.ownLive


theorem FrameOk.store {x : Str} {av : AV} {v : Value} {K : Unit → Shared → Prop} (F : FrameOk C sc ρ env As s.heap) (S : Sim C As σ s.heap) (hx : isOwn sc x = true) (r : Rep s.heap As av v)
    (k : ∀ s', Ext (ownX env [x]) As s As s' → Sim C As σ s'.heap → FrameOk C sc ((x, av) :: ρ) env As s'.heap → K () s') : wpAny (model C.prog C.w) A (storeName env x v) K E s := by
  have hk : env.scope.kind = .function := by rw [F.scope]; exact F.kind
  have hkind : env.kindOf x = sc.names.lookup x := by unfold Env.kindOf; rw [F.scope]
  obtain ⟨m, hn, hm⟩ := F.ns
  -- one address a is written, no followed one, none of the base, no tuple
  have gen : ∀ (a : Addr) (h' : Heap) (tk : Nat), a ∈ ownX env [x] → a ∉ As → C.B.get? a = Option.none → (∀ vs, ¬ s.heap.IsTuple a vs) → Heap.SameBut a s.heap h' →
      Ext (ownX env [x]) As s As { s with heap := h', toks := tk } ∧ Sim C As σ h' ∧ ∀ b vs, b ∉ As → TupAt s.heap b vs → TupAt h' b vs := fun a h' tk ha hA hB hT hs => by
    have tup : ∀ b vs, b ∉ As → TupAt s.heap b vs → TupAt h' b vs := fun b vs _ t => by
      obtain ⟨n, e⟩ := id t
      exact ⟨n, (hs.2 b (fun q => hT vs (q ▸ t.isTuple))).trans e⟩
    refine ⟨⟨⟨_, _, rfl⟩, fun b o _ hw e => (hs.2 b (fun q => hw (q ▸ ha))).trans e, [], by simp, by simp⟩, ⟨fun b o e => (hs.2 b (fun q => by rw [q, hB] at e; cases e)).trans (S.base b o e), S.len, S.nodup, S.off, S.hi, fun i b ob h1 h2 => ?_⟩, tup⟩
    exact (S.obj i b ob h1 h2).keepT tup (hs.2 b (fun q => hA (q ▸ List.mem_of_getElem? h1)))
  unfold isOwn at hx
  split at hx
  · rename_i e
    refine wpAny_storeName_local (hkind.trans e) hn (fun h' hn' hs => ?_) (by rw [hk]; rfl)
    obtain ⟨X, S', tup⟩ := gen env.locals h' (s.toks + 1) (List.mem_cons_self ..) F.off F.offB (Ns_notTuple hn) hs
    refine k _ X S' ⟨F.scope, F.kind, F.globals, F.builtins, F.off, F.offB, ⟨_, hn', fun y bv hy hr => ?_⟩, fun y kk hy hc => ?_, F.apart, fun y c hc => ?_⟩
    · by_cases hyx : y = x
      · subst hyx
        simp at hr; subst hr
        exact ⟨v, by simp, r.same tup⟩
      · have : (y == x) = false := by simpa using hyx
        rw [List.lookup_cons, this] at hr
        obtain ⟨u, h1, h2⟩ := hm y bv hy hr
        exact ⟨u, by simp [hyx, h1], h2.same tup⟩
    · obtain ⟨c, ov, h1, h2, h3, h4⟩ := F.cells y kk hy hc
      have hne : c ≠ env.locals := fun q => Ns_notCell hn _ (q ▸ h2)
      refine ⟨c, ov, h1, h2.sameBut hs hne, h3, fun bv hr => ?_⟩
      have hyx : y ≠ x := fun q => by subst q; rw [e] at hy; cases hy; rcases hc with hc | hc <;> cases hc
      have : (y == x) = false := by simpa using hyx
      rw [List.lookup_cons, this] at hr
      obtain ⟨u, h5, h6⟩ := h4 bv hr
      exact ⟨u, h5, h6.same tup⟩
    · obtain ⟨ov, h2⟩ := F.live y c hc
      exact ⟨ov, h2.sameBut hs fun q => Ns_notCell hn _ (q ▸ h2)⟩
  · rename_i e
    obtain ⟨c, ov, h1, h2, h3, h4⟩ := F.cells x _ e (.inl rfl)
    refine wpAny_storeName_cell hk (hkind.trans e) h1 h2 fun h' hc' hs => ?_
    have hne : env.locals ≠ c := fun q => Ns_notCell hn _ (q ▸ h2)
    obtain ⟨X, S', tup⟩ := gen c h' s.toks (List.mem_cons_of_mem _ (List.mem_map.mpr ⟨_, List.mem_filter.mpr ⟨mem_of_lookup h1, by simp⟩, rfl⟩)) (S.notCell h2) h3 (Cell_notTuple h2) hs
    refine k _ X S' ⟨F.scope, F.kind, F.globals, F.builtins, F.off, F.offB, ⟨m, hn.sameBut hs hne, fun y bv hy hr => ?_⟩, fun y kk hy hc => ?_, F.apart, fun y d hd => ?_⟩
    · have hyx : y ≠ x := fun q => by subst q; rw [e] at hy; cases hy
      have : (y == x) = false := by simpa using hyx
      rw [List.lookup_cons, this] at hr
      obtain ⟨u, h5, h6⟩ := hm y bv hy hr
      exact ⟨u, h5, h6.same tup⟩
    · by_cases hyx : y = x
      · subst hyx
        refine ⟨c, some v, h1, hc', h3, fun bv hr => ?_⟩
        simp at hr; subst hr
        exact ⟨v, rfl, r.same tup⟩
      · obtain ⟨d, ov', g1, g2, g3, g4⟩ := F.cells y kk hy hc
        have hdc : d ≠ c := fun q => hyx (F.apart y x c (q ▸ g1) h1)
        refine ⟨d, ov', g1, g2.sameBut hs hdc, g3, fun bv hr => ?_⟩
        have : (y == x) = false := by simpa using hyx
        rw [List.lookup_cons, this] at hr
        obtain ⟨u, h5, h6⟩ := g4 bv hr
        exact ⟨u, h5, h6.same tup⟩
    · by_cases hdc : d = c
      · subst hdc; exact ⟨_, hc'⟩
      · obtain ⟨ov', g2⟩ := F.live y d hd
        exact ⟨ov', g2.sameBut hs hdc⟩
  · cases hx

theorem as_name {x : Str} {pos : Pos} {av : AV} {Q : List (Str × AV) → List AO → Prop} (hx : isOwn sc x = true) (h : Q ((x, av) :: ρ) σ) : AsT C n sc ρ (.Name x pos) av σ Q := ⟨fun A R env As s E v F S r =>
  wpAny_assign_Name (F.store S hx r fun s' X S' F' => ⟨_, _, _, X, S', F', h⟩)⟩
theorem ex_assign {x : Str} {p pos : Pos} {e : Expr} {Q : Option AV → List (Str × AV) → List AO → Prop} (hx : isOwn sc x = true) (h : EvE C n sc ρ e σ fun v σ' => Q Option.none ((x, v) :: ρ) σ')
    (hs : ∀ env, swapsWith e (some (.Name x p)) pos.line env = pure false := by intro _; rfl) : Ex1 C n sc ρ (.Assign [.Name x p] e pos) σ Q := ⟨fun A R env As s E F S =>
  wpAny_Assign_Name (EvE.use h R F S fun v s₁ a σ₁ As₁ X S₁ F₁ q r => F₁.store S₁ hx r fun s₂ Y S₂ F₂ => ⟨_, _, _, _, (F.wide X).trans (F₁.wideX Y), S₂, F₂, q, trivial⟩) (hs env)⟩
theorem ex_setI {o i e : Expr} {p pos : Pos} {k : Nat} {l : List (Int × AV)} {Q : Option AV → List (Str × AV) → List AO → Prop}
    (h : EvE C n sc ρ e σ fun a σ₁ => EvE C n sc ρ o σ₁ fun b σ₂ => EvE C n sc ρ i σ₂ fun c σ₃ => ∃ k j l ep, b = .ref k ∧ c = .int j ∧ σ₃[k]? = some (.dictI l ep) ∧ l.length ≤ 1000 ∧ ∀ ep', Q Option.none ρ (σ₃.set k (.dictI (setI l j a) ep')))
    (hs : ∀ env, swapsWith e (some (.Subscript o i p)) pos.line env = pure false := by intro _; rfl) : Ex1 C n sc ρ (.Assign [.Subscript o i p] e pos) σ Q := ⟨fun A R env As s E F S => by
  refine wpAny_Assign_Subscript (EvE.use h R F S fun v s₁ a σ₁ As₁ X₁ S₁ F₁ h₁ r₁ => EvE.use h₁ R F₁ S₁ fun u s₂ b σ₂ As₂ X₂ S₂ F₂ h₂ r₂ => EvE.use h₂ R F₂ S₂ fun w s₃ c σ₃ As₃ X₃ S₃ F₃ h₃ r₃ => ?_) (hs env)
  obtain ⟨k, j, l, ep, rfl, rfl, hk, hl, q⟩ := h₃
  refine set_dictI S₃ hk (r₂.ext S₂ X₃) r₃ ((r₁.ext S₁ X₂).ext S₂ X₃) hl fun s₄ ep' X₄ S₄ => ?_
  exact ⟨_, _, _, _, (F.wide ((X₁.trans X₂).trans X₃)).trans (F₃.wide X₄), S₄, F₃.ext S₃ X₄, q ep', trivial⟩⟩
end
end Mine

-- part L8
namespace Mine
open PySem PySem.W PySem.Calls PySem.SeqAt PyProof.Rows

theorem bindL_other {kd : Str → Option NameKind} {x : Str} : ∀ {bs : List (Str × Value)} {m : Str → Option Value}, x ∉ bs.map (·.1) → bindL kd bs m x = m x
  | [], _, _ => rfl
  | (y, v) :: r, m, h => by
    simp only [List.map_cons, List.mem_cons, not_or] at h
    unfold bindL
    rw [bindL_other h.2]
    split
    · simp [h.1]
    · rfl
theorem bindL_at {kd : Str → Option NameKind} {x : Str} {v : Value} (hk : kd x = some .local) : ∀ {bs : List (Str × Value)} {m : Str → Option Value}, (bs.map (·.1)).Nodup → bs.lookup x = some v → bindL kd bs m x = some v
  | (y, u) :: r, m, hn, h => by
    simp only [List.map_cons, List.nodup_cons] at hn
    unfold bindL
    by_cases e : x = y
    · subst e
      rw [List.lookup_cons] at h
      simp at h; subst h
      rw [bindL_other hn.1, if_pos hk]
      simp
    · rw [List.lookup_cons, show (x == y) = false by simpa using e] at h
      exact bindL_at hk hn.2 h
theorem bindC_other {kd : Str → Option NameKind} {x : Str} : ∀ {bs : List (Str × Value)} {m : Str → Option Value}, x ∉ bs.map (·.1) → bindC kd bs m x = m x
  | [], _, _ => rfl
  | (y, v) :: r, m, h => by
    simp only [List.map_cons, List.mem_cons, not_or] at h
    unfold bindC
    rw [bindC_other h.2]
    split
    · rfl
    · simp [h.1]
theorem bindC_at {kd : Str → Option NameKind} {x : Str} {v : Value} (hk : kd x ≠ some .local) : ∀ {bs : List (Str × Value)} {m : Str → Option Value}, (bs.map (·.1)).Nodup → bs.lookup x = some v → bindC kd bs m x = some v
  | (y, u) :: r, m, hn, h => by
    simp only [List.map_cons, List.nodup_cons] at hn
    unfold bindC
    by_cases e : x = y
    · subst e
      rw [List.lookup_cons] at h
      simp at h; subst h
      rw [bindC_other hn.1, if_neg hk]
      simp
    · rw [List.lookup_cons, show (x == y) = false by simpa using e] at h
      exact bindC_at hk hn.2 h

theorem zip_lookup {h : Heap} {As : List Addr} {x : Str} {av : AV} : ∀ {ps : List Str} {avs : List AV} {vs : List Value}, RepL h As avs vs → (ps.zip avs).lookup x = some av → ∃ v, (ps.zip vs).lookup x = some v ∧ Rep h As av v
  | [], avs, vs, r, e => by simp at e
  | p :: ps, [], vs, r, e => by simp at e
  | p :: ps, a :: avs, vs, r, e => by
    unfold RepL at r
    obtain ⟨v, r', rfl, r1, r2⟩ := r
    simp only [List.zip_cons_cons, List.lookup_cons] at e ⊢
    cases hx : x == p with
    | true => rw [hx] at e; simp at e; subst e; exact ⟨v, rfl, r1⟩
    | false => rw [hx] at e; exact zip_lookup r2 e


noncomputable def CallF (C : Cx) (n : Nat) (f : Str) (l : List AV) (σ : List AO) (Q : AV → List AO → Prop) : Prop := ∀ a, C.mg f = some (.ref a) → CallV C n (.ref a) l σ Q


structure DefOk (d : DefRec) (k : Nat) : Prop where
  bind : ∀ pm code doc (vals : List Value), vals.length = k → bindArgs (docDef d.name d.params d.body d.scope pm code doc) ⟨vals, []⟩ = pure ((d.params.args.map (·.arg)).zip vals)
  kinds : (d.params.args.map (·.arg)).all (fun y => d.scope.names.lookup y == some .local || d.scope.names.lookup y == some .cell) = true
  args : (d.params.args.map (·.arg)).Nodup
  len : d.params.args.length = k
  cells : ((cellsFrom 0 d.scope.names []).map (·.1)).Nodup
  free : d.scope.names.all (fun y => y.2 != .free) = true
  co : d.scope.isCoroutine = false
  gen : d.scope.isGenerator = false
  kind : d.scope.kind = .function

section
variable {C : Cx} {n : Nat} {sc : Scope} {ρ : List (Str × AV)} {env : Env} {As : List Addr} {σ : List AO} {s : Shared} {A : Around} {E : Value → Shared → Prop} {recs : List DefRec}

theorem callF {d : DefRec} {k : Nat} {avs : List AV} {Q : AV → List AO → Prop} (hC : C.Ok recs) (hd : d ∈ recs) (D : DefOk d k) (hk : avs.length = k)
    (h : ExS C n d.scope ((d.params.args.map (·.arg)).zip avs) d.body σ fun o _ σ' => Q (o.getD .none) σ') : CallF C (n + 1) d.name avs σ Q := fun a ha => ⟨fun A R As s E vs S r => by
  obtain ⟨a', o, pm, code, doc, h1, h2, h3, h4⟩ := hC.fn d hd
  rw [ha] at h1; cases h1
  have hlen : vs.length = k := r.length.trans hk
  have hL := S.fresh
  have kinds : ∀ x ∈ ((d.params.args.map (·.arg)).zip vs), d.scope.names.lookup x.1 = some .local ∨ d.scope.names.lookup x.1 = some .cell := fun x hx => by
    have := List.all_eq_true.mp D.kinds x.1 (List.of_mem_zip hx).1
    rcases Bool.or_eq_true_iff.mp this with q | q
    · exact .inl (by simpa using q)
    · exact .inr (by simpa using q)
  have names : (((d.params.args.map (·.arg)).zip vs).map (·.1)) = d.params.args.map (·.arg) := List.map_fst_zip (by rw [List.length_map, D.len, hlen]; exact Nat.le_refl _)
  refine wpAny_call (codeAny_call_cells (fd := docDef d.name d.params d.body d.scope pm code doc) (body := d.body) (binds := (d.params.args.map (·.arg)).zip vs)
    (by have := R.dp; (first | assumption | decide | exact le0 (by assumption) (by decide) | exact le1 (by assumption) (by decide) | exact le2 (by assumption) (by assumption) (by decide) | lia | omega)) (S.base _ _ h2) h3 (hC.nolimit.keeps S.base) (h4.keeps S.base) rfl (D.bind _ _ _ _ hlen) rfl
    (fun x hx => (kinds x hx).imp id fun q => ⟨q, cellsFrom_some _ _ _ (.inl q)⟩) (fun s₁ x => ?_) D.co D.gen D.kind)
  generalize he : callEnvC (docDef d.name d.params d.body d.scope pm code doc) s.heap.objs.size a = env at x ⊢
  have eL : env.locals = s.heap.objs.size := by rw [← he]; rfl
  have eS : env.scope = d.scope := by rw [← he]; rfl
  have eC : env.cells = cellsFrom (s.heap.objs.size + 1) d.scope.names [] := by rw [← he]; rfl
  have eK : ∀ y, env.kindOf y = d.scope.names.lookup y := fun y => by unfold Env.kindOf; rw [eS]
  obtain ⟨h₁, tk, rfl⟩ := x.toInCall.same
  have keep := x.toInCall.keep
  obtain ⟨S₁, X₁⟩ := S.grow (tk := tk) keep
  have r₁ := r.grow keep
  have nd : (env.cells.map (·.1)).Nodup := by rw [eC, cellsFrom_names d.scope.names (s.heap.objs.size + 1) 0 [] [] rfl]; exact D.cells
  have fresh : ∀ y c, (y, c) ∈ env.cells → C.B.get? c = Option.none ∧ s.heap.get? c = Option.none := fun y c hc => by
    have hlt := x.above y c hc
    rw [eL] at hlt
    have h0 : s.heap.get? c = Option.none := by
      cases e : s.heap.get? c with
      | none => rfl
      | some o => exact absurd (Heap.lt_size e) (Nat.lt_asymm hlt)
    refine ⟨?_, h0⟩
    cases e : C.B.get? c with
    | none => rfl
    | some o => rw [S.base _ _ e] at h0; cases h0
  have F : FrameOk C d.scope ((d.params.args.map (·.arg)).zip avs) env As h₁ := by
    refine ⟨eS, D.kind, by rw [← he]; rfl, by rw [← he]; rfl, by rw [eL]; exact hL.1, by rw [eL]; exact hL.2.1, ⟨_, x.toInCall.ns, fun y bv hy hr => ?_⟩, fun y kk hy hc => ?_, fun y z c h1 h2 => ?_, fun y c hc => ?_⟩
    · obtain ⟨v, hv, rv⟩ := zip_lookup r₁ hr
      exact ⟨v, bindL_at ((eK y).trans hy) (by rw [names]; exact D.args) hv, rv⟩
    · rcases hc with rfl | rfl
      · have hs : (env.cells.lookup y).isSome = true := by rw [eC]; exact cellsFrom_some _ _ _ (.inl hy)
        obtain ⟨c, hc⟩ := Option.isSome_iff_exists.mp hs
        refine ⟨c, _, hc, x.cell y c hc, (fresh y c (mem_of_lookup hc)).1, fun bv hr => ?_⟩
        obtain ⟨v, hv, rv⟩ := zip_lookup r₁ hr
        exact ⟨v, bindC_at (by rw [eK, hy]; decide) (by rw [names]; exact D.args) hv, rv⟩
      · have := List.all_eq_true.mp D.free (y, .free) (mem_of_lookup hy)
        simp at this
    · exact name_of_addr x.apart (mem_of_lookup h1) (mem_of_lookup h2)
    · exact ⟨_, x.cell y c (lookup_of_mem_nodup nd hc)⟩
  refine wpAny_mono (h.run (A.deeper env) (R.deeper env) env As _ _ F S₁) (fun f s' p => ?_) fun _ _ q => q
  obtain ⟨out, ρ', σ', As₂, X, S', F', q, rr⟩ := p
  have X₀ : Ext (own env) As s As { s with heap := h₁, toks := tk } := ⟨⟨_, _, rfl⟩, fun b o _ _ e => keep b o e, [], by simp, by simp⟩
  have X' : Ext [] As s As₂ s' := (X₀.trans X).drop fun b hb => by
    rcases List.mem_cons.mp hb with rfl | hb
    · rw [eL]; exact hL.2.2
    · obtain ⟨⟨y, c⟩, hm, rfl⟩ := List.mem_map.mp hb
      exact (fresh y c hm).2
  cases out with
  | none =>
    cases f <;> try exact rr.elim
    exact ⟨_, _, _, X', S', q, rfl⟩
  | some av =>
    cases f <;> try exact rr.elim
    exact ⟨_, _, _, X', S', q, rr⟩⟩


theorem ev_callF {d : DefRec} {f : Str} {p pos : Pos} {e : Expr} {es : List Expr} {Q : AV → List AO → Prop} (hC : C.Ok recs) (hd : d ∈ recs) (hf : d.name = f) (hx : sc.names.lookup f = some .globalImplicit)
    (h : EvL C n sc ρ (e :: es) σ fun l σ' => CallF C n f l σ' Q) (hs : (e :: es).all (fun e => !isStarred e) = true := by rfl) (hg : (f == ("__debug__" : Str)) = false := by decide) :
    EvE C n sc ρ (.Call (.Name f p) (e :: es) [] pos) σ Q := by
  obtain ⟨a, o, pm, code, doc, h1, h2, h3, h4⟩ := hC.fn d hd
  rw [hf] at h1
  refine EvE.call hC hx (.inl h1) (.inr (.inr ⟨a, o, _, rfl, h2, h3⟩)) ?_ hs hg
  have mono : ∀ {es : List Expr} {σ : List AO} {P P' : List AV → List AO → Prop}, (∀ l σ', P l σ' → P' l σ') → EvL C n sc ρ es σ P → EvL C n sc ρ es σ P' := by
    intro es
    induction es with
    | nil => intro σ P P' hp x; exact hp _ _ x
    | cons e es ih => intro σ P P' hp x; exact EvE.mono x fun a σ' y => ih (fun l σ'' z => hp _ _ z) y
  exact mono (fun l σ' x => x a h1) h
theorem ev_callB {fv : Value} {f : Str} {p pos : Pos} {e : Expr} {es : List Expr} {Q : AV → List AO → Prop} (hC : C.Ok recs) (hx : sc.names.lookup f = some .globalImplicit)
    (hf : f ∈ (["range", "len", "tuple", "sorted", "set", "zip", "enumerate", "min", "max", "int"] : List Str)) (hb : bootBuiltins f = some fv) (hv : (∃ id, fv = .builtin id) ∨ (∃ T, fv = .type T)) (hn : f ≠ "__name__")
    (h : EvL C n sc ρ (e :: es) σ fun l σ' => CallV C n fv l σ' Q) (hs : (e :: es).all (fun e => !isStarred e) = true := by rfl) (hg : (f == ("__debug__" : Str)) = false := by decide) :
    EvE C n sc ρ (.Call (.Name f p) (e :: es) [] pos) σ Q :=
  EvE.call hC hx (.inr ⟨hC.free f hf, (hC.builtins f hn).trans hb⟩) (hv.imp id .inl) h hs hg
end
end Mine
namespace Mine
open PySem PySem.W PySem.Calls PySem.SeqAt PyProof.Rows
inductive StrsL : List AV → List Str → Prop
  | nil : StrsL [] []
  | cons {x : Str} {l : List AV} {xs : List Str} : StrsL l xs → StrsL (.str x :: l) (x :: xs)
section
variable {C : Cx} {n : Nat} {sc : Scope} {ρ : List (Str × AV)} {env : Env} {As : List Addr} {σ : List AO} {s : Shared} {A : Around} {E : Value → Shared → Prop} {recs : List DefRec}
theorem StrsL.are {h : Heap} : ∀ {l : List AV} {xs : List Str} {vs : List Value}, StrsL l xs → RepL h As l vs → StrsAre vs xs
  | _, _, vs, .nil, r => by unfold RepL at r; subst r; exact .nil
  | _, _, vs, .cons q, r => by
    unfold RepL at r
    obtain ⟨v, r', rfl, r1, r2⟩ := r
    unfold Rep at r1
    obtain ⟨t, rfl⟩ := r1
    exact .cons _ _ (q.are r2)
theorem cmp_in_strs {x : Str} {l : List AV} {xs : List Str} {Q : Bool → List AO → Prop} (q : StrsL l xs) (h : Q (xs.any (· == x)) σ) : CmpR C n .In (.str x) (.tup l) σ Q := ⟨fun A R As s E u v S hu hv => by
  unfold Rep at hu hv
  obtain ⟨t, rfl⟩ := hu
  obtain ⟨a, vs, rfl, _, T, r⟩ := hv
  exact in_tuple_strs T.isTup (q.are r) ⟨_, rfl, PostB.now S h⟩⟩
theorem cmp_in_strs_t {x : Str} {l : List AV} {xs : List Str} {Q : Bool → List AO → Prop} (q : StrsL l xs) (hb : xs.any (· == x) = true) (h : Q true σ) : CmpR C n .In (.str x) (.tup l) σ Q := cmp_in_strs q (hb ▸ h)
theorem cmp_in_strs_f {x : Str} {l : List AV} {xs : List Str} {Q : Bool → List AO → Prop} (q : StrsL l xs) (hb : xs.any (· == x) = false) (h : Q false σ) : CmpR C n .In (.str x) (.tup l) σ Q := cmp_in_strs q (hb ▸ h)
theorem cmp_eq_str_t {x y : Str} {Q : Bool → List AO → Prop} (hb : (x == y) = true) (h : Q true σ) : CmpR C n .Eq (.str x) (.str y) σ Q := cmp_eq_str (hb ▸ h)
theorem cmp_eq_str_f {x y : Str} {Q : Bool → List AO → Prop} (hb : (x == y) = false) (h : Q false σ) : CmpR C n .Eq (.str x) (.str y) σ Q := cmp_eq_str (hb ▸ h)
theorem cmp_ne_str_t {x y : Str} {Q : Bool → List AO → Prop} (hb : (x != y) = true) (h : Q true σ) : CmpR C n .NotEq (.str x) (.str y) σ Q := cmp_ne_str (hb ▸ h)
theorem cmp_ne_str_f {x y : Str} {Q : Bool → List AO → Prop} (hb : (x != y) = false) (h : Q false σ) : CmpR C n .NotEq (.str x) (.str y) σ Q := cmp_ne_str (hb ▸ h)
end
end Mine

-- part L9
namespace Mine
open PySem PySem.W PySem.Calls PySem.SeqAt PyProof.Rows


structure ItP (C : Cx) (A : Around) (tgt : Expr) (I : Addr) (priv wr : List Addr) (srcs : List AV) (vals : List Value) (items : List AV) (G : List AO → Prop) (St : Nat → Heap → Prop) (Mid : Nat → Value → Heap → Prop) : Prop where
  sub : ∀ a ∈ wr, a ∈ priv
  frame : ∀ i h h', St i h → (∀ b ∈ priv, ∀ o, h.get? b = some o → h'.get? b = some o) → St i h'
  live : ∀ i h, St i h → ∀ a ∈ priv, ∃ o, h.get? a = some o
  liveM : ∀ i v h, Mid i v h → ∀ a ∈ priv, ∃ o, h.get? a = some o
  noTup : ∀ i h, St i h → ∀ a ∈ wr, ∀ vs, ¬ h.IsTuple a vs
  noTupM : ∀ i v h, Mid i v h → ∀ a ∈ wr, ∀ vs, ¬ h.IsTuple a vs
  next : ∀ (i : Nat) (As : List Addr) (σ : List AO) (s : Shared) (E : Value → Shared → Prop) (av : AV), items[i]? = some av → G σ → Sim C As σ s.heap → (∀ a ∈ priv, a ∉ As) → RepL s.heap As srcs vals → St i s.heap →
    wpAny (model C.prog C.w) A (pyNext (.ref I)) (fun r s' => ∃ v, r = some v ∧ Ext wr As s As s' ∧ Sim C As σ s'.heap ∧ Mid i v s'.heap ∧ Rep s'.heap As av v) E s
  go : ∀ (i : Nat) (As : List Addr) (σ : List AO) (s : Shared) (E : Value → Shared → Prop) (v : Value), Sim C As σ s.heap → (∀ a ∈ priv, a ∉ As) → Mid i v s.heap →
    wpAny (model C.prog C.w) A (letOwnedTupleGo tgt (.ref I) v) (fun _ s' => Ext wr As s As s' ∧ Sim C As σ s'.heap ∧ St (i + 1) s'.heap) E s
  done : ∀ (As : List Addr) (σ : List AO) (s : Shared) (E : Value → Shared → Prop), G σ → Sim C As σ s.heap → (∀ a ∈ priv, a ∉ As) → RepL s.heap As srcs vals → St items.length s.heap →
    wpAny (model C.prog C.w) A (pyNext (.ref I)) (fun r s' => r = Option.none ∧ Ext wr As s As s' ∧ Sim C As σ s'.heap) E s
  self : ∀ (i : Nat) (s : Shared) (Q E : Value → Shared → Prop), St i s.heap → Q (.ref I) s → wpAny (model C.prog C.w) A (pyIter (.ref I)) Q E s

inductive PostI (C : Cx) (A : Around) (tgt : Expr) (As : List Addr) (s : Shared) (Q : List AV → (List AO → Prop) → List AO → Prop) (it : Value) (s₂ : Shared) : Prop where
  | mk (I : Addr) (priv wr : List Addr) (srcs : List AV) (vals : List Value) (items : List AV) (G : List AO → Prop) (St : Nat → Heap → Prop) (Mid : Nat → Value → Heap → Prop) (σ' : List AO) (As₂ : List Addr) (e : it = .ref I)
    (P : ItP C A tgt I priv wr srcs vals items G St Mid) (X : Ext [] As s As₂ s₂) (S : Sim C As₂ σ' s₂.heap) (r : RepL s₂.heap As₂ srcs vals) (st : St 0 s₂.heap) (ap : ∀ a ∈ priv, a ∉ As₂ ∧ s.heap.get? a = Option.none ∧ ∃ o, s₂.heap.get? a = some o) (q : Q items G σ')

structure EvI (C : Cx) (n : Nat) (sc : Scope) (ρ : List (Str × AV)) (tgt e : Expr) (σ : List AO) (Q : List AV → (List AO → Prop) → List AO → Prop) : Prop where
  run : ∀ (A : Around), Room n A → ∀ (env : Env) (As : List Addr) (s : Shared) (E : Value → Shared → Prop), FrameOk C sc ρ env As s.heap → Sim C As σ s.heap →
    wpAny (model C.prog C.w) A (eval e env) (fun x s₁ => wpAny (model C.prog C.w) A (pyIter x) (fun it s₂ => PostI C A tgt As s Q it s₂) E s₁) E s

section
variable {C : Cx} {n : Nat} {sc : Scope} {ρ : List (Str × AV)} {env : Env} {As : List Addr} {σ : List AO} {s : Shared} {A : Around} {E : Value → Shared → Prop} {recs : List DefRec}


theorem FrameOk.extW {W As₂ : List Addr} {s₂ : Shared} (F : FrameOk C sc ρ env As s.heap) (S : Sim C As σ s.heap) (X : Ext W As s As₂ s₂) (hW : ∀ a ∈ W, ∀ vs, ¬ s.heap.IsTuple a vs) (hO : ∀ a ∈ own env, a ∉ W) : FrameOk C sc ρ env As₂ s₂.heap := by
  obtain ⟨Y, e, hY⟩ := X.more
  obtain ⟨m, hn, hm⟩ := F.ns
  have hc : ∀ x c, (x, c) ∈ env.cells → c ∉ W := fun x c h => hO c (List.mem_cons_of_mem _ (List.mem_map.mpr ⟨_, h, rfl⟩))
  refine ⟨F.scope, F.kind, F.globals, F.builtins, ?_, F.offB, ⟨m, ?_, fun x av hx hr => ?_⟩, fun x k hx hk => ?_, F.apart, fun x c hm => ?_⟩
  · subst e
    intro hmem
    rcases List.mem_append.mp hmem with q | q
    · exact F.off q
    · obtain ⟨o, _, _, e', _⟩ := Ns_ex hn
      rw [(hY _ q).2.2] at e'; cases e'
  · exact hn.at' fun o e' => X.keep _ o F.off (hO _ (List.mem_cons_self ..)) e'
  · obtain ⟨v, hv, r⟩ := hm x av hx hr
    exact ⟨v, hv, r.ext S X hW⟩
  · obtain ⟨c, ov, h1, h2, h3, h4⟩ := F.cells x k hx hk
    refine ⟨c, ov, h1, ?_, h3, fun av hr => ?_⟩
    · obtain ⟨o, ho, hd⟩ := id h2
      exact ⟨o, X.keep c o (S.notCell h2) (hc x c (mem_of_lookup h1)) ho, hd⟩
    · obtain ⟨v, hv, r⟩ := h4 av hr
      exact ⟨v, hv, r.ext S X hW⟩
  · obtain ⟨ov, h2⟩ := F.live x c hm
    obtain ⟨o, ho, hd⟩ := id h2
    exact ⟨ov, o, X.keep c o (S.notCell h2) (hc x c hm) ho, hd⟩


theorem Ext.dropR {W P : List Addr} {As₂ : List Addr} {s₂ : Shared} (X : Ext (W ++ P) As s As₂ s₂) (hP : ∀ a ∈ P, s.heap.get? a = Option.none) : Ext W As s As₂ s₂ := by
  obtain ⟨Y, e, hY⟩ := X.more
  refine ⟨X.same, fun b o hb hw q => X.keep b o hb (fun h => ?_) q, Y, e, fun a ha => ⟨(hY a ha).1, fun h => (hY a ha).2.1 (List.mem_append_left _ h), (hY a ha).2.2⟩⟩
  rcases List.mem_append.mp h with h | h
  · exact hw h
  · rw [hP b h] at q; cases q
theorem Ext.addR {W P : List Addr} {As₂ : List Addr} {s₂ : Shared} (X : Ext W As s As₂ s₂) (hP : ∀ a ∈ P, a ∉ As₂) : Ext (W ++ P) As s As₂ s₂ := by
  obtain ⟨Y, e, hY⟩ := X.more
  refine ⟨X.same, fun b o hb hw q => X.keep b o hb (fun h => hw (List.mem_append_left _ h)) q, Y, e, fun a ha => ⟨(hY a ha).1, fun h => ?_, (hY a ha).2.2⟩⟩
  rcases List.mem_append.mp h with h | h
  · exact (hY a ha).2.1 h
  · exact hP a h (e ▸ List.mem_append_right _ ha)
theorem Ext.apart {W P : List Addr} {As₂ : List Addr} {s₂ : Shared} (X : Ext W As s As₂ s₂) (hP : ∀ a ∈ P, a ∉ As ∧ ∃ o, s.heap.get? a = some o) : ∀ a ∈ P, a ∉ As₂ := fun a ha hm => by
  obtain ⟨Y, e, hY⟩ := X.more
  subst e
  rcases List.mem_append.mp hm with hm | hm
  · exact (hP a ha).1 hm
  · obtain ⟨o, q⟩ := (hP a ha).2
    rw [(hY a hm).2.2] at q; cases q


theorem ex_for {tgt iter : Expr} {body : List Stmt} {pos : Pos} {Q : Option AV → List (Str × AV) → List AO → Prop}
    (hI : EvI C n sc ρ tgt iter σ fun items G σ' => ∃ Inv : Nat → List AO → Prop, Inv 0 σ' ∧ (∀ i σi, Inv i σi → G σi) ∧
      (∀ i av σi, items[i]? = some av → Inv i σi → AsT C n sc ρ tgt av σi fun ρ' σ'' => ExS C n sc ρ' body σ'' fun o ρ'' σ''' => o = Option.none ∧ (∀ x v, ρ.lookup x = some v → ρ''.lookup x = some v) ∧ Inv (i + 1) σ''') ∧
      ∀ σf, Inv items.length σf → Q Option.none ρ σf)
    (hs : ∀ env x, foldedSetIterable iter env x = pure x) : Ex1 C n sc ρ (.For tgt iter body [] pos) σ Q := ⟨fun A R env As s E F S => by
  refine wpAny_For (wpAny_mono (hI.run A R env As s E F S) (fun x s₁ h₁ => wpAny_mono h₁ (fun it s₂ h₂ => ?_) fun _ _ e => e) fun _ _ e => e) (hs env)
  obtain ⟨I, priv, wr, srcs, vals, items, G, St, Mid, σ', As₂, rfl, P, X, S₂, rs, st, hp, Inv, h0, hG, hstep, hend⟩ := h₂
  have F₂ := F.ext S X
  have live := F.ownLive
  have ownPriv : ∀ a ∈ own env, a ∉ priv := fun a ha hm => by
    obtain ⟨o, e⟩ := live a ha
    rw [(hp a hm).2.1] at e; cases e
  -- the places that the loop writes
  refine codeAny_forLoop_any (fun k s' => ∃ i σi Asi, k = items.length + 1 - i ∧ i ≤ items.length ∧ Ext (own env ++ priv) As₂ s₂ Asi s' ∧ Sim C Asi σi s'.heap ∧ FrameOk C sc ρ env Asi s'.heap ∧ St i s'.heap ∧ RepL s'.heap Asi srcs vals ∧
    (∀ a ∈ priv, a ∉ Asi ∧ ∃ o, s'.heap.get? a = some o) ∧ Inv i σi) ?_ (items.length + 1) ⟨0, σ', As₂, rfl, Nat.zero_le _, Ext.refl, S₂, F₂, st, rs, fun a ha => ⟨(hp a ha).1, (hp a ha).2.2⟩, h0⟩
  rintro k s' ⟨i, σi, Asi, rfl, hi, Xi, Si, Fi, sti, rsi, hpi, inv⟩
  have hpA : ∀ a ∈ priv, a ∉ Asi := fun a ha => (hpi a ha).1
  have liveW : ∀ (u : Shared) (_ : FrameOk C sc ρ env Asi u.heap) (_ : ∀ a ∈ priv, ∃ o, u.heap.get? a = some o), ∀ a ∈ own env ++ priv, ∃ o, u.heap.get? a = some o := fun u Fu hu a ha => by
    rcases List.mem_append.mp ha with ha | ha
    · exact Fu.ownLive a ha
    · exact hu a ha
  by_cases hlt : i < items.length
  · obtain ⟨av, hav⟩ : ∃ av, items[i]? = some av := ⟨items[i], by simp [hlt]⟩
    refine wpAny_mono (P.next i Asi σi s' _ av hav (hG i σi inv) Si hpA rsi sti) (fun r s₃ h₃ => ?_) fun _ _ e => e
    obtain ⟨v, rfl, X₃, S₃, mid, rv⟩ := h₃
    have F₃ := Fi.extW Si X₃ (P.noTup i _ sti) fun a ha hw => ownPriv a ha (P.sub a hw)
    have rs₃ := rsi.ext Si X₃ (P.noTup i _ sti)
    refine wpAny_mono (P.go i Asi σi s₃ _ v S₃ hpA mid) (fun _ s₄ h₄ => ?_) fun _ _ e => e
    obtain ⟨X₄, S₄, st₄⟩ := h₄
    have F₄ := F₃.extW S₃ X₄ (P.noTupM i v _ mid) fun a ha hw => ownPriv a ha (P.sub a hw)
    have rs₄ := rs₃.ext S₃ X₄ (P.noTupM i v _ mid)
    have rv₄ := rv.ext S₃ X₄ (P.noTupM i v _ mid)
    have priv₃ : ∀ a ∈ priv, ∃ o, s₃.heap.get? a = some o := P.liveM i v _ mid
    have priv₄ : ∀ a ∈ priv, ∃ o, s₄.heap.get? a = some o := P.live _ _ st₄
    refine wpAny_mono ((hstep i av σi hav inv).run A R env Asi s₄ _ v F₄ S₄ rv₄) (fun _ s₅ h₅ => ?_) fun _ _ e => e
    obtain ⟨ρ', σ'', As₅, X₅, S₅, F₅, ex⟩ := h₅
    refine wpAny_mono (ex.run A R env As₅ s₅ _ F₅ S₅) (fun f s₆ h₆ => ?_) fun _ _ e => e
    obtain ⟨o, ρ'', σ''', As₆, X₆, S₆, F₆, ⟨rfl, hρ, inv'⟩, hf⟩ := h₆
    cases f <;> try exact hf.elim
    have hw : ∀ a ∈ wr, a ∈ own env ++ priv := fun a ha => List.mem_append_right _ (P.sub a ha)
    have Y₄ : Ext (own env ++ priv) As₂ s₂ Asi s₄ := (Xi.trans (X₃.sub hw (liveW s' Fi fun a ha => (hpi a ha).2))).trans (X₄.sub hw (liveW s₃ F₃ priv₃))
    have p₅ : ∀ a ∈ priv, a ∉ As₅ := X₅.apart fun a ha => ⟨hpA a ha, priv₄ a ha⟩
    have keep₅ : ∀ a ∈ priv, ∀ o, s₄.heap.get? a = some o → s₅.heap.get? a = some o := fun a ha o e => X₅.keep a o (hpA a ha) (fun h => ownPriv a (ownX_sub a h) ha) e
    have priv₅ : ∀ a ∈ priv, ∃ o, s₅.heap.get? a = some o := fun a ha => let ⟨o, e⟩ := priv₄ a ha; ⟨o, keep₅ a ha o e⟩
    have p₆ : ∀ a ∈ priv, a ∉ As₆ := X₆.apart fun a ha => ⟨p₅ a ha, priv₅ a ha⟩
    have keep₆ : ∀ a ∈ priv, ∀ o, s₅.heap.get? a = some o → s₆.heap.get? a = some o := fun a ha o e => X₆.keep a o (p₅ a ha) (fun h => ownPriv a h ha) e
    have X₅₆ : Ext (own env) Asi s₄ As₆ s₆ := (F₄.wideX X₅).trans X₆
    refine ⟨items.length + 1 - (i + 1), by (first | assumption | decide | exact le0 (by assumption) (by decide) | exact le1 (by assumption) (by decide) | exact le2 (by assumption) (by assumption) (by decide) | lia | omega), i + 1, σ''', As₆, rfl, hlt, Y₄.trans (X₅₆.addR p₆), S₆, F₆.forget hρ, P.frame _ _ _ st₄ fun b hb o e => keep₆ b hb o (keep₅ b hb o e), rs₄.ext S₄ X₅₆ F₄.ownTuple, fun a ha => ⟨p₆ a ha, let ⟨o, e⟩ := priv₅ a ha; ⟨o, keep₆ a ha o e⟩⟩, inv'⟩
  · have hin : i = items.length := by (first | assumption | decide | exact le0 (by assumption) (by decide) | exact le1 (by assumption) (by decide) | exact le2 (by assumption) (by assumption) (by decide) | lia | omega)
    subst hin
    refine wpAny_mono (P.done Asi σi s' _ (hG _ σi inv) Si hpA rsi sti) (fun r s₃ h₃ => ?_) fun _ _ e => e
    obtain ⟨rfl, X₃, S₃⟩ := h₃
    have F₃ := Fi.extW Si X₃ (P.noTup _ _ sti) fun a ha hw => ownPriv a ha (P.sub a hw)
    refine wpAny_execs_nil ?_
    have hw : ∀ a ∈ wr, a ∈ own env ++ priv := fun a ha => List.mem_append_right _ (P.sub a ha)
    refine ⟨_, _, _, _, ?_, S₃, F₃, hend _ inv, trivial⟩
    refine Ext.dropR (P := priv) ?_ fun a ha => (hp a ha).2.1
    exact (((F.wide X).addR fun a ha => (hp a ha).1).trans Xi).trans (X₃.sub hw (liveW s' Fi fun a ha => (hpi a ha).2))⟩
end
end Mine

-- part L10
namespace Mine
open PySem PySem.W PySem.Calls PySem.SeqAt PyProof.Rows


theorem compLoop_go {prog : Program} {w : World} {A : Around} {R : Result → Shared → Prop} {s : Shared} {elt target iter : Expr} {ifs : List Expr} {scope : Scope} {pos : Pos} {it acc : Value} {env : Env} (I : Nat → Shared → Prop)
    (turn : ∀ n s, I n s → wpAny (model prog w) A (pyNext it) (fun r s₁ => match r with
      | none => R (.ok .next) s₁
      | some v => wpAny (model prog w) A (letOwnedTupleGo target it v) (fun _ s₁' => wpAny (model prog w) A (assign target env v) (fun _ s₂ =>
          wpAny (model prog w) A (forIn ifs true fun c r => if r = true then do let ok ← isTrue c env (eval c env); pure (ForInStep.yield ok) else pure (ForInStep.yield r)) (fun ok s₃ =>
            if ok = true then wpAny (model prog w) A (eval elt env) (fun x s₄ =>
              wpAny (model prog w) A (call (.builtin "list.append") [acc, x]) (fun _ s₅ => ∃ m, m < n ∧ I m s₅) (notedBy (model prog w) A env fun e s' => R (.error e) s') s₄) (notedBy (model prog w) A env fun e s' => R (.error e) s') s₃
            else ∃ m, m < n ∧ I m s₃) (notedBy (model prog w) A env fun e s' => R (.error e) s') s₂) (notedBy (model prog w) A env fun e s' => R (.error e) s') s₁') (notedBy (model prog w) A env fun e s' => R (.error e) s') s₁) (notedBy (model prog w) A env fun e s' => R (.error e) s') s)
    (n : Nat) (h : I n s) : codeAny (model prog w) A (.compLoop (.ListComp elt [⟨target, iter, ifs, 0⟩] scope pos) 0 it acc env) R s := by
  refine codeAny_loop rfl I (fun n s hI => ?_) n h
  show wpAny _ A ((compTurn (.ListComp elt [⟨target, iter, ifs, 0⟩] scope pos) 0 it acc env).onRaise (fun x => do noteFrame x env; theTreesLotGoes x)) _ _ s
  refine wpAny_noted ?_
  rw [compTurn_list]
  refine wpAny_bind (wpAny_standAt (wpAny_bind (wpAny_mono (turn n s hI) (fun r s₁ h₁ => ?_) fun _ _ h' => h')))
  cases r with
  | none => exact wpAny_pure h₁
  | some v =>
    refine wpAny_bind (wpAny_mono h₁ (fun _ s₁' h₁' => wpAny_bind (wpAny_mono h₁' (fun _ s₂ h₂ => wpAny_bind (wpAny_mono h₂ (fun ok s₃ h₃ => ?_) fun _ _ h' => h')) fun _ _ h' => h')) fun _ _ h' => h')
    cases ok with
    | false => exact wpAny_pure ⟨rfl, h₃⟩
    | true =>
      exact wpAny_bind (wpAny_bind (wpAny_mono h₃ (fun x s₄ h₄ => wpAny_bind (wpAny_mono h₄ (fun _ s₅ h₅ => wpAny_pure (wpAny_pure ⟨rfl, h₅⟩)) fun _ _ h' => h')) fun _ _ h' => h'))

theorem cellsFrom_acc : ∀ (names : List (Str × NameKind)) (n : Nat) (acc : List (Str × Addr)), cellsFrom n names acc = cellsFrom n names [] ++ acc
  | [], _, _ => rfl
  | (x, k) :: r, n, acc => by
    unfold cellsFrom
    split
    · rw [cellsFrom_acc r (n + 1) ((x, n) :: acc), cellsFrom_acc r (n + 1) [(x, n)]]; simp
    · exact cellsFrom_acc r n acc
theorem cellsFrom_mem {x : Str} {c : Addr} : ∀ {names : List (Str × NameKind)} {n : Nat}, (x, c) ∈ cellsFrom n names [] → (x, .cell) ∈ names ∧ n ≤ c
  | [], _, h => by cases h
  | (y, k) :: r, n, h => by
    unfold cellsFrom at h
    split at h
    · rename_i hk
      rw [cellsFrom_acc] at h
      rcases List.mem_append.mp h with h | h
      · obtain ⟨h1, h2⟩ := cellsFrom_mem h
        exact ⟨.tail _ h1, by (first | assumption | decide | exact le0 (by assumption) (by decide) | exact le1 (by assumption) (by decide) | exact le2 (by assumption) (by assumption) (by decide) | lia | omega)⟩
      · simp at h
        obtain ⟨rfl, rfl⟩ := h
        have : k = .cell := by simpa using hk
        subst this
        exact ⟨.head _, Nat.le_refl _⟩
    · obtain ⟨h1, h2⟩ := cellsFrom_mem h
      exact ⟨.tail _ h1, h2⟩


noncomputable def closL (cells : List (Str × Addr)) : List (Str × NameKind) → List (Str × Addr) → List (Str × Addr)
  | [], acc => acc
  | (x, k) :: r, acc => if k == .free then (match cells.lookup x with
      | some c => closL cells r ((x, c) :: acc)
      | Option.none => closL cells r acc) else closL cells r acc
theorem closL_acc (cells : List (Str × Addr)) : ∀ (names : List (Str × NameKind)) (acc : List (Str × Addr)), closL cells names acc = closL cells names [] ++ acc
  | [], _ => rfl
  | (x, k) :: r, acc => by
    unfold closL
    split
    · split
      · rename_i c _
        rw [closL_acc cells r ((x, c) :: acc), closL_acc cells r [(x, c)]]; simp
      · exact closL_acc cells r acc
    · exact closL_acc cells r acc
theorem closL_mem {cells : List (Str × Addr)} {x : Str} {c : Addr} : ∀ {names : List (Str × NameKind)}, (x, c) ∈ closL cells names [] → (x, .free) ∈ names ∧ cells.lookup x = some c
  | [], h => by cases h
  | (y, k) :: r, h => by
    unfold closL at h
    split at h
    · rename_i hk
      have hk : k = .free := by simpa using hk
      subst hk
      split at h
      · rename_i d hd
        rw [closL_acc] at h
        rcases List.mem_append.mp h with h | h
        · obtain ⟨h1, h2⟩ := closL_mem h
          exact ⟨.tail _ h1, h2⟩
        · simp at h
          obtain ⟨rfl, rfl⟩ := h
          exact ⟨.head _, hd⟩
      · obtain ⟨h1, h2⟩ := closL_mem h
        exact ⟨.tail _ h1, h2⟩
    · obtain ⟨h1, h2⟩ := closL_mem h
      exact ⟨.tail _ h1, h2⟩
theorem closL_has {cells : List (Str × Addr)} {x : Str} {c : Addr} (hc : cells.lookup x = some c) : ∀ {names : List (Str × NameKind)}, (x, .free) ∈ names → (x, c) ∈ closL cells names []
  | (y, k) :: r, h => by
    unfold closL
    rcases List.mem_cons.mp h with e | h
    · cases e
      simp only [beq_self_eq_true, if_true, hc]
      rw [closL_acc]
      exact List.mem_append_right _ (.head _)
    · split
      · split
        · rw [closL_acc]; exact List.mem_append_left _ (closL_has hc h)
        · exact closL_has hc h
      · exact closL_has hc h
theorem closureFor_is {scope : Scope} {env : Env} (h : ∀ x, (x, .free) ∈ scope.names → ∃ c, env.cells.lookup x = some c) : closureFor scope env = pure (closL env.cells scope.names []) := by
  unfold closureFor
  have key : ∀ (names : List (Str × NameKind)) (acc : List (Str × Addr)), (∀ x, (x, .free) ∈ names → ∃ c, env.cells.lookup x = some c) →
      (forIn names acc fun (p : Str × NameKind) (r : List (Str × Addr)) => (if (p.2 == NameKind.free) = true then do let c ← cellOf env p.1; pure (ForInStep.yield ((p.1, c) :: r)) else pure (ForInStep.yield r) : Sem _)) = pure (closL env.cells names acc) := by
    intro names
    induction names with
    | nil => intro acc _; rfl
    | cons p r ih =>
      intro acc hh
      obtain ⟨x, k⟩ := p
      have hr : ∀ x, (x, .free) ∈ r → ∃ c, env.cells.lookup x = some c := fun y hy => hh y (.tail _ hy)
      rw [List.forIn_cons]
      unfold closL
      by_cases hk : k = .free
      · subst hk
        obtain ⟨c, hc⟩ := hh x (.head _)
        simp only [beq_self_eq_true, if_true, hc]
        have e : cellOf env x = pure c := by unfold cellOf; rw [hc]
        rw [e]
        exact ih _ hr
      · have : (k == NameKind.free) = false := by simpa using hk
        simp only [this, Bool.false_eq_true, if_false]
        exact ih _ hr
  have := key scope.names [] h
  have e : (forIn scope.names [] fun (x : Str × NameKind) (cs : List (Str × Addr)) => match x with
          | (name, kind) =>
            if (kind == NameKind.free) = true then do
              let c ← cellOf env name
              pure (ForInStep.yield ((name, c) :: cs))
            else (pure (ForInStep.yield cs) : Sem _)) = pure (closL env.cells scope.names []) := this
  dsimp only
  rw [e]
  rfl
end Mine

-- part L11
namespace Mine
open PySem PySem.W PySem.Calls PySem.SeqAt PyProof.Rows


noncomputable def relS (scope sc : Scope) : Scope := { scope with names := scope.names.map fun (n, k) => if (k == .free && sc.names.lookup n == some .cell) then (n, .cell) else (n, k) }

noncomputable def freeIn (scope : Scope) (ρ : List (Str × AV)) : List (Str × AV) := ρ.filter fun p => scope.names.lookup p.1 == some .free

structure CompOk (scope sc : Scope) (xs : List Str) : Prop where
  kind : scope.kind = .function
  nodup : (scope.names.map (·.1)).Nodup
  free : scope.names.all (fun p => p.2 != .free || sc.names.lookup p.1 == some .cell || sc.names.lookup p.1 == some .free) = true
  own : xs.all (fun x => isOwn scope x) = true

theorem lookup_of_mem' {α : Type} : ∀ {l : List (Str × α)} {x : Str} {v : α}, (l.map (·.1)).Nodup → (x, v) ∈ l → l.lookup x = some v
  | (y, u) :: r, x, v, hn, h => by
    simp only [List.map_cons, List.nodup_cons] at hn
    rcases List.mem_cons.mp h with e | h
    · cases e; simp
    · have hne : x ≠ y := fun e => hn.1 (e ▸ List.mem_map.mpr ⟨_, h, rfl⟩)
      rw [List.lookup_cons, show (x == y) = false by simpa using hne]
      exact lookup_of_mem' hn.2 h

theorem relS_lookup {sc : Scope} {x : Str} : ∀ {names : List (Str × NameKind)}, (names.map fun (n, k) => if (k == NameKind.free && sc.names.lookup n == some .cell) then (n, NameKind.cell) else (n, k)).lookup x =
    (names.lookup x).map fun k => if (k == NameKind.free && sc.names.lookup x == some .cell) then NameKind.cell else k
  | [] => rfl
  | (y, k) :: r => by
    simp only [List.map_cons]
    by_cases e : x = y
    · subst e
      by_cases hc : (k == NameKind.free && sc.names.lookup x == some .cell) = true
      · rw [if_pos hc]; simp only [List.lookup_cons, beq_self_eq_true, Option.map_some]; rw [if_pos hc]
      · rw [if_neg hc]; simp only [List.lookup_cons, beq_self_eq_true, Option.map_some]; rw [if_neg hc]
    · have hb : (x == y) = false := by simpa using e
      have ih := relS_lookup (sc := sc) (x := x) (names := r)
      by_cases hc : (k == NameKind.free && sc.names.lookup y == some .cell) = true
      · rw [if_pos hc]; simp only [List.lookup_cons, hb]; exact ih
      · rw [if_neg hc]; simp only [List.lookup_cons, hb]; exact ih

theorem freeIn_lookup {scope : Scope} {x : Str} {av : AV} : ∀ {ρ : List (Str × AV)}, (freeIn scope ρ).lookup x = some av → scope.names.lookup x = some .free ∧ ρ.lookup x = some av
  | [], h => by simp [freeIn] at h
  | (y, v) :: r, h => by
    unfold freeIn at h
    rw [List.filter_cons] at h
    by_cases hy : (scope.names.lookup y == some NameKind.free) = true
    · rw [if_pos hy] at h
      by_cases e : x = y
      · subst e
        simp only [List.lookup_cons, beq_self_eq_true] at h ⊢
        exact ⟨by simpa using hy, h⟩
      · have hb : (x == y) = false := by simpa using e
        simp only [List.lookup_cons, hb] at h ⊢
        exact freeIn_lookup h
    · rw [if_neg hy] at h
      have ih := freeIn_lookup (ρ := r) h
      by_cases e : x = y
      · subst e
        exact absurd (by simpa using ih.1) hy
      · have hb : (x == y) = false := by simpa using e
        simp only [List.lookup_cons, hb]
        exact ih

section
variable {C : Cx} {n : Nat} {sc : Scope} {ρ : List (Str × AV)} {env : Env} {As : List Addr} {σ : List AO} {s : Shared} {A : Around} {E : Value → Shared → Prop} {recs : List DefRec}

noncomputable def compEnv' (scope : Scope) (L : Addr) (env : Env) : Env :=
  { newEnv scope L env.globals (cellsFrom (L + 1) scope.names (closL env.cells scope.names [])) env.qual none .none (some env) builtinsNs with scope := relabel scope env }
noncomputable def compHeap (scope : Scope) (h : Heap) : Heap := pushCells (h.push { cls := .type "dict", data := .dict #[] }) scope.names

theorem newComp {scope : Scope} {Q : Env → Shared → Prop} (h : Q (newEnv scope s.heap.objs.size env.globals (cellsFrom (s.heap.objs.size + 1) scope.names (closL env.cells scope.names [])) env.qual none .none (some env) builtinsNs) { s with heap := compHeap scope s.heap }) :
    wpAny (model C.prog C.w) A (newFunctionEnv scope env.globals (closL env.cells scope.names []) [] env.qual none .none (some env)) Q E s := by
  simp only [newFunctionEnv, Option.isSome_some, if_true]
  refine wpAny_bind (wpAny_alloc ?_)
  refine wpAny_bind (wpAny_layCells _ (fun name kind cells => by cases hkc : kind == NameKind.cell <;> simp [hkc]) _ _ _ _ ?_)
  rw [show ({ s with heap := s.heap.push { cls := .type "dict", data := .dict #[] } } : Shared).heap.objs.size = s.heap.objs.size + 1 from Heap.size_push ..]
  exact wpAny_bind (wpAny_pure (wpAny_pure h))


theorem FrameOk.comp {scope : Scope} {xs : List Str} (F : FrameOk C sc ρ env As s.heap) (S : Sim C As σ s.heap) (O : CompOk scope sc xs) :
    (∀ b o, s.heap.get? b = some o → (compHeap scope s.heap).get? b = some o) ∧ FrameOk C (relS scope sc) (freeIn scope ρ) (compEnv' scope s.heap.objs.size env) As (compHeap scope s.heap) ∧
    (∀ a ∈ ownX (compEnv' scope s.heap.objs.size env) xs, s.heap.get? a = Option.none) ∧ (∀ a ∈ own (compEnv' scope s.heap.objs.size env), s.heap.get? a = Option.none ∨ a ∈ own env) ∧ (∀ x, scope.names.lookup x = some .free → ∃ c, env.cells.lookup x = some c ∧ (compEnv' scope s.heap.objs.size env).cells.lookup x = some c) ∧ closureFor scope env = pure (closL env.cells scope.names []) := by
  have hL := S.fresh
  generalize eL : s.heap.objs.size = L at *
  have keep : ∀ b o, s.heap.get? b = some o → (compHeap scope s.heap).get? b = some o := fun b o e => pushCells_keeps _ _ b o (Heap.get?_push_of_some _ e)
  have cellOfFree : ∀ x, (x, .free) ∈ scope.names → ∃ c ov, env.cells.lookup x = some c ∧ s.heap.IsCell c ov ∧ C.B.get? c = Option.none ∧ ∀ av, ρ.lookup x = some av → ∃ v, ov = some v ∧ Rep s.heap As av v := fun x hx => by
    have := List.all_eq_true.mp O.free _ hx
    simp at this
    rcases this with q | q
    · exact F.cells x _ q (.inl rfl)
    · exact F.cells x _ q (.inr rfl)
  have hcl := closureFor_is (scope := scope) (env := env) fun x hx => let ⟨c, _, h, _⟩ := cellOfFree x hx; ⟨c, h⟩
  have ok := cellsFrom_ok scope.names (s.heap.push { cls := .type "dict", data := .dict #[] }) (L + 1) [] ⟨fun _ _ hm => (nomatch hm), List.Pairwise.nil⟩ (by rw [Heap.size_push, eL]; exact Nat.le_refl _)
  rw [Heap.size_push, eL] at ok
  have cellsEq : (compEnv' scope L env).cells = cellsFrom (L + 1) scope.names [] ++ closL env.cells scope.names [] := cellsFrom_acc _ _ _
  have above : ∀ c, L ≤ c → s.heap.get? c = Option.none := fun c hc => by
    cases e : s.heap.get? c with
    | none => rfl
    | some o => exact absurd (Heap.lt_size e) (by rw [eL]; exact Nat.not_lt.mpr hc)
  have baseNone : ∀ c, s.heap.get? c = Option.none → C.B.get? c = Option.none := fun c hc => by
    cases e : C.B.get? c with
    | none => rfl
    | some o => rw [S.base _ _ e] at hc; cases hc
  -- a name's own cell
  have ownCell : ∀ x c, (x, c) ∈ cellsFrom (L + 1) scope.names [] → (compHeap scope s.heap).IsCell c Option.none ∧ s.heap.get? c = Option.none := fun x c h => ⟨(ok.empty x c h).1, above c (Nat.le_of_lt (ok.empty x c h).2)⟩
  have lookOwn : ∀ x, scope.names.lookup x = some .cell → ∃ c, (compEnv' scope L env).cells.lookup x = some c ∧ (x, c) ∈ cellsFrom (L + 1) scope.names [] := fun x hx => by
    have hs := cellsFrom_some (x := x) scope.names (L + 1) [] (.inl hx)
    obtain ⟨c, hc⟩ := Option.isSome_iff_exists.mp hs
    refine ⟨c, ?_, PySem.mem_of_lookup hc⟩
    rw [cellsEq, List.lookup_append, hc]; rfl
  have lookFree : ∀ x c, scope.names.lookup x = some .free → env.cells.lookup x = some c → (compEnv' scope L env).cells.lookup x = some c := fun x c hx hc => by
    have h1 : (cellsFrom (L + 1) scope.names []).lookup x = Option.none := by
      cases e : (cellsFrom (L + 1) scope.names []).lookup x with
      | none => rfl
      | some d =>
        have := lookup_of_mem' O.nodup (cellsFrom_mem (PySem.mem_of_lookup e)).1
        rw [hx] at this; cases this
    rw [cellsEq, List.lookup_append, h1]
    have hm := closL_has hc (PySem.mem_of_lookup hx)
    cases e : (closL env.cells scope.names []).lookup x with
    | none =>
      have : ∀ {l : List (Str × Addr)}, (x, c) ∈ l → l.lookup x ≠ Option.none := by
        intro l
        induction l with
        | nil => intro h; cases h
        | cons p r ih =>
          intro h
          obtain ⟨y, d⟩ := p
          rw [List.lookup_cons]
          cases hb : x == y with
          | true => simp
          | false =>
            rcases List.mem_cons.mp h with q | q
            · cases q; simp at hb
            · exact ih q
      exact absurd e (this hm)
    | some d =>
      have := (closL_mem (PySem.mem_of_lookup e)).2
      rw [hc] at this; cases this; rfl
  have memCells : ∀ x c, (x, c) ∈ (compEnv' scope L env).cells → (x, c) ∈ cellsFrom (L + 1) scope.names [] ∨ ((x, .free) ∈ scope.names ∧ env.cells.lookup x = some c) := fun x c h => by
    rw [cellsEq] at h
    rcases List.mem_append.mp h with h | h
    · exact .inl h
    · exact .inr (closL_mem h)
  have scopeEq : relabel scope env = relS scope sc := by
    unfold relabel relS Env.kindOf
    rw [F.scope, F.kind]
    simp
  refine ⟨keep, ⟨scopeEq, O.kind, F.globals, F.builtins, hL.1, hL.2.1, ⟨fun _ => Option.none, ?_, fun x av hx hr => ?_⟩, fun x k hx hk => ?_, fun x y c h1 h2 => ?_, fun x c h => ?_⟩, fun a ha => ?_, fun a ha => ?_, fun x hx => ?_, hcl⟩
  · have := Heap.Ns.new s.heap (.type "dict")
    rw [eL] at this
    exact this.keeps (pushCells_keeps _ _)
  · have h1 := (freeIn_lookup hr).1
    have : (relS scope sc).names.lookup x = _ := relS_lookup (names := scope.names)
    rw [hx, h1] at this
    simp at this
    split at this <;> cases this
  · have hrel : (relS scope sc).names.lookup x = _ := relS_lookup (names := scope.names)
    rw [hx] at hrel
    cases hs : scope.names.lookup x with
    | none => rw [hs] at hrel; cases hrel
    | some k' =>
      cases k' with
      | cell =>
        obtain ⟨c, h1, h2⟩ := lookOwn x hs
        refine ⟨c, _, h1, (ownCell x c h2).1, baseNone c (ownCell x c h2).2, fun av hr => ?_⟩
        have := (freeIn_lookup hr).1
        rw [hs] at this; cases this
      | free =>
        obtain ⟨c, ov, h1, h2, h3, h4⟩ := cellOfFree x (PySem.mem_of_lookup hs)
        refine ⟨c, ov, lookFree x c hs h1, h2.keeps keep, h3, fun av hr => ?_⟩
        obtain ⟨v, e, r⟩ := h4 av (freeIn_lookup hr).2
        exact ⟨v, e, r.grow keep⟩
      | _ =>
        rw [hs] at hrel
        simp at hrel
        subst hrel
        rcases hk with hk | hk <;> cases hk
  · rcases memCells x c (PySem.mem_of_lookup h1) with q | ⟨q, q'⟩ <;> rcases memCells y c (PySem.mem_of_lookup h2) with r | ⟨r, r'⟩
    · exact name_of_addr ok.apart q r
    · obtain ⟨ov, o, e, _⟩ := F.live y c (PySem.mem_of_lookup r')
      rw [(ownCell x c q).2] at e; cases e
    · obtain ⟨ov, o, e, _⟩ := F.live x c (PySem.mem_of_lookup q')
      rw [(ownCell y c r).2] at e; cases e
    · exact F.apart x y c q' r'
  · rcases memCells x c h with q | ⟨q, q'⟩
    · exact ⟨_, (ownCell x c q).1⟩
    · obtain ⟨ov, e⟩ := F.live x c (PySem.mem_of_lookup q')
      exact ⟨ov, e.keeps keep⟩
  · rcases List.mem_cons.mp ha with rfl | ha
    · exact above _ (Nat.le_refl _)
    · obtain ⟨⟨x, c⟩, hp, rfl⟩ := List.mem_map.mp ha
      obtain ⟨h1, h2⟩ := List.mem_filter.mp hp
      rcases memCells x c h1 with q | ⟨q, q'⟩
      · exact (ownCell x c q).2
      · have hx : x ∈ xs := by simpa using h2
        have := List.all_eq_true.mp O.own x hx
        unfold isOwn at this
        rw [lookup_of_mem' O.nodup q] at this
        cases this
  · rcases List.mem_cons.mp ha with rfl | ha
    · exact .inl (above _ (Nat.le_refl _))
    · obtain ⟨⟨x, c⟩, hp, rfl⟩ := List.mem_map.mp ha
      rcases memCells x c hp with q | ⟨q, q'⟩
      · exact .inl (ownCell x c q).2
      · exact .inr (List.mem_cons_of_mem _ (List.mem_map.mpr ⟨_, PySem.mem_of_lookup q', rfl⟩))
  · obtain ⟨c, _, h1, _⟩ := cellOfFree x (PySem.mem_of_lookup hx)
    exact ⟨c, h1, lookFree x c hx h1⟩
end
end Mine

-- part L12
namespace Mine
open PySem PySem.W PySem.Calls PySem.SeqAt PyProof.Rows

noncomputable def EvIfs (C : Cx) (n : Nat) (sc : Scope) (ρ : List (Str × AV)) : List Expr → List AO → (Bool → List AO → Prop) → Prop
  | [], σ, K => K true σ
  | [t], σ, K => EvB C n sc ρ t σ K
  | _, _, _ => False


noncomputable def CompStep (C : Cx) (n : Nat) (scope sc : Scope) (ρ : List (Str × AV)) (tgt elt : Expr) (ifs : List Expr) (items : List AV) (G : List AO → Prop) (σ' : List AO) (Q : AV → List AO → Prop) : Prop :=
  items.length ≤ 1000 ∧ ∃ Inv : Nat → List AV → List AO → Prop, Inv 0 [] σ' ∧ (∀ i out σi, Inv i out σi → G σi) ∧
    (∀ i av out σi, items[i]? = some av → Inv i out σi → AsT C n (relS scope sc) (freeIn scope ρ) tgt av σi fun ρ' σ1 => EvIfs C n (relS scope sc) ρ' ifs σ1 fun ok σ2 => match ok with
      | true => EvE C n (relS scope sc) ρ' elt σ2 fun v σ3 => Inv (i + 1) (out ++ [v]) σ3
      | false => Inv (i + 1) out σ2) ∧
    ∀ out σf, Inv items.length out σf → Q (.ref σf.length) (σf ++ [.list out])

section
variable {C : Cx} {n : Nat} {sc : Scope} {ρ : List (Str × AV)} {env : Env} {As : List Addr} {σ : List AO} {s : Shared} {A : Around} {E : Value → Shared → Prop} {recs : List DefRec}

theorem Sim.touch {a : Addr} {h' : Heap} {tk : Nat} (S : Sim C As σ s.heap) (hA : a ∉ As) (hB : C.B.get? a = Option.none) (hT : ∀ vs, ¬ s.heap.IsTuple a vs) (hs : Heap.SameBut a s.heap h') :
    Sim C As σ h' ∧ Ext [a] As s As { s with heap := h', toks := tk } ∧ ∀ b vs, b ∉ As → TupAt s.heap b vs → TupAt h' b vs := by
  have tup : ∀ b vs, b ∉ As → TupAt s.heap b vs → TupAt h' b vs := fun b vs _ t => by
    obtain ⟨n, e⟩ := id t
    exact ⟨n, (hs.2 b (fun q => hT vs (q ▸ t.isTuple))).trans e⟩
  refine ⟨⟨fun b o e => (hs.2 b (fun q => by rw [q, hB] at e; cases e)).trans (S.base b o e), S.len, S.nodup, S.off, S.hi, fun i b ob h1 h2 => ?_⟩, ⟨⟨_, _, rfl⟩, fun b o _ hw e => (hs.2 b (fun q => hw (by simp [q]))).trans e, [], by simp, by simp⟩, tup⟩
  exact (S.obj i b ob h1 h2).keepT tup (hs.2 b (fun q => hA (q ▸ List.mem_of_getElem? h1)))

theorem EvIfs.use {ifs : List Expr} {K : Bool → List AO → Prop} (h : EvIfs C n sc ρ ifs σ K) (R : Room n A) (F : FrameOk C sc ρ env As s.heap) (S : Sim C As σ s.heap) :
    wpAny (model C.prog C.w) A (forIn ifs true fun c r => if r = true then do let ok ← isTrue c env (eval c env); pure (ForInStep.yield ok) else pure (ForInStep.yield r)) (PostB C As s K) E s := by
  match ifs, h with
  | [], h => exact wpAny_tests_nil (PostB.now S h)
  | [t], h => exact wpAny_tests_one (h.run A R env As s E F S)


theorem Sim.adopt {h : Heap} {D : Addr} {out : List AV} {ys : Array Value} (S : Sim C As σ h) (hD : D ∉ As) (hB : C.B.get? D = Option.none) (h4 : 4 ≤ D) (hl : h.PlainList D ys) (r : RepL h As out ys.toList) : Sim C (As ++ [D]) (σ ++ [.list out]) h := by
  obtain ⟨c, eD⟩ := hl
  have rep : ∀ {l vs}, RepL h As l vs → RepL h (As ++ [D]) l vs := fun {l vs} r => RepL.imp (fun b vs hb t => by
    refine ⟨fun hm => ?_, t⟩
    rcases List.mem_append.mp hm with hm | hm
    · exact hb hm
    · simp at hm; subst hm
      obtain ⟨n, e⟩ := t
      unfold IsT at e
      rw [eD] at e
      injection e with e
      injection e with e1
      exact absurd e1 (by decide)) r
  refine ⟨S.base, by simp [S.len], ?_, ?_, ?_, fun i b ob h1 h2 => ?_⟩
  · rw [List.nodup_append]
    exact ⟨S.nodup, by simp, fun x hx y hy e => by simp at hy; subst hy; subst e; exact hD hx⟩
  · intro x hx
    rcases List.mem_append.mp hx with hx | hx
    · exact S.off x hx
    · simp at hx; subst hx; exact hB
  · intro x hx
    rcases List.mem_append.mp hx with hx | hx
    · exact S.hi x hx
    · simp at hx; subst hx; exact h4
  · by_cases hi : i < As.length
    · rw [List.getElem?_append_left hi] at h1
      rw [List.getElem?_append_left (S.len ▸ hi)] at h2
      exact (S.obj i b ob h1 h2).by rep fun _ e => e
    · have : i = As.length := by
        obtain ⟨hl, _⟩ := List.getElem?_eq_some_iff.mp h1
        simp at hl
        (first | assumption | decide | exact le0 (by assumption) (by decide) | exact le1 (by assumption) (by decide) | exact le2 (by assumption) (by assumption) (by decide) | lia | omega)
      subst this
      simp at h1
      rw [S.len] at h2
      simp at h2
      subst h1 h2
      exact ⟨ys, ⟨c, eD⟩, rep r⟩


structure CL (C : Cx) (sc : Scope) (ρ : List (Str × AV)) (env : Env) (W priv : List Addr) (D : Addr) (srcs : List AV) (vals : List Value) (As₂ : List Addr) (s₄ : Shared) (out : List AV) (Asi : List Addr) (σi : List AO) (s' : Shared) : Prop where
  X : Ext W As₂ s₄ Asi s'
  S : Sim C Asi σi s'.heap
  F : FrameOk C sc ρ env Asi s'.heap
  rs : RepL s'.heap Asi srcs vals
  pA : ∀ a ∈ priv, a ∉ Asi
  pL : ∀ a ∈ priv, ∃ o, s'.heap.get? a = some o
  dA : D ∉ Asi
  acc : ∃ ys, s'.heap.PlainList D ys ∧ RepL s'.heap Asi out ys.toList

theorem CL.step {W W' priv : List Addr} {D : Addr} {srcs : List AV} {vals : List Value} {As₂ : List Addr} {s₄ : Shared} {out : List AV} {Asi Asj : List Addr} {σi σj : List AO} {s' s'' : Shared}
    (L : CL C sc ρ env W priv D srcs vals As₂ s₄ out Asi σi s') (Y : Ext W' Asi s' Asj s'') (S : Sim C Asj σj s''.heap) (hW : ∀ a ∈ W', a ∈ W) (hT : ∀ a ∈ W', ∀ vs, ¬ s'.heap.IsTuple a vs) (hO : ∀ a ∈ own env, a ∉ W') (hD : D ∉ W')
    (hl : ∀ a ∈ W, ∃ o, s'.heap.get? a = some o) (hp : ∀ a ∈ priv, ∃ o, s''.heap.get? a = some o) : CL C sc ρ env W priv D srcs vals As₂ s₄ out Asj σj s'' where
  X := L.X.trans (Y.sub hW hl)
  S := S
  F := L.F.extW L.S Y hT hO
  rs := L.rs.ext L.S Y hT
  pA := Y.apart fun a ha => ⟨L.pA a ha, L.pL a ha⟩
  pL := hp
  dA := Y.apart (P := [D]) (fun a ha => by simp at ha; subst ha; obtain ⟨ys, ⟨c, e⟩, _⟩ := L.acc; exact ⟨L.dA, _, e⟩) D (by first | exact nn | exact lb rfl | simp)
  acc := by
    obtain ⟨ys, ⟨c, e⟩, r⟩ := L.acc
    exact ⟨ys, ⟨c, Y.keep D _ L.dA hD e⟩, r.ext L.S Y hT⟩

theorem comp_core {tgt iter elt : Expr} {ifs : List Expr} {scope : Scope} {pos epos : Pos} {use : Option (Value → Sem Unit)} {Q : AV → List AO → Prop} {K : Value → Shared → Prop}
    (O : CompOk scope sc (tnames tgt)) (hs : ∀ env x, foldedSetIterable iter env x = pure x)
    (hI : EvI C n sc ρ tgt iter σ fun items G σ' => CompStep C n scope sc ρ tgt elt ifs items G σ' Q) (R : Room n A) (F : FrameOk C sc ρ env As s.heap) (S : Sim C As σ s.heap)
    (fin : ∀ s' As' σ' k D L m, Ext [] As s As' s' → Sim C As' σ' s'.heap → FrameOk C sc ρ env As' s'.heap → Rep s'.heap As' (.ref k) (.ref D) → Q (.ref k) σ' →
      s.heap.get? L = Option.none → L ∉ As' → C.B.get? L = Option.none → s'.heap.Ns L m → compPost (model C.prog C.w) A E use K (.ref D) L (.ok .next) s') :
    wpAny (model C.prog C.w) A (comprehension (.ListComp elt [⟨tgt, iter, ifs, 0⟩] scope epos) scope env pos (newList []) false (eval iter env) use) K E s := by
  have hcl := (F.comp S O).2.2.2.2.2
  refine wpAny_comprehension_free (cl := closL env.cells scope.names []) rfl (hs env) hcl O.kind (fun x hx hl => lookup_of_mem' O.nodup (by rw [← hl]; exact hx)) ?_
  refine wpAny_mono (hI.run A R env As s E F S) (fun x s₁ h₁ => wpAny_mono h₁ (fun it s₂ h₂ => ?_) fun _ _ e => e) fun _ _ e => e
  obtain ⟨I, priv, wr, srcs, vals, items, G, St, Mid, σ', As₂, rfl, P, X, S₂, rs, st, hp, hlen, Inv, h0, hG, hstep, hend⟩ := h₂
  have F₂ := F.ext S X
  refine wpAny_newList ?_ (Nat.zero_le _)
  -- the list that is built
  generalize hD : s₂.heap.objs.size = D
  have frD := S₂.fresh
  rw [hD] at frD
  obtain ⟨S₃, X₃⟩ := S₂.push { cls := .type "list", data := .seq ([] : List Value).toArray }
  have keep₃ : ∀ b o, s₂.heap.get? b = some o → (s₂.heap.push { cls := .type "list", data := .seq ([] : List Value).toArray }).get? b = some o := fun b o e => Heap.get?_push_of_some _ e
  generalize hs₃ : ({ s₂ with heap := s₂.heap.push { cls := .type "list", data := .seq ([] : List Value).toArray } } : Shared) = s₃ at *
  have e₃ : s₃.heap = s₂.heap.push { cls := .type "list", data := .seq ([] : List Value).toArray } := by rw [← hs₃]
  rw [← e₃] at S₃ keep₃
  have F₃ := F₂.ext S₂ X₃
  have rs₃ := rs.grow keep₃
  have accD : s₃.heap.PlainList D #[] := ⟨0, by rw [e₃, ← hD]; exact Heap.get?_push_size _ rfl⟩
  refine newComp ?_
  obtain ⟨keep₄, F₄, frX, frO, frF, _⟩ := F₃.comp S₃ O
  obtain ⟨S₄, X₄⟩ := S₃.grow (tk := s₃.toks) keep₄
  have rs₄ := rs₃.grow keep₄
  generalize hL : s₃.heap.objs.size = L at *
  generalize hs₄ : ({ s₃ with heap := compHeap scope s₃.heap } : Shared) = s₄ at *
  have e₄ : s₄.heap = compHeap scope s₃.heap := by rw [← hs₄]
  rw [← e₄] at S₄ keep₄ F₄ rs₄
  show codeAny (model C.prog C.w) A (.compStart _ 0 _ _ (compEnv' scope L env)) (compPost (model C.prog C.w) A E use K (.ref D) L) s₄
  generalize hcenv : compEnv' scope L env = cenv at *
  have eL : cenv.locals = L := by rw [← hcenv]; rfl
  have keep₂₄ : ∀ b o, s₂.heap.get? b = some o → s₄.heap.get? b = some o := fun b o e => keep₄ b o (keep₃ b o e)
  have acc₄ : s₄.heap.PlainList D #[] := let ⟨c, e⟩ := accD; ⟨c, keep₄ _ _ e⟩
  have st₄ : St 0 s₄.heap := P.frame _ _ _ st fun b _ o e => keep₂₄ b o e
  have X₂₄ : Ext [] As₂ s₂ As₂ s₄ := X₃.trans X₄
  have F₀₄ := F₂.ext S₂ X₂₄
  have priv₄ : ∀ a ∈ priv, a ∉ As₂ ∧ ∃ o, s₄.heap.get? a = some o := fun a ha => ⟨(hp a ha).1, let ⟨o, e⟩ := (hp a ha).2.2; ⟨o, keep₂₄ a o e⟩⟩
  -- the places of the comprehension's own
  have ownF := F₄.ownLive
  have frX₂ : ∀ a ∈ ownX cenv (tnames tgt), s₃.heap.get? a = Option.none := frX
  have DnotX : D ∉ ownX cenv (tnames tgt) := fun h => by obtain ⟨c, e⟩ := accD; rw [frX₂ D h] at e; cases e
  have privX : ∀ a ∈ priv, a ∉ ownX cenv (tnames tgt) := fun a ha h => by
    obtain ⟨o, e⟩ := (hp a ha).2.2
    have := keep₃ a o e
    rw [frX₂ a h] at this; cases this
  have privD : ∀ a ∈ priv, a ≠ D := fun a ha h => by
    obtain ⟨o, e⟩ := (hp a ha).2.2
    rw [h, frD.2.2] at e; cases e
  have ownNotPriv : ∀ a ∈ own cenv, a ∉ priv := fun a ha hm => by
    rcases frO a ha with q | q
    · obtain ⟨o, e⟩ := (hp a hm).2.2
      rw [keep₃ a o e] at q; cases q
    · obtain ⟨o, e⟩ := F.ownLive a q
      rw [(hp a hm).2.1] at e; cases e
  have ownEnvPriv : ∀ a ∈ own env, a ∉ priv := fun a q hm => by
    obtain ⟨o, e⟩ := F.ownLive a q
    rw [(hp a hm).2.1] at e; cases e
  have ownEnvX : ∀ a ∈ own env, a ∉ ownX cenv (tnames tgt) := fun a q hm => by
    obtain ⟨o, e⟩ := F₃.ownLive a q
    rw [frX₂ a hm] at e; cases e
  have ownEnvD : ∀ a ∈ own env, a ≠ D := fun a q hm => by
    obtain ⟨o, e⟩ := F₂.ownLive a q
    rw [hm, frD.2.2] at e; cases e
  have ownCenvD : ∀ a ∈ own cenv, a ≠ D := fun a ha hm => by
    rcases frO a ha with q | q
    · obtain ⟨c, e⟩ := accD
      rw [hm] at q; rw [q] at e; cases e
    · exact ownEnvD a q hm
  have liveX : ∀ (ρ' : List (Str × AV)) (Asi : List Addr) (h : Heap), FrameOk C (relS scope sc) ρ' cenv Asi h → ∀ a ∈ ownX cenv (tnames tgt), ∃ o, h.get? a = some o := fun ρ' Asi h Fi a ha => Fi.ownLive a (ownX_sub a ha)
  have liveW : ∀ (ρ' : List (Str × AV)) (out : List AV) (Asi : List Addr) (σi : List AO) (s' : Shared), CL C sc ρ env (D :: (ownX cenv (tnames tgt) ++ priv)) priv D srcs vals As₂ s₄ out Asi σi s' → FrameOk C (relS scope sc) ρ' cenv Asi s'.heap →
      ∀ a ∈ D :: (ownX cenv (tnames tgt) ++ priv), ∃ o, s'.heap.get? a = some o := fun ρ' out Asi σi s' L Fi a ha => by
    rcases List.mem_cons.mp ha with rfl | ha
    · obtain ⟨ys, ⟨c, e⟩, _⟩ := L.acc; exact ⟨_, e⟩
    · rcases List.mem_append.mp ha with ha | ha
      · exact liveX ρ' Asi _ Fi a ha
      · exact L.pL a ha
  have sized : ∀ (i : Nat) (out : List AV), i ≤ items.length → out.length ≤ i → out.length ≤ sizeLine := fun i out h1 h2 => by rw [sizeLine_eq]; (first | assumption | decide | exact le0 (by assumption) (by decide) | exact le1 (by assumption) (by decide) | exact le2 (by assumption) (by assumption) (by decide) | lia | omega)
  have start : codeAny (model C.prog C.w) A (.compLoop (.ListComp elt [⟨tgt, iter, ifs, 0⟩] scope epos) 0 (.ref I) (.ref D) cenv) (compPost (model C.prog C.w) A E use K (.ref D) L) s₄ := by
    refine compLoop_go (fun k s' => ∃ i out σi Asi, k = items.length + 1 - i ∧ i ≤ items.length ∧ out.length ≤ i ∧ CL C sc ρ env (D :: (ownX cenv (tnames tgt) ++ priv)) priv D srcs vals As₂ s₄ out Asi σi s' ∧
      FrameOk C (relS scope sc) (freeIn scope ρ) cenv Asi s'.heap ∧ St i s'.heap ∧ Inv i out σi) ?_ (items.length + 1)
      ⟨0, [], σ', As₂, rfl, Nat.zero_le _, Nat.zero_le _, ⟨Ext.refl, S₄, F₀₄, rs₄, fun a ha => (priv₄ a ha).1, fun a ha => (priv₄ a ha).2, frD.1, _, acc₄, RepL.nil⟩, F₄, st₄, h0⟩
    rintro k s' ⟨i, out, σi, Asi, rfl, hi, ho, L', Fi, sti, inv⟩
    have inW : ∀ a ∈ wr, a ∈ D :: (ownX cenv (tnames tgt) ++ priv) := fun a ha => List.mem_cons_of_mem _ (List.mem_append_right _ (P.sub a ha))
    have ownWr : ∀ a ∈ own cenv, a ∉ wr := fun a ha hw => ownNotPriv a ha (P.sub a hw)
    have envWr : ∀ a ∈ own env, a ∉ wr := fun a ha hw => ownEnvPriv a ha (P.sub a hw)
    have dWr : D ∉ wr := fun hw => privD D (P.sub D hw) rfl
    by_cases hlt : i < items.length
    · obtain ⟨av, hav⟩ : ∃ av, items[i]? = some av := ⟨items[i], by simp [hlt]⟩
      refine wpAny_mono (P.next i Asi σi s' _ av hav (hG i out σi inv) L'.S L'.pA L'.rs sti) (fun r s₅ h₅ => ?_) fun _ _ e => e
      obtain ⟨v, rfl, X₅, S₅, mid, rv⟩ := h₅
      have L₅ := L'.step X₅ S₅ inW (P.noTup i _ sti) envWr dWr (liveW _ _ _ _ _ L' Fi) (P.liveM i v _ mid)
      have F₅ := Fi.extW L'.S X₅ (P.noTup i _ sti) ownWr
      refine wpAny_mono (P.go i Asi σi s₅ _ v S₅ L'.pA mid) (fun _ s₆ h₆ => ?_) fun _ _ e => e
      obtain ⟨X₆, S₆, st₆⟩ := h₆
      have L₆ := L₅.step X₆ S₆ inW (P.noTupM i v _ mid) envWr dWr (liveW _ _ _ _ _ L₅ F₅) (P.live _ _ st₆)
      have F₆ := F₅.extW S₅ X₆ (P.noTupM i v _ mid) ownWr
      have rv₆ := rv.ext S₅ X₆ (P.noTupM i v _ mid)
      refine wpAny_mono ((hstep i av out σi hav inv).run A R cenv Asi s₆ _ v F₆ S₆ rv₆) (fun _ s₇ h₇ => ?_) fun _ _ e => e
      obtain ⟨ρ', σ₇, As₇, X₇, S₇, F₇, tests⟩ := h₇
      have keepP : ∀ {W' : List Addr} {Asj : List Addr} {sj sk : Shared} {Ask : List Addr} {σj : List AO} {out' : List AV}, CL C sc ρ env (D :: (ownX cenv (tnames tgt) ++ priv)) priv D srcs vals As₂ s₄ out' Asj σj sj → Ext W' Asj sj Ask sk → (∀ a ∈ priv, a ∉ W') →
          ∀ a ∈ priv, ∀ o, sj.heap.get? a = some o → sk.heap.get? a = some o := fun L Y h a ha o e => Y.keep a o (L.pA a ha) (h a ha) e
      have k₇ := keepP L₆ X₇ privX
      have L₇ := L₆.step X₇ S₇ (fun a ha => List.mem_cons_of_mem _ (List.mem_append_left _ ha)) (fun a ha => F₆.ownTuple a (ownX_sub a ha)) ownEnvX DnotX (liveW _ _ _ _ _ L₆ F₆) fun a ha => let ⟨o, e⟩ := L₆.pL a ha; ⟨o, k₇ a ha o e⟩
      refine wpAny_mono (EvIfs.use tests R F₇ S₇) (fun ok s₈ h₈ => ?_) fun _ _ e => e
      obtain ⟨σ₈, As₈, X₈, S₈, q₈⟩ := h₈
      have k₈ := keepP L₇ X₈ fun _ _ => by simp
      have L₈ := L₇.step X₈ S₈ (by first | exact nn | exact lb rfl | simp) (by first | exact nn | exact lb rfl | simp) (by first | exact nn | exact lb rfl | simp) (by first | exact nn | exact lb rfl | simp) (liveW _ _ _ _ _ L₇ F₇) fun a ha => let ⟨o, e⟩ := L₇.pL a ha; ⟨o, k₈ a ha o e⟩
      have F₈ := F₇.ext S₇ X₈
      -- the names that the turn has stored are forgotten: the frame as it was told before it
      have back : ∀ {Asj : List Addr} {sj : Shared} {σj : List AO}, Ext (ownX cenv (tnames tgt)) Asi s₆ Asj sj → Sim C Asj σj sj.heap → FrameOk C (relS scope sc) ρ' cenv Asj sj.heap → FrameOk C (relS scope sc) (freeIn scope ρ) cenv Asj sj.heap := by
        intro Asj sj σj Y Sj Fj
        obtain ⟨m, hn, _⟩ := Fj.ns
        have notLocal : ∀ x av, (freeIn scope ρ).lookup x = some av → (relS scope sc).names.lookup x = some .local → False := fun x av hr hx => by
          have h1 := (freeIn_lookup hr).1
          have : (relS scope sc).names.lookup x = _ := relS_lookup (names := scope.names)
          rw [hx, h1] at this
          simp at this
          split at this <;> cases this
        refine ⟨Fj.scope, Fj.kind, Fj.globals, Fj.builtins, Fj.off, Fj.offB, ⟨m, hn, fun x av hx hr => (notLocal x av hr hx).elim⟩, fun x kk hx hk => ?_, Fj.apart, Fj.live⟩
        obtain ⟨c, ov, h1, h2, h3, _⟩ := Fj.cells x kk hx hk
        refine ⟨c, ov, h1, h2, h3, fun bv hr => ?_⟩
        obtain ⟨c₀, ov₀, g1, g2, _, g4⟩ := F₆.cells x kk hx hk
        rw [g1] at h1; cases h1
        obtain ⟨u, rfl, ru⟩ := g4 bv hr
        obtain ⟨c₁, q1, q2⟩ := frF x (freeIn_lookup hr).1
        rw [g1] at q2; cases q2
        have hc : c ∉ ownX cenv (tnames tgt) := ownEnvX c (List.mem_cons_of_mem _ (List.mem_map.mpr ⟨_, PySem.mem_of_lookup q1, rfl⟩))
        obtain ⟨o, ho, hd⟩ := id g2
        have ho' := Y.keep c o (S₆.notCell g2) hc ho
        obtain ⟨o', ho'', hd'⟩ := h2
        rw [ho'] at ho''; cases ho''
        rw [hd] at hd'
        cases hd'
        exact ⟨u, rfl, ru.ext S₆ Y fun a ha => F₆.ownTuple a (ownX_sub a ha)⟩
      have st₈ : St (i + 1) s₈.heap := P.frame _ _ _ st₆ fun b hb o e => k₈ b hb o (k₇ b hb o e)
      have XX₈ : Ext (ownX cenv (tnames tgt)) Asi s₆ As₈ s₈ := X₇.trans (X₈.wider (liveX _ _ _ F₇))
      cases ok with
      | false =>
        simp only [Bool.false_eq_true, if_false]
        exact ⟨items.length + 1 - (i + 1), by (first | assumption | decide | exact le0 (by assumption) (by decide) | exact le1 (by assumption) (by decide) | exact le2 (by assumption) (by assumption) (by decide) | lia | omega), i + 1, out, σ₈, As₈, rfl, hlt, by (first | assumption | decide | exact le0 (by assumption) (by decide) | exact le1 (by assumption) (by decide) | exact le2 (by assumption) (by assumption) (by decide) | lia | omega), L₈, back XX₈ S₈ F₈, st₈, q₈⟩
      | true =>
        simp only [if_true]
        refine EvE.use q₈ R F₈ S₈ fun x s₉ bv σ₉ As₉ X₉ S₉ F₉ inv₉ rx => ?_
        have k₉ := keepP L₈ X₉ fun _ _ => by simp
        have L₉ := L₈.step X₉ S₉ (by first | exact nn | exact lb rfl | simp) (by first | exact nn | exact lb rfl | simp) (by first | exact nn | exact lb rfl | simp) (by first | exact nn | exact lb rfl | simp) (liveW _ _ _ _ _ L₈ F₈) fun a ha => let ⟨o, e⟩ := L₈.pL a ha; ⟨o, k₉ a ha o e⟩
        obtain ⟨ys, pl, ry⟩ := L₉.acc
        have hys : ys.size ≤ sizeLine := by rw [← Array.length_toList, ry.length]; exact sized i out hi ho
        refine wpAny_list_append_plain pl (fun h' pl' hs' => ?_) hys
        have frB : C.B.get? D = Option.none := frD.2.1
        have nT : ∀ vs, ¬ s₉.heap.IsTuple D vs := fun vs t => by
          obtain ⟨c, e⟩ := pl
          obtain ⟨o, e', hc, _⟩ := t
          rw [e] at e'; cases e'; simp at hc
        obtain ⟨S', Y, tup⟩ := S₉.touch (tk := s₉.toks) L₉.dA frB nT hs'
        have F' : FrameOk C (relS scope sc) ρ' cenv As₉ h' := F₉.extW S₉ Y (by intro a ha; simp at ha; subst ha; exact nT) (fun a ha => by simp; exact ownCenvD a ha)
        have XX₉ : Ext (ownX cenv (tnames tgt)) Asi s₆ As₉ s₉ := XX₈.trans (X₉.wider (liveX _ _ _ F₈))
        have B₉ := back XX₉ S₉ F₉
        refine ⟨items.length + 1 - (i + 1), by (first | assumption | decide | exact le0 (by assumption) (by decide) | exact le1 (by assumption) (by decide) | exact le2 (by assumption) (by assumption) (by decide) | lia | omega), i + 1, out ++ [bv], σ₉, As₉, rfl, hlt, by simp; (first | assumption | decide | exact le0 (by assumption) (by decide) | exact le1 (by assumption) (by decide) | exact le2 (by assumption) (by assumption) (by decide) | lia | omega), ⟨L₉.X.trans (Y.sub (by intro a ha; simp at ha; subst ha; exact List.mem_cons_self ..) (liveW _ _ _ _ _ L₉ F₉)), S', L₉.F.extW S₉ Y (by intro a ha; simp at ha; subst ha; exact nT) (fun a ha => by simp; exact ownEnvD a ha),
          L₉.rs.same tup, L₉.pA, fun a ha => let ⟨o, e⟩ := L₉.pL a ha; ⟨o, (hs'.2 a (privD a ha)).trans e⟩, L₉.dA, ys.push x, pl', ?_⟩, B₉.extW S₉ Y (by intro a ha; simp at ha; subst ha; exact nT) (fun a ha => by simp; exact ownCenvD a ha), ?_, inv₉⟩
        · rw [Array.toList_push]
          exact (ry.same tup).append (RepL.cons (rx.same tup) RepL.nil)
        · exact P.frame _ _ _ st₈ fun b hb o e => (hs'.2 b (privD b hb)).trans (k₉ b hb o e)
    · have hin : i = items.length := by (first | assumption | decide | exact le0 (by assumption) (by decide) | exact le1 (by assumption) (by decide) | exact le2 (by assumption) (by assumption) (by decide) | lia | omega)
      subst hin
      refine wpAny_mono (P.done Asi σi s' _ (hG _ out σi inv) L'.S L'.pA L'.rs sti) (fun r s₅ h₅ => ?_) fun _ _ e => e
      obtain ⟨rfl, X₅, S₅⟩ := h₅
      have F₅ := Fi.extW L'.S X₅ (P.noTup _ _ sti) ownWr
      have E₅ := L'.F.extW L'.S X₅ (P.noTup _ _ sti) envWr
      obtain ⟨ys, ⟨c, eD⟩, ry⟩ := L'.acc
      have pl₅ : s₅.heap.PlainList D ys := ⟨c, X₅.keep D _ L'.dA dWr eD⟩
      have r₅ := ry.ext L'.S X₅ (P.noTup _ _ sti)
      have T := S₅.adopt (out := out) L'.dA frD.2.1 (by rw [← hD]; exact S₂.big) pl₅ r₅
      have D0 : s.heap.get? D = Option.none := by
        cases e : s.heap.get? D with
        | none => rfl
        | some o =>
          have hDA : D ∉ As := fun hm => by obtain ⟨Y, e', _⟩ := X.more; exact frD.1 (e' ▸ List.mem_append_left _ hm)
          have := X.keep D o hDA (by first | exact nn | exact lb rfl | simp) e
          rw [frD.2.2] at this; cases this
      have X0 : ∀ a ∈ ownX cenv (tnames tgt), s.heap.get? a = Option.none := fun a ha => by
        cases e : s.heap.get? a with
        | none => rfl
        | some o =>
          have hA : a ∉ As := fun hm => by
            obtain ⟨j, ob, _, _, x⟩ := S.at hm
            have hA₂ : a ∈ As₂ := by obtain ⟨Y, e', _⟩ := X.more; exact e' ▸ List.mem_append_left _ hm
            obtain ⟨j', ob', _, _, x'⟩ := S₃.at hA₂
            obtain ⟨q, e', _⟩ := x'.ex
            rw [frX₂ a ha] at e'; cases e'
          have := keep₃ a o (X.keep a o hA (by first | exact nn | exact lb rfl | simp) e)
          rw [frX₂ a ha] at this; cases this
      have W0 : ∀ a ∈ D :: (ownX cenv (tnames tgt) ++ priv), s.heap.get? a = Option.none := fun a ha => by
        rcases List.mem_cons.mp ha with rfl | ha
        · exact D0
        · rcases List.mem_append.mp ha with ha | ha
          · exact X0 a ha
          · exact (hp a ha).2.1
      have WA : ∀ a ∈ D :: (ownX cenv (tnames tgt) ++ priv), a ∉ As₂ := fun a ha => by
        rcases List.mem_cons.mp ha with rfl | ha
        · exact frD.1
        · rcases List.mem_append.mp ha with ha | ha
          · intro hm
            obtain ⟨j', ob', _, _, x'⟩ := S₃.at hm
            obtain ⟨q, e', _⟩ := x'.ex
            rw [frX₂ a ha] at e'; cases e'
          · exact (hp a ha).1
      have whole : Ext [] As s Asi s₅ := by
        have e1 : Ext (D :: (ownX cenv (tnames tgt) ++ priv)) As s As₂ s₄ := by simpa using (X.trans X₂₄).addR WA
        exact ((e1.trans L'.X).trans (X₅.sub inW (liveW _ _ _ _ _ L' Fi))).drop W0
      obtain ⟨Y, eY, hY⟩ := whole.more
      have whole' : Ext [] As s (Asi ++ [D]) s₅ := ⟨whole.same, whole.keep, Y ++ [D], by rw [eY]; simp, fun a ha => by
        rcases List.mem_append.mp ha with ha | ha
        · exact hY a ha
        · simp at ha; subst ha
          exact ⟨fun hm => L'.dA (eY ▸ List.mem_append_left _ hm), by simp, D0⟩⟩
      obtain ⟨m, hn, _⟩ := F₅.ns
      rw [eL] at hn
      refine fin s₅ (Asi ++ [D]) (σi ++ [.list out]) σi.length D L m whole' T (F.ext S whole') ?_ (hend out σi inv) (X0 L (by rw [← eL]; exact List.mem_cons_self ..)) (fun hm => ?_) (eL ▸ F₅.offB) hn
      · unfold Rep
        exact ⟨D, rfl, by rw [← S₅.len]; simp⟩
      · rcases List.mem_append.mp hm with hm | hm
        · exact F₅.off (eL ▸ hm)
        · simp at hm
          exact DnotX (by rw [← hm, ← eL]; exact List.mem_cons_self ..)
  exact codeAny_compStart_list start (P.self 0 _ _ _ st₄ start)
end
end Mine

-- part L13
namespace Mine
open PySem PySem.W PySem.Calls PySem.SeqAt PyProof.Rows

section
variable {C : Cx} {n : Nat} {sc : Scope} {ρ : List (Str × AV)} {env : Env} {As : List Addr} {σ : List AO} {s : Shared} {A : Around} {E : Value → Shared → Prop} {recs : List DefRec}

theorem Ext.touched {L : Addr} {As' : List Addr} {s' s'' : Shared} (X : Ext [] As s As' s') (Y : Ext [L] As' s' As' s'') (hL : L ∉ As') (h0 : s.heap.get? L = Option.none) : Ext [] As s As' s'' :=
  Ext.dropR (W := []) (P := [L]) ((X.addR (P := [L]) (by intro a ha; simp at ha; subst ha; exact hL)).trans Y) (by intro a ha; simp at ha; subst ha; exact h0)

theorem ev_comp {tgt iter elt : Expr} {ifs : List Expr} {scope : Scope} {epos : Pos} {Q : AV → List AO → Prop} (O : CompOk scope sc (tnames tgt)) (hs : ∀ env x, foldedSetIterable iter env x = pure x)
    (hI : EvI C n sc ρ tgt iter σ fun items G σ' => CompStep C n scope sc ρ tgt elt ifs items G σ' Q) : EvE C n sc ρ (.ListComp elt [⟨tgt, iter, ifs, 0⟩] scope epos) σ Q := ⟨fun A R env As s E F S => by
  rw [eval_ListComp]
  refine comp_core (use := none) O hs hI R F S fun s' As' σ' k D L m X S' F' r q h1 h2 h3 hn => ?_
  refine ⟨m, hn, fun h' hs' => ?_⟩
  obtain ⟨S'', Y, tup⟩ := S'.touch (tk := s'.toks) h2 h3 (Ns_notTuple hn) hs'
  exact ⟨_, _, _, X.touched Y h2 h1, S'', q, r.same tup⟩⟩

theorem swaps_eq {elt : Expr} {gens : List Comprehension} {scope : Scope} {epos p : Pos} {x : Str} {line : Nat} : swapsWith (.ListComp elt gens scope epos) (some (.Name x p)) line env =
    pure (env.blockKind == .function && env.kindOf x == some .local && p.line == epos.line && !(scope.names.any fun (n, k) => n == x && (k == .local || k == .cell))) := rfl

theorem FrameOk.bk {h : Heap} (F : FrameOk C sc ρ env As h) : (env.blockKind == .function) = true := by
  unfold Env.blockKind; rw [F.scope, F.kind]; rfl


theorem ex_assignC {tgt iter elt : Expr} {ifs : List Expr} {scope : Scope} {epos p pos : Pos} {x : Str} {Q : Option AV → List (Str × AV) → List AO → Prop} (O : CompOk scope sc (tnames tgt)) (hs : ∀ env x, foldedSetIterable iter env x = pure x) (hx : isOwn sc x = true)
    (hI : EvI C n sc ρ tgt iter σ fun items G σ' => CompStep C n scope sc ρ tgt elt ifs items G σ' fun v σ'' => Q Option.none ((x, v) :: ρ) σ'') :
    Ex1 C n sc ρ (.Assign [.Name x p] (.ListComp elt [⟨tgt, iter, ifs, 0⟩] scope epos) pos) σ Q := ⟨fun A R env As s E F S => by
  cases hb : (env.blockKind == .function && env.kindOf x == some .local && p.line == epos.line && !(scope.names.any fun (n, k) => n == x && (k == .local || k == .cell))) with
  | false =>
    exact wpAny_Assign_Name (EvE.use (ev_comp O hs hI) R F S fun v s₁ a σ₁ As₁ X S₁ F₁ q r => F₁.store S₁ hx r fun s₂ Y S₂ F₂ => ⟨_, _, _, _, (F.wide X).trans (F₁.wideX Y), S₂, F₂, q, trivial⟩) (swaps_eq.trans (by rw [hb]))
  | true =>
    rw [exec_Assign_Name_used _ _ _ _ (swaps_eq.trans (by rw [hb]))]
    refine wpAny_bind (wpAny_standAt (wpAny_bind ?_))
    show wpAny (model C.prog C.w) A (comprehension (.ListComp elt [⟨tgt, iter, ifs, 0⟩] scope epos) scope env _ (newList []) false (eval iter env) (some (assign (.Name x p) env)) >>= fun _ => pure ()) _ _ _
    refine wpAny_bind (wpAny_mono (comp_core (use := some (assign (.Name x p) env)) (K := fun _ s' => PostS C sc env As s Q .next s') (E := E) O hs hI R F S fun s' As' σ' k D L m X S' F' r q h1 h2 h3 hn => ?_) (fun _ _ h => wpAny_pure (wpAny_pure h)) fun _ _ e => e)
    show wpAny _ _ (assign (.Name x p) env (.ref D)) _ _ _
    refine wpAny_assign_Name (F'.store S' hx r fun s'' Y S'' F'' => ?_)
    have hLo : L ∉ own env := fun hm => by
      obtain ⟨o, e⟩ := F.ownLive L hm
      rw [h1] at e; cases e
    have hn' : s''.heap.Ns L m := hn.at' fun o e => Y.keep L o h2 (fun hm => hLo (ownX_sub L hm)) e
    refine ⟨m, hn', fun h' hs' => ?_⟩
    obtain ⟨S₃, Z, tup⟩ := S''.touch (tk := s''.toks) h2 h3 (Ns_notTuple hn') hs'
    have F₃ := F''.extW S'' Z (by intro a ha; simp at ha; subst ha; exact Ns_notTuple hn') (fun a ha => by simp; exact fun e => hLo (e ▸ ha))
    refine ⟨_, _, _, _, ?_, S₃, F₃, q, trivial⟩
    have X₁ := (F.wide X).trans (F'.wideX Y)
    exact Ext.dropR (P := [L]) ((X₁.addR (P := [L]) (by intro a ha; simp at ha; subst ha; exact h2)).trans (Z.sub (by first | exact nn | exact lb rfl | simp) fun a ha => by
      rcases List.mem_append.mp ha with ha | ha
      · exact F''.ownLive a ha
      · simp at ha; subst ha; obtain ⟨o, _, _, e, _⟩ := Ns_ex hn'; exact ⟨o, e⟩)) (by intro a ha; simp at ha; subst ha; exact h1)⟩
end
end Mine

-- part L14
namespace Mine
open PySem PySem.W PySem.Calls PySem.SeqAt PyProof.Rows

section
variable {C : Cx} {n : Nat} {sc : Scope} {ρ : List (Str × AV)} {env : Env} {As : List Addr} {σ : List AO} {s : Shared} {A : Around} {E : Value → Shared → Prop} {recs : List DefRec}


theorem Sim.touchE {a : Addr} {h' : Heap} {tk : Nat} (S : Sim C As σ s.heap) (hA : a ∉ As) (hB : C.B.get? a = Option.none) (hT : ∀ vs, ¬ s.heap.IsTuple a vs) (hs : Heap.ExtBut a s.heap h') :
    Sim C As σ h' ∧ Ext [a] As s As { s with heap := h', toks := tk } ∧ ∀ b vs, b ∉ As → TupAt s.heap b vs → TupAt h' b vs := by
  have tup : ∀ b vs, b ∉ As → TupAt s.heap b vs → TupAt h' b vs := fun b vs _ t => by
    obtain ⟨n, e⟩ := id t
    exact ⟨n, hs b _ (fun q => hT vs (q ▸ t.isTuple)) e⟩
  refine ⟨⟨fun b o e => hs b o (fun q => by rw [q, hB] at e; cases e) (S.base b o e), S.len, S.nodup, S.off, S.hi, fun i b ob h1 h2 => ?_⟩, ⟨⟨_, _, rfl⟩, fun b o _ hw e => hs b o (fun q => hw (by simp [q])) e, [], by simp, by simp⟩, tup⟩
  have := (S.obj i b ob h1 h2).by (X := []) (h' := h') (fun r => by simpa using r.same tup) (fun o q => hs b o (fun q => hA (q ▸ List.mem_of_getElem? h1)) q)
  simpa using this


theorem ItP.one {tgt : Expr} {I : Addr} {srcs : List AV} {vals : List Value} {items : List AV} {G : List AO → Prop} {It : Nat → Heap → Prop} (hB : C.B.get? I = Option.none)
    (hat : ∀ i h h', (∀ o, h.get? I = some o → h'.get? I = some o) → It i h → It i h') (hlive : ∀ i h, It i h → ∃ o, h.get? I = some o ∧ o.cls ≠ .type "tuple")
    (next : ∀ (i : Nat) (As : List Addr) (σ : List AO) (s : Shared) (E : Value → Shared → Prop) (av : AV) (K : Option Value → Shared → Prop), items[i]? = some av → G σ → Sim C As σ s.heap → RepL s.heap As srcs vals → It i s.heap →
      (∀ v h' tk, It (i + 1) h' → Heap.ExtBut I s.heap h' → Rep s.heap As av v → K (some v) { s with heap := h', toks := tk }) → wpAny (model C.prog C.w) A (pyNext (.ref I)) K E s)
    (done : ∀ (As : List Addr) (σ : List AO) (s : Shared) (E : Value → Shared → Prop) (K : Option Value → Shared → Prop), G σ → Sim C As σ s.heap → RepL s.heap As srcs vals → It items.length s.heap →
      (∀ h' tk, Heap.ExtBut I s.heap h' → K Option.none { s with heap := h', toks := tk }) → wpAny (model C.prog C.w) A (pyNext (.ref I)) K E s)
    (go : ∀ (i : Nat) (s : Shared) (E : Value → Shared → Prop) (v : Value) (K : Unit → Shared → Prop), It (i + 1) s.heap → K () s → wpAny (model C.prog C.w) A (letOwnedTupleGo tgt (.ref I) v) K E s)
    (self : ∀ (i : Nat) (s : Shared) (Q E : Value → Shared → Prop), It i s.heap → Q (.ref I) s → wpAny (model C.prog C.w) A (pyIter (.ref I)) Q E s) :
    ItP C A tgt I [I] [I] srcs vals items G It (fun i _ h => It (i + 1) h) := by
  have nT : ∀ i h, It i h → ∀ a ∈ [I], ∀ vs, ¬ h.IsTuple a vs := fun i h it a ha vs t => by
    simp at ha; subst ha
    obtain ⟨o, e, hc⟩ := hlive i h it
    obtain ⟨o', e', hc', _⟩ := t
    rw [e] at e'; cases e'; exact hc hc'
  have lv : ∀ i h, It i h → ∀ a ∈ [I], ∃ o, h.get? a = some o := fun i h it a ha => by
    simp at ha; subst ha
    obtain ⟨o, e, _⟩ := hlive i h it
    exact ⟨o, e⟩
  refine ⟨fun a ha => ha, fun i h h' it hk => hat i h h' (fun o e => hk I (by first | exact nn | exact lb rfl | simp) o e) it, lv, fun i v h it => lv _ h it, nT, fun i v h it => nT _ h it, fun i As σ s E av hav hG S hp rs it => ?_, fun i As σ s E v S hp it => ?_, fun As σ s E hG S hp rs it => ?_, self⟩
  · refine next i As σ s E av _ hav hG S rs it fun v h' tk it' hs rv => ?_
    obtain ⟨S', X, tup⟩ := S.touchE (tk := tk) (hp I (by first | exact nn | exact lb rfl | simp)) hB (nT i _ it I (by first | exact nn | exact lb rfl | simp)) hs
    exact ⟨v, rfl, X, S', it', rv.same tup⟩
  · exact go i s E v _ it ⟨Ext.refl, S, it⟩
  · refine done As σ s E _ hG S rs it fun h' tk hs => ?_
    obtain ⟨S', X, tup⟩ := S.touchE (tk := tk) (hp I (by first | exact nn | exact lb rfl | simp)) hB (nT _ _ it I (by first | exact nn | exact lb rfl | simp)) hs
    exact ⟨rfl, X, S'⟩

theorem SameBut.ext {a : Addr} {h h' : Heap} (x : Heap.SameBut a h h') : Heap.ExtBut a h h' := x.extBut


noncomputable def isPlainT : Expr → Bool
  | .Name _ _ => true
  | _ => false
theorem go_name {tgt : Expr} {it v : Value} {K : Unit → Shared → Prop} (h : isPlainT tgt = true) (k : K () s) : wpAny (model C.prog C.w) A (letOwnedTupleGo tgt it v) K E s := by
  cases tgt <;> first | exact absurd h Bool.false_ne_true | exact wpAny_pure k

noncomputable def isPairT : Expr → Bool
  | .Tuple _ _ _ => true
  | .Name _ _ => true
  | _ => false
theorem go_tupI {elts : List Expr} {x1} {pos : Pos} {I l T : Addr} {i : Nat} {K : Unit → Shared → Prop} (hit : s.heap.IsTupleIter I l i) (hQ : K () s) :
    wpAny (model C.prog C.w) A (letOwnedTupleGo (.Tuple elts x1 pos) (.ref I) (.ref T)) K E s := by
  obtain ⟨o, ho, hc, hd⟩ := hit
  unfold letOwnedTupleGo
  refine wpAny_bind (wpAny_load ho ?_)
  rw [hc, hd]
  show wpAny _ A (if (["enumerate", "zip", "dict_itemiterator", "dict_reverseitemiterator", "odict_iterator", "itertools.zip_longest", "itertools.pairwise"].contains "tuple_iterator" &&
      (#[.ref l, .int i 0] : Array Value)[0]? == some (rawInt T)) = true then _ else _) K E s
  rw [if_neg (by
    intro h
    rw [show (["enumerate", "zip", "dict_itemiterator", "dict_reverseitemiterator", "odict_iterator", "itertools.zip_longest", "itertools.pairwise"].contains "tuple_iterator") = false from by decide, Bool.false_and] at h
    cases h)]
  exact wpAny_pure hQ
theorem go_tup {tgt : Expr} {I l : Addr} {i : Nat} {v : Value} {K : Unit → Shared → Prop} (h : isPairT tgt = true) (it : s.heap.IsTupleIter I l i) (k : K () s) : wpAny (model C.prog C.w) A (letOwnedTupleGo tgt (.ref I) v) K E s := by
  cases tgt <;> first | exact absurd h Bool.false_ne_true | exact wpAny_pure k | skip
  cases v <;> first | exact go_tupI it k | exact wpAny_pure k
theorem evi_tup2 {tgt e : Expr} {Q : List AV → (List AO → Prop) → List AO → Prop} (ht : isPairT tgt = true) (h : EvE C n sc ρ e σ fun a σ' => ∃ items, a = .tup items ∧ Q items (fun _ => True) σ') : EvI C n sc ρ tgt e σ Q := ⟨fun A R env As s E F S => by
  refine EvE.use h R F S fun v s₁ a σ₁ As₁ X₁ S₁ F₁ q r => ?_
  obtain ⟨items, rfl, q⟩ := q
  have r0 := r
  unfold Rep at r
  obtain ⟨t, vs, rfl, htA, T, rs⟩ := r
  refine wpAny_pyIter_tuple T.isTuple ?_
  have fr := S₁.fresh
  generalize hI : s₁.heap.objs.size = I at *
  obtain ⟨S₂, X₂⟩ := S₁.push { cls := .type "tuple_iterator", data := .fields #[.ref t, .int 0 0] }
  have keep : ∀ b o, s₁.heap.get? b = some o → (s₁.heap.push { cls := .type "tuple_iterator", data := .fields #[.ref t, .int 0 0] }).get? b = some o := fun b o e => Heap.get?_push_of_some _ e
  have eI : (s₁.heap.push { cls := .type "tuple_iterator", data := .fields #[.ref t, .int 0 0] }).get? I = some { cls := .type "tuple_iterator", data := .fields #[.ref t, .int 0 0] } := by rw [← hI]; exact Heap.get?_push_size _ rfl
  have I0 : s.heap.get? I = Option.none := by
    cases e : s.heap.get? I with
    | none => rfl
    | some o =>
      have hIA : I ∉ As := fun hm => by obtain ⟨Y, e', _⟩ := X₁.more; exact fr.1 (e' ▸ List.mem_append_left _ hm)
      have := X₁.keep I o hIA (by first | exact nn | exact lb rfl | simp) e
      rw [fr.2.2] at this; cases this
  refine ⟨I, [I], [I], [.tup items], [.ref t], items, fun _ => True, fun i h => h.IsTupleIter I t i, _, σ₁, As₁, rfl, ItP.one fr.2.1 (fun i h h' hk it => it.at hk) (fun i h it => ?_) ?_ ?_ (fun i s E v K it k => go_tup ht it k) (fun i s Q E it k => wpAny_pyIter_tupleiter it k), X₁.trans X₂, S₂, RepL.cons (r0.grow keep) RepL.nil,
    ⟨_, eI, rfl, rfl⟩, fun a ha => ?_, q⟩
  · obtain ⟨o, e, c, _⟩ := it
    exact ⟨o, e, by rw [c]; decide⟩
  · intro i As σ s E av K hav _ S rs it k
    obtain ⟨v, e, r⟩ := one rs
    cases e
    unfold Rep at r
    obtain ⟨t', vs, e, _, T, r⟩ := r
    cases e
    obtain ⟨x, hx, rx⟩ := r.get hav
    exact wpAny_pyNext_tuple_item it T.isTuple (x := x) (by simpa using hx) fun h' it' hs => k x h' s.toks it' hs.extBut rx
  · intro As σ s E K _ S rs it k
    obtain ⟨v, e, r⟩ := one rs
    cases e
    unfold Rep at r
    obtain ⟨t', vs, e, _, T, r⟩ := r
    cases e
    have hz : vs.size = items.length := by rw [← Array.length_toList, r.length]
    exact wpAny_pyNext_tuple_end (by exact R.hd) it T.isTuple (by rw [Array.getElem?_eq_none (by (first | assumption | decide | exact le0 (by assumption) (by decide) | exact le1 (by assumption) (by decide) | exact le2 (by assumption) (by assumption) (by decide) | lia | omega))]) fun h' hs => k h' s.toks hs
  · simp at ha; subst ha
    exact ⟨fr.1, I0, _, eI⟩⟩
theorem pair_plain {tgt : Expr} (h : isPlainT tgt = true) : isPairT tgt = true := by
  cases tgt <;> first | exact h | rfl
theorem evi_tup {tgt e : Expr} {Q : List AV → (List AO → Prop) → List AO → Prop} (ht : isPlainT tgt = true) (h : EvE C n sc ρ e σ fun a σ' => ∃ items, a = .tup items ∧ Q items (fun _ => True) σ') : EvI C n sc ρ tgt e σ Q := evi_tup2 (pair_plain ht) h
end
end Mine

-- part L15
namespace Mine
open PySem PySem.W PySem.Calls PySem.SeqAt PyProof.Rows

section
variable {C : Cx} {n : Nat} {sc : Scope} {ρ : List (Str × AV)} {env : Env} {As As₁ : List Addr} {σ σ₁ : List AO} {s s₁ : Shared} {A : Around} {E : Value → Shared → Prop} {recs : List DefRec}

theorem Ext.none {X : Ext [] As s As₁ s₁} {I : Addr} (hA : I ∉ As₁) (h : s₁.heap.get? I = Option.none) : s.heap.get? I = Option.none := by
  cases e : s.heap.get? I with
  | none => rfl
  | some o =>
    have hIA : I ∉ As := fun hm => by obtain ⟨Y, e', _⟩ := X.more; exact hA (e' ▸ List.mem_append_left _ hm)
    have := X.keep I o hIA (by first | exact nn | exact lb rfl | simp) e
    rw [h] at this; cases this

theorem iter_push (X₁ : Ext [] As s As₁ s₁) (S₁ : Sim C As₁ σ₁ s₁.heap) (o : Obj) (hf : o.isFreed = false) : Sim C As₁ σ₁ (s₁.heap.push o) ∧ Ext [] As s As₁ { s₁ with heap := s₁.heap.push o } ∧ (∀ b x, s₁.heap.get? b = some x → (s₁.heap.push o).get? b = some x) ∧
    (s₁.heap.push o).get? s₁.heap.objs.size = some o ∧ s₁.heap.objs.size ∉ As₁ ∧ C.B.get? s₁.heap.objs.size = Option.none ∧ s.heap.get? s₁.heap.objs.size = Option.none := by
  have fr := S₁.fresh
  obtain ⟨S₂, X₂⟩ := S₁.push o
  exact ⟨S₂, X₁.trans X₂, fun b x e => Heap.get?_push_of_some _ e, Heap.get?_push_size _ hf, fr.1, fr.2.1, Ext.none (X := X₁) fr.1 fr.2.2⟩

theorem go_list {tgt : Expr} {I l : Addr} {i : Nat} {v : Value} {K : Unit → Shared → Prop} (h : isPairT tgt = true) (it : s.heap.IsListIter I l i) (k : K () s) : wpAny (model C.prog C.w) A (letOwnedTupleGo tgt (.ref I) v) K E s := by
  cases tgt <;> first | exact absurd h Bool.false_ne_true | exact wpAny_pure k | skip
  cases v <;> first | exact wpAny_letOwnedTupleGo_listiter it k | exact wpAny_pure k


theorem listIt {tgt : Expr} {I l : Addr} {k : Nat} {items : List AV} (R : Room n A) (ht : isPairT tgt = true) (hB : C.B.get? I = Option.none) :
    ItP C A tgt I [I] [I] [.ref k] [.ref l] items (fun σ => σ[k]? = some (.list items)) (fun i h => h.IsListIter I l i) (fun i _ h => h.IsListIter I l (i + 1)) :=
  ItP.one hB (fun i h h' hk it => it.at hk) (fun i h it => let ⟨o, e, c, _⟩ := it; ⟨o, e, by rw [c]; decide⟩)
    (fun i As σ s E av K hav hG S rs it k' => by
      obtain ⟨v, e, r⟩ := one rs
      cases e
      unfold Rep at r
      obtain ⟨t', e, hk⟩ := r
      cases e
      obtain ⟨vs, pl, r⟩ := S.obj k l _ hk hG
      obtain ⟨x, hx, rx⟩ := r.get hav
      exact wpAny_pyNext_list_item it pl.isList (x := x) (by simpa using hx) fun h' it' hs => k' x h' s.toks it' hs.extBut rx)
    (fun As σ s E K hG S rs it k' => by
      obtain ⟨v, e, r⟩ := one rs
      cases e
      unfold Rep at r
      obtain ⟨t', e, hk⟩ := r
      cases e
      obtain ⟨vs, pl, r⟩ := S.obj k l _ hk hG
      have hz : vs.size = items.length := by rw [← Array.length_toList, r.length]
      exact wpAny_pyNext_list_end R.hd it pl.isList (by rw [Array.getElem?_eq_none (by (first | assumption | decide | exact le0 (by assumption) (by decide) | exact le1 (by assumption) (by decide) | exact le2 (by assumption) (by assumption) (by decide) | lia | omega))]) fun h' hs => k' h' s.toks hs)
    (fun i s E v K it k' => go_list ht it k') (fun i s Q E it k' => wpAny_pyIter_listiter it k')

theorem evi_list {tgt e : Expr} {Q : List AV → (List AO → Prop) → List AO → Prop} (ht : isPairT tgt = true)
    (h : EvE C n sc ρ e σ fun a σ' => ∃ k items, a = .ref k ∧ σ'[k]? = some (.list items) ∧ Q items (fun σ => σ[k]? = some (.list items)) σ') : EvI C n sc ρ tgt e σ Q := ⟨fun A R env As s E F S => by
  refine EvE.use h R F S fun v s₁ a σ₁ As₁ X₁ S₁ F₁ q r => ?_
  obtain ⟨k, items, rfl, hk, q⟩ := q
  have r0 := r
  unfold Rep at r
  obtain ⟨l, rfl, e⟩ := r
  obtain ⟨vs, pl, rs⟩ := S₁.obj k l _ e hk
  refine wpAny_pyIter_list pl.isList ?_
  obtain ⟨S₂, X₂, keep, eI, hA, hB, I0⟩ := iter_push X₁ S₁ { cls := .type "list_iterator", data := .fields #[.ref l, .int 0 0] } rfl
  exact ⟨_, [_], [_], [.ref k], [.ref l], items, _, _, _, σ₁, As₁, rfl, listIt R ht hB, X₂, S₂, RepL.cons (r0.grow keep) RepL.nil, ⟨_, eI, rfl, rfl⟩, fun a ha => by simp at ha; subst ha; exact ⟨hA, I0, _, eI⟩, q⟩⟩

-- the keys of a dict of ints
theorem keyIt {tgt : Expr} {I d : Addr} {k ep : Nat} {l : List (Int × AV)} (R : Room n A) (ht : isPlainT tgt = true) (hB : C.B.get? I = Option.none) :
    ItP C A tgt I [I] [I] [.ref k] [.ref d] (l.map fun p => AV.int p.1) (fun σ => σ[k]? = some (.dictI l ep)) (fun i h => h.IsKeyIter I d i l.length ep) (fun i _ h => h.IsKeyIter I d (i + 1) l.length ep) :=
  ItP.one hB (fun i h h' hk it => it.at hk) (fun i h it => let ⟨o, e, c, _⟩ := it; ⟨o, e, by rw [c]; decide⟩)
    (fun i As σ s E av K hav hG S rs it k' => by
      obtain ⟨v, e, r⟩ := one rs
      cases e
      unfold Rep at r
      obtain ⟨t', e, hk⟩ := r
      cases e
      obtain ⟨kvs, dd, r⟩ := S.obj k d _ hk hG
      have hlen : kvs.length = l.length := by have := congrArg List.length r.1; simpa using this
      rw [List.getElem?_map] at hav
      cases hl : l[i]? with
      | none => rw [hl] at hav; cases hav
      | some p =>
        rw [hl] at hav
        simp at hav
        have hi : i < kvs.length := by rw [hlen]; exact (List.getElem?_eq_some_iff.mp hl).1
        have hkv : kvs[i]? = some kvs[i] := by simp [hi]
        have hkey : (kvs[i]).1 = p.1 := by
          have h1 : (kvs.map (·.1))[i]? = some (kvs[i]).1 := by simp [hi]
          rw [r.1] at h1
          simp [hl] at h1
          exact h1.symm
        rw [← hlen] at it
        refine wpAny_pyNext_dict_item it dd (k := (kvs[i]).1) (v := (kvs[i]).2) hkv fun key h' hkey' it' hs => k' key h' s.toks (by rw [← hlen]; exact it') hs.extBut ?_
        obtain ⟨t, rfl⟩ := Value.isInt_shape (show Value.isInt (kvs[i]).1 key = true from hkey')
        subst hav
        unfold Rep
        exact ⟨t, by rw [hkey]⟩)
    (fun As σ s E K hG S rs it k' => by
      obtain ⟨v, e, r⟩ := one rs
      cases e
      unfold Rep at r
      obtain ⟨t', e, hk⟩ := r
      cases e
      obtain ⟨kvs, dd, r⟩ := S.obj k d _ hk hG
      have hlen : kvs.length = l.length := by have := congrArg List.length r.1; simpa using this
      rw [← hlen, List.length_map] at it
      exact wpAny_pyNext_dict_end R.hd it dd (by rw [List.getElem?_eq_none (by (first | assumption | decide | exact le0 (by assumption) (by decide) | exact le1 (by assumption) (by decide) | exact le2 (by assumption) (by assumption) (by decide) | lia | omega))]) fun h' hs => k' h' s.toks hs)
    (fun i s E v K it k' => go_name ht k') (fun i s Q E it k' => wpAny_pyIter_keyiter it k')

theorem evi_dictI {tgt e : Expr} {Q : List AV → (List AO → Prop) → List AO → Prop} (ht : isPlainT tgt = true)
    (h : EvE C n sc ρ e σ fun a σ' => ∃ k l ep, a = .ref k ∧ σ'[k]? = some (.dictI l ep) ∧ Q (l.map fun p => AV.int p.1) (fun σ => σ[k]? = some (.dictI l ep)) σ') : EvI C n sc ρ tgt e σ Q := ⟨fun A R env As s E F S => by
  refine EvE.use h R F S fun v s₁ a σ₁ As₁ X₁ S₁ F₁ q r => ?_
  obtain ⟨k, l, ep, rfl, hk, q⟩ := q
  have r0 := r
  unfold Rep at r
  obtain ⟨d, rfl, e⟩ := r
  obtain ⟨kvs, dd, rs⟩ := S₁.obj k d _ e hk
  have hlen : kvs.length = l.length := by have := congrArg List.length rs.1; simpa using this
  refine wpAny_pyIter_dict (S₁.notSys (List.mem_of_getElem? e)) dd ?_
  obtain ⟨S₂, X₂, keep, eI, hA, hB, I0⟩ := iter_push X₁ S₁ { cls := .type "dict_keyiterator", data := .fields #[.ref d, .int 0 0, .int kvs.length 0, .int ep 0] } rfl
  exact ⟨_, [_], [_], [.ref k], [.ref d], _, _, _, _, σ₁, As₁, rfl, keyIt R ht hB, X₂, S₂, RepL.cons (r0.grow keep) RepL.nil, ⟨_, eI, rfl, by rw [hlen]; rfl⟩, fun a ha => by simp at ha; subst ha; exact ⟨hA, I0, _, eI⟩, q⟩⟩

-- range(m)
theorem rangeIt {tgt : Expr} {I : Addr} {m : Nat} (R : Room n A) (ht : isPlainT tgt = true) (hB : C.B.get? I = Option.none) :
    ItP C A tgt I [I] [I] [] [] ((List.range m).map fun (i : Nat) => AV.int (i : Int)) (fun _ => True) (fun i h => IsRangeIter h I (i : Int) ((m : Int) - i) 1) (fun i _ h => IsRangeIter h I ((i + 1 : Nat) : Int) ((m : Int) - (i + 1 : Nat)) 1) :=
  ItP.one hB (fun i h h' hk it => hk _ it) (fun i h it => ⟨_, it, by simp⟩)
    (fun i As σ s E av K hav hG S rs it k' => by
      have hi : i < m := by
        have := (List.getElem?_eq_some_iff.mp hav).1
        simpa using this
      have e : av = .int i := by simp [hi] at hav; exact hav.symm
      subst e
      refine wpAny_pyNext_range_item it (by (first | assumption | decide | exact le0 (by assumption) (by decide) | exact le1 (by assumption) (by decide) | exact le2 (by assumption) (by assumption) (by decide) | lia | omega)) fun h' it' hs => k' (.int i s.toks) h' (s.toks + 1) ?_ hs.extBut ⟨_, rfl⟩
      have e1 : ((i + 1 : Nat) : Int) = (i : Int) + 1 := by (first | assumption | decide | exact le0 (by assumption) (by decide) | exact le1 (by assumption) (by decide) | exact le2 (by assumption) (by assumption) (by decide) | lia | omega)
      have e2 : (m : Int) - ((i + 1 : Nat) : Int) = (m : Int) - i - 1 := by (first | assumption | decide | exact le0 (by assumption) (by decide) | exact le1 (by assumption) (by decide) | exact le2 (by assumption) (by assumption) (by decide) | lia | omega)
      rw [e2, e1]; exact it')
    (fun As σ s E K hG S rs it k' => by
      refine wpAny_pyNext_range_end R.hd it (by first | exact nn | exact lb rfl | simp) fun h' hs => k' h' s.toks hs)
    (fun i s E v K it k' => go_name ht k') (fun i s Q E it k' => wpAny_pyIter_rangeiter it k')
theorem evi_range {tgt e : Expr} {f : Str} {p pos : Pos} {Q : List AV → (List AO → Prop) → List AO → Prop} (hC : C.Ok recs) (hx : sc.names.lookup f = some .globalImplicit) (hf : f = "range") (hs : isStarred e = false) (ht : isPlainT tgt = true)
    (h : EvE C n sc ρ e σ fun a σ' => ∃ m : Nat, a = .int m ∧ m ≤ 1000 ∧ Q ((List.range m).map fun (i : Nat) => AV.int (i : Int)) (fun _ => True) σ') : EvI C n sc ρ tgt (.Call (.Name f p) [e] [] pos) σ Q := ⟨fun A R env As s E F S => by
  subst hf
  have hl : EvL C n sc ρ [e] σ fun l σ' => ∃ m : Nat, l = [.int m] ∧ m ≤ 1000 ∧ Q ((List.range m).map fun (i : Nat) => AV.int (i : Int)) (fun _ => True) σ' := h.mono fun a σ' ⟨m, e, hm, q⟩ => ⟨m, by rw [e], hm, q⟩
  refine call_use hC hx (.inr ⟨hC.free _ (by decide +kernel), (hC.builtins _ (by decide +kernel)).trans (show bootBuiltins "range" = some (.type "range") by decide +kernel)⟩) (.inr (.inl ⟨_, rfl⟩)) hl (by simp [hs]) (by decide +kernel) R F S fun vs s₁ avs σ₁ As₁ X₁ S₁ q r => ?_
  obtain ⟨m, rfl, hm, q⟩ := q
  obtain ⟨v, rfl, r1⟩ := one r
  unfold Rep at r1
  obtain ⟨t, rfl⟩ := r1
  refine call_range_1 ?_
  obtain ⟨S₂, X₂⟩ := S₁.grow (tk := s₁.toks + 1 + 1) (h' := s₁.heap.push { cls := .type "range", data := .fields #[.int 0 s₁.toks, .int m t, .int 1 (s₁.toks + 1)] }) fun b o e => Heap.get?_push_of_some _ e
  have hr : IsRange (s₁.heap.push { cls := .type "range", data := .fields #[.int 0 s₁.toks, .int m t, .int 1 (s₁.toks + 1)] }) s₁.heap.objs.size 0 m 1 s₁.toks t (s₁.toks + 1) := Heap.get?_push_size _ rfl
  generalize hs₂ : ({ s₁ with heap := s₁.heap.push { cls := .type "range", data := .fields #[.int 0 s₁.toks, .int m t, .int 1 (s₁.toks + 1)] }, toks := s₁.toks + 1 + 1 } : Shared) = s₂ at *
  have e₂ : s₂.heap = s₁.heap.push { cls := .type "range", data := .fields #[.int 0 s₁.toks, .int m t, .int 1 (s₁.toks + 1)] } := by rw [← hs₂]
  rw [← e₂] at S₂ hr
  refine wpAny_pyIter_range hr (small_one (by decide) (by decide) (by (first | assumption | decide | exact le0 (by assumption) (by decide) | exact le1 (by assumption) (by decide) | exact le2 (by assumption) (by assumption) (by decide) | lia | omega)) (by (first | assumption | decide | exact le0 (by assumption) (by decide) | exact le1 (by assumption) (by decide) | exact le2 (by assumption) (by assumption) (by decide) | lia | omega))) ?_
  obtain ⟨S₃, X₃, keep, eI, hA, hB, I0⟩ := iter_push (X₁.trans X₂) S₂ { cls := .type "range_iterator", data := .fields #[rawInt 0, rawInt (Builtin.Range.rangeSize 0 m 1), rawInt 1] } rfl
  have hz : Builtin.Range.rangeSize 0 m 1 = m := by rw [PyProof.Rows.rangeSize_nat]; (first | assumption | decide | exact le0 (by assumption) (by decide) | exact le1 (by assumption) (by decide) | exact le2 (by assumption) (by assumption) (by decide) | lia | omega)
  exact ⟨_, [_], [_], [], [], _, _, _, _, σ₁, As₁, rfl, rangeIt (m := m) R ht hB, X₃, S₃, RepL.nil, by
    have eI' := eI
    rw [hz] at eI' ⊢
    show _ = _
    rw [eI']; simp, fun a ha => by simp at ha; subst ha; exact ⟨hA, I0, _, eI⟩, q⟩⟩
end
end Mine

-- part L16
namespace Mine
open PySem PySem.W PySem.Calls PySem.SeqAt PyProof.Rows

section
variable {C : Cx} {n : Nat} {sc : Scope} {ρ : List (Str × AV)} {env : Env} {As As₁ : List Addr} {σ σ₁ : List AO} {s s₁ : Shared} {A : Around} {E : Value → Shared → Prop} {recs : List DefRec}

noncomputable def notCall : Expr → Bool
  | .Call _ _ _ _ => false
  | _ => true
theorem base_of {o : Expr} {attr : Str} (h : notCall o = true) : attributeBase o attr env (eval o env) = eval o env := by
  cases o <;> first | exact absurd h Bool.false_ne_true | rfl

theorem se1 {e : Expr} (h : isStarred e = false) : starEach [e] env = [(false, eval e env)] := notStarred (by simp [h]) env
theorem se2 {e f : Expr} (h : isStarred e = false) (h' : isStarred f = false) : starEach [e, f] env = [(false, eval e env), (false, eval f env)] := notStarred (by simp [h, h']) env

theorem ev_append {o e : Expr} {apos pos : Pos} {Q : AV → List AO → Prop} (ho : notCall o = true) (he : isStarred e = false) (hl : (apos.endLine == pos.line) = true)
    (h : EvE C n sc ρ o σ fun a σ₁ => ∃ k l, a = .ref k ∧ σ₁[k]? = some (.list l) ∧ EvE C n sc ρ e σ₁ fun v σ₂ => ∃ l, σ₂[k]? = some (.list l) ∧ l.length ≤ 1000 ∧ Q .none (σ₂.set k (.list (l ++ [v])))) :
    EvE C n sc ρ (.Call (.Attribute o "append" apos) [e] [] pos) σ Q := ⟨fun A R env As s E F S => by
  refine wpAny_Call_append (base_of ho) (by rw [se1 he]; rfl) hl (by rw [se1 he]; rfl) (EvE.use h R F S fun ov s₁ a σ₁ As₁ X₁ S₁ F₁ q r₁ => ?_)
  obtain ⟨k, l, rfl, hk, q⟩ := q
  have r₁' := r₁
  unfold Rep at r₁
  obtain ⟨D, rfl, eD⟩ := r₁
  obtain ⟨vs, ⟨c, pl⟩, _⟩ := S₁.obj k D _ eD hk
  refine ⟨D, vs, rfl, ⟨_, c, pl, rfl, rfl, rfl⟩, EvE.use q R F₁ S₁ fun y s₂ v σ₂ As₂ X₂ S₂ F₂ q r₂ => ?_⟩
  obtain ⟨l, hk₂, hlen, q⟩ := q
  have rD := r₁'.ext S₁ X₂
  unfold Rep at rD
  obtain ⟨D', e, eD₂⟩ := rD
  cases e
  obtain ⟨ws, pl₂, rw₂⟩ := S₂.obj k D _ eD₂ hk₂
  refine wpAny_list_append_plain pl₂ (fun h' pl' hs' => ?_) (by rw [← Array.length_toList, rw₂.length, sizeLine_eq]; (first | assumption | decide | exact le0 (by assumption) (by decide) | exact le1 (by assumption) (by decide) | exact le2 (by assumption) (by assumption) (by decide) | lia | omega))
  have hT := S₂.tupBut (List.mem_of_getElem? eD₂) hs'
  obtain ⟨S', X'⟩ := S₂.put (tk := s₂.toks) (o := .list (l ++ [v])) eD₂ hs' ⟨_, pl', by rw [Array.toList_push]; exact (rw₂.same hT).append (RepL.cons (r₂.same hT) RepL.nil)⟩
  exact ⟨_, _, _, (X₁.trans X₂).trans X', S', q, rfl⟩⟩


noncomputable def ItemsOfAV (σ : List AO) (a : AV) (m : List AV) : Prop := a = .tup m ∨ ∃ k, a = .ref k ∧ σ[k]? = some (.list m)

theorem ev_extend {o e : Expr} {apos pos : Pos} {Q : AV → List AO → Prop} (ho : notCall o = true) (he : isStarred e = false) (hl : (apos.endLine == pos.line) = true)
    (h : EvE C n sc ρ o σ fun a σ₁ => ∃ k l, a = .ref k ∧ σ₁[k]? = some (.list l) ∧ EvE C n sc ρ e σ₁ fun v σ₂ => ∃ l m, σ₂[k]? = some (.list l) ∧ ItemsOfAV σ₂ v m ∧ l.length + m.length ≤ 1000 ∧ Q .none (σ₂.set k (.list (l ++ m)))) :
    EvE C n sc ρ (.Call (.Attribute o "extend" apos) [e] [] pos) σ Q := ⟨fun A R env As s E F S => by
  refine wpAny_Call_method (base_of ho) (by rw [se1 he]; rfl) hl PySem.F.plainAttrs_list PySem.F.slot_list_extend PySem.F.type_list_extend (EvE.use h R F S fun ov s₁ a σ₁ As₁ X₁ S₁ F₁ q r₁ => ?_)
  obtain ⟨k, l, rfl, hk, q⟩ := q
  have r₁' := r₁
  unfold Rep at r₁
  obtain ⟨D, rfl, eD⟩ := r₁
  obtain ⟨vs, ⟨c, pl⟩, _⟩ := S₁.obj k D _ eD hk
  refine ⟨⟨_, pl, rfl⟩, fun a e => by cases e; exact ⟨_, pl, rfl⟩, ?_⟩
  rw [se1 he]
  show wpAny _ _ (callWith pos (.builtin "list.extend") [.ref D] [(false, eval e env)] []) _ _ _
  refine seqMethod1_meets PySem.F.slot_list_extend PySem.F.entry_list_extend (EvE.use q R F₁ S₁ fun y s₂ v σ₂ As₂ X₂ S₂ F₂ q r₂ => ?_)
  obtain ⟨l, m, hk₂, him, hlen, q⟩ := q
  have rD := r₁'.ext S₁ X₂
  unfold Rep at rD
  obtain ⟨D', e, eD₂⟩ := rD
  cases e
  obtain ⟨ws, ⟨c₂, pl₂⟩, rw₂⟩ := S₂.obj k D _ eD₂ hk₂
  have hz : ws.size = l.length := by rw [← Array.length_toList, rw₂.length]
  -- the list is written
  have fin : ∀ (xs : Array Value), RepL s₂.heap As₂ m xs.toList → xs.size = m.length → PostE C As s Q .none { s₂ with heap := s₂.heap.update D (Obj.mapSeq fun x => x ++ xs) } := fun xs rx hx => by
    have hs' := Heap.SameBut.update s₂.heap D (Obj.mapSeq fun x => x ++ xs)
    have hT := S₂.tupBut (List.mem_of_getElem? eD₂) hs'
    obtain ⟨c', e'⟩ : ∃ c', (s₂.heap.update D (Obj.mapSeq fun x => x ++ xs)).get? D = some (seqObj "list" (ws ++ xs) c') := ⟨_, get?_update_seq pl₂ fun x => x ++ xs⟩
    obtain ⟨S', X'⟩ := S₂.put (tk := s₂.toks) (o := .list (l ++ m)) eD₂ hs' ⟨ws ++ xs, ⟨c', e'⟩, by rw [Array.toList_append]; exact (rw₂.same hT).append (rx.same hT)⟩
    exact ⟨_, _, _, (X₁.trans X₂).trans X', S', q, rfl⟩
  have big : ∀ k, k ≤ 1000 → ¬ (!ws.isEmpty && Builtin.List.listTooLong k) = true := fun k hk => by simp [Builtin.List.listTooLong, sizeLine]; (first | assumption | decide | exact le0 (by assumption) (by decide) | exact le1 (by assumption) (by decide) | exact le2 (by assumption) (by assumption) (by decide) | lia | omega)
  rcases him with rfl | ⟨k', rfl, hk'⟩
  · unfold Rep at r₂
    obtain ⟨t, xs, rfl, _, ⟨c₃, T⟩, rx⟩ := r₂
    have hx : xs.size = m.length := by rw [← Array.length_toList, rx.length]
    refine ⟨⟨_, pl₂, rfl⟩, PySem.F.args_list_extend_2 _ _, _, AutoSeq1.list_extend_list_tuple_0 D ws c₂ t xs c₃ (big _ (by (first | assumption | decide | exact le0 (by assumption) (by decide) | exact le1 (by assumption) (by decide) | exact le2 (by assumption) (by assumption) (by decide) | lia | omega))) (by rw [hz, sizeLine_eq]; (first | assumption | decide | exact le0 (by assumption) (by decide) | exact le1 (by assumption) (by decide) | exact le2 (by assumption) (by assumption) (by decide) | lia | omega)) (by rw [hz, hx, sizeLine_eq]; (first | assumption | decide | exact le0 (by assumption) (by decide) | exact le1 (by assumption) (by decide) | exact le2 (by assumption) (by assumption) (by decide) | lia | omega)), pl₂, T, ?_⟩
    exact fin xs rx hx
  · unfold Rep at r₂
    obtain ⟨t, rfl, et⟩ := r₂
    obtain ⟨xs, ⟨c₃, pl₃⟩, rx⟩ := S₂.obj k' t _ et hk'
    have hx : xs.size = m.length := by rw [← Array.length_toList, rx.length]
    refine ⟨⟨_, pl₂, rfl⟩, PySem.F.args_list_extend_2 _ _, _, AutoSeq1.list_extend_list_list_0 D ws c₂ t xs c₃ (big _ (by (first | assumption | decide | exact le0 (by assumption) (by decide) | exact le1 (by assumption) (by decide) | exact le2 (by assumption) (by assumption) (by decide) | lia | omega))) (by rw [hz, sizeLine_eq]; (first | assumption | decide | exact le0 (by assumption) (by decide) | exact le1 (by assumption) (by decide) | exact le2 (by assumption) (by assumption) (by decide) | lia | omega)) (by rw [hz, hx, sizeLine_eq]; (first | assumption | decide | exact le0 (by assumption) (by decide) | exact le1 (by assumption) (by decide) | exact le2 (by assumption) (by assumption) (by decide) | lia | omega)), pl₂, pl₃, ?_⟩
    exact fin xs rx hx⟩

theorem ev_get2 {o e₁ e₂ : Expr} {apos pos : Pos} {Q : AV → List AO → Prop} (ho : notCall o = true) (he : isStarred e₁ = false) (he' : isStarred e₂ = false) (hl : (apos.endLine == pos.line) = true)
    (h : EvE C n sc ρ o σ fun a σ₁ => ∃ k l ep, a = .ref k ∧ σ₁[k]? = some (.dictI l ep) ∧ EvE C n sc ρ e₁ σ₁ fun v σ₂ => ∃ i, v = .int i ∧ EvE C n sc ρ e₂ σ₂ fun u σ₃ => ∃ l ep, σ₃[k]? = some (.dictI l ep) ∧ Q ((getI l i).getD u) σ₃) :
    EvE C n sc ρ (.Call (.Attribute o "get" apos) [e₁, e₂] [] pos) σ Q := ⟨fun A R env As s E F S => by
  refine wpAny_Call_method (base_of ho) (by rw [se2 he he']; rfl) hl PySem.F.plainAttrs_dict PySem.F.slot_dict_get PySem.F.type_dict_get (EvE.use h R F S fun ov s₁ a σ₁ As₁ X₁ S₁ F₁ q r₁ => ?_)
  obtain ⟨k, l, ep, rfl, hk, q⟩ := q
  have r₁' := r₁
  unfold Rep at r₁
  obtain ⟨D, rfl, eD⟩ := r₁
  obtain ⟨kvs, d, _⟩ := S₁.obj k D _ eD hk
  refine ⟨d.dictOf.typeIs, fun a e => ?_, ?_⟩
  · cases e
    obtain ⟨o, es, ep, ho, he, hd, _⟩ := d.dictOf
    exact ⟨o, ho, he.2.1⟩
  rw [se2 he he']
  show wpAny _ _ (callWith pos (.builtin "dict.get") [.ref D] [(false, eval e₁ env), (false, eval e₂ env)] []) _ _ _
  refine wpAny_dict_get2 (knd := intKind C.prog C.w) (S₁.notSys (List.mem_of_getElem? eD)) (EvE.use q R F₁ S₁ fun y s₂ v σ₂ As₂ X₂ S₂ F₂ q r₂ => ?_)
  obtain ⟨i, rfl, q⟩ := q
  unfold Rep at r₂
  obtain ⟨t, rfl⟩ := r₂
  refine EvE.use q R F₂ S₂ fun z s₃ u σ₃ As₃ X₃ S₃ F₃ q r₃ => ?_
  obtain ⟨l, ep, hk₃, q⟩ := q
  have rD := (r₁'.ext S₁ X₂).ext S₂ X₃
  unfold Rep at rD
  obtain ⟨D', e, eD₃⟩ := rD
  cases e
  obtain ⟨kvs, d, r⟩ := S₃.obj k D _ eD₃ hk₃
  refine ⟨i, _, isInt i t, d.dictOf.mapOf, ?_⟩
  refine (PostE.here (tk := s₃.toks + 1) S₃ q ?_).lift ((X₁.trans X₂).trans X₃)
  have G := r.get (k := i)
  unfold getI
  cases hg : (l.find? fun kv => kv.1 = i).map (·.2) with
  | none => rw [G.2 hg]; exact r₃
  | some a => obtain ⟨x, hx, rx⟩ := G.1 a hg; rw [hx]; exact rx⟩
end
end Mine

-- part L17
namespace Mine
open PySem PySem.W PySem.Calls PySem.SeqAt PyProof.Rows

section
variable {prog : Program} {w : World} {A : Around} {E : Value → Shared → Prop} {s : Shared}
theorem nextOf_tup {it t : Addr} {i : Nat} {items} {x : Value} {Q : Value → Shared → Prop} (hit : s.heap.IsTupleIter it t i) (ht : s.heap.IsTuple t items) (hx : items[i]? = some x)
    (hQ : ∀ h', h'.IsTupleIter it t (i + 1) → Heap.SameBut it s.heap h' → Q x { s with heap := h' }) : wpAny (model prog w) A (Builtin.SmallTypes.nextOf (.ref it)) Q E s := by
  obtain ⟨o, ho, hc, hd⟩ := id hit
  obtain ⟨ot, hot, _, nt, hdt⟩ := ht
  unfold Builtin.SmallTypes.nextOf
  refine wpAny_bind (wpAny_callSpecial?_slot (name := Str.ofString "__next__") hit.typeIs PySem.F.slot_tuple_iterator_next
    (wpAny_call_entry PySem.F.slot_tuple_iterator_next hit.typeIs PySem.F.entry_tuple_iterator_next ?_ (PySem.F.args_tuple_iterator_next_1 _)))
  show wpAny _ _ (field (.ref it) 0 >>= _) _ _ s
  refine wpAny_bind (wpAny_field ho hd (x := .ref t) rfl ?_)
  show wpAny _ _ (if (Value.ref t == Value.none) = true then _ else _) _ _ s
  rw [if_neg (show ¬ ((Value.ref t == Value.none) = true) from Bool.false_ne_true)]
  show wpAny _ _ (field (.ref it) 1 >>= _) _ _ s
  refine wpAny_bind (wpAny_field ho hd (x := .int i 0) rfl ?_)
  show wpAny _ _ (seqItems? (.ref t) >>= _) _ _ s
  refine wpAny_bind (wpAny_seqItems hot hdt ?_)
  simp only [Int.toNat_natCast, hx]
  refine wpAny_bind (wpAny_setField ho hd (by first | exact nn | exact lb rfl | simp) (wpAny_pure ⟨x, rfl, wpAny_pure (hQ _ ?_ (Heap.SameBut.update ..))⟩))
  exact ⟨_, Heap.get?_update_self _ ho (Obj.isFreed_of_fields (Obj.data_mapFields hd _)), (Obj.cls_mapFields ..).trans hc, by rw [Obj.data_mapFields hd]; simp [rawInt]⟩

theorem nextOf_tup_end {it t : Addr} {i : Nat} {items} {Q : Value → Shared → Prop} (hh : A.handled = Option.none) (hit : s.heap.IsTupleIter it t i) (ht : s.heap.IsTuple t items) (hx : items[i]? = Option.none)
    (hE : ∀ h' e, Heap.ExtBut it s.heap h' → (∃ o, h'.get? e = some o ∧ o.cls = .type "StopIteration") → E (.ref e) { s with heap := h' }) : wpAny (model prog w) A (Builtin.SmallTypes.nextOf (.ref it)) Q E s := by
  obtain ⟨o, ho, hc, hd⟩ := id hit
  obtain ⟨ot, hot, _, nt, hdt⟩ := ht
  unfold Builtin.SmallTypes.nextOf
  refine wpAny_bind (wpAny_callSpecial?_slot (name := Str.ofString "__next__") hit.typeIs PySem.F.slot_tuple_iterator_next
    (wpAny_call_entry PySem.F.slot_tuple_iterator_next hit.typeIs PySem.F.entry_tuple_iterator_next ?_ (PySem.F.args_tuple_iterator_next_1 _)))
  show wpAny _ _ (field (.ref it) 0 >>= _) _ _ s
  refine wpAny_bind (wpAny_field ho hd (x := .ref t) rfl ?_)
  show wpAny _ _ (if (Value.ref t == Value.none) = true then _ else _) _ _ s
  rw [if_neg (show ¬ ((Value.ref t == Value.none) = true) from Bool.false_ne_true)]
  show wpAny _ _ (field (.ref it) 1 >>= _) _ _ s
  refine wpAny_bind (wpAny_field ho hd (x := .int i 0) rfl ?_)
  show wpAny _ _ (seqItems? (.ref t) >>= _) _ _ s
  refine wpAny_bind (wpAny_seqItems hot hdt ?_)
  simp only [Int.toNat_natCast, hx]
  refine wpAny_bind (wpAny_rule (wpAny_bind (wpAny_setField ho hd (by first | exact nn | exact lb rfl | simp) ?_)))
  show wpAny _ _ (newExc (.type "StopIteration") [] >>= _) _ _ _
  refine wpAny_bind ?_
  simp only [newExc, newTuple]
  refine wpAny_bind (wpAny_newObj_type ?_ (by size_fits))
  refine wpAny_bind (m := firstArgMember _ _) (wpAny_of_eq (a := Value.none) (by first | rfl | (simp only [firstArgMember]; rfl)) ?_)
  refine wpAny_newObj_type ?_ (by size_fits)
  simp only [raiseNew]
  refine wpAny_bind (wpAny_handled ?_)
  first | rw [show A.in1.handled = Option.none from hh] | rw [hh]
  refine wpAny_bind (wpAny_pure (wpAny_throw ?_))
  exact hE _ _ (((Heap.SameBut.update ..).extBut.push _).push _) ⟨_, Heap.get?_push_size _ rfl, rfl⟩
end


structure SrcD (C : Cx) (it : Addr) (srcs : List AV) (vals : List Value) (items : List AV) (It : Nat → Heap → Prop) : Prop where
  at' : ∀ i h h', It i h → (∀ o, h.get? it = some o → h'.get? it = some o) → It i h'
  live : ∀ i h, It i h → ∃ o, h.get? it = some o ∧ o.cls ≠ .type "tuple"
  item : ∀ (A : Around) (i : Nat) (As : List Addr) (s : Shared) (Q E : Value → Shared → Prop) (av : AV), items[i]? = some av → RepL s.heap As srcs vals → It i s.heap →
    (∀ x h' tk, Rep s.heap As av x → It (i + 1) h' → Heap.SameBut it s.heap h' → Q x { s with heap := h', toks := tk }) → wpAny (model C.prog C.w) A (Builtin.SmallTypes.nextOf (.ref it)) Q E s
  done : ∀ (A : Around) (As : List Addr) (s : Shared) (Q E : Value → Shared → Prop), A.handled = Option.none → RepL s.heap As srcs vals → It items.length s.heap →
    (∀ h' e, Heap.ExtBut it s.heap h' → (∃ o, h'.get? e = some o ∧ o.cls = .type "StopIteration") → E (.ref e) { s with heap := h' }) → wpAny (model C.prog C.w) A (Builtin.SmallTypes.nextOf (.ref it)) Q E s

theorem SrcD.tup {C : Cx} {it t : Addr} {items : List AV} : SrcD C it [.tup items] [.ref t] items fun i h => h.IsTupleIter it t i where
  at' := fun i h h' it hk => let ⟨o, e, r⟩ := it; ⟨o, hk o e, r⟩
  live := fun i h it => let ⟨o, e, c, _⟩ := it; ⟨o, e, by rw [c]; decide⟩
  item := fun A i As s Q E av hav rs it k => by
    obtain ⟨v, e, r⟩ := one rs
    cases e
    unfold Rep at r
    obtain ⟨t', vs, e, _, T, r⟩ := r
    cases e
    obtain ⟨x, hx, rx⟩ := r.get hav
    exact nextOf_tup it T.isTuple (x := x) (by simpa using hx) fun h' it' hs => k x h' s.toks rx it' hs
  done := fun A As s Q E hh rs it k => by
    obtain ⟨v, e, r⟩ := one rs
    cases e
    unfold Rep at r
    obtain ⟨t', vs, e, _, T, r⟩ := r
    cases e
    have hz : vs.size = items.length := by rw [← Array.length_toList, r.length]
    exact nextOf_tup_end hh it T.isTuple (by rw [Array.getElem?_eq_none (by (first | assumption | decide | exact le0 (by assumption) (by decide) | exact le1 (by assumption) (by decide) | exact le2 (by assumption) (by assumption) (by decide) | lia | omega))]) k

noncomputable def signs (x : Str) : List AV := x.cps.toList.map fun c => AV.str ⟨#[c]⟩
theorem SrcD.str {C : Cx} {it : Addr} {x : Str} {t : Tok} : SrcD C it [] [] (signs x) fun i h => h.IsStrIter it "str_ascii_iterator" x t i where
  at' := fun i h h' it hk => let ⟨o, e, r⟩ := it; ⟨o, hk o e, r⟩
  live := fun i h it => let ⟨o, e, c, _⟩ := it; ⟨o, e, by rw [c]; decide⟩
  item := fun A i As s Q E av hav rs it k => by
    unfold signs at hav
    rw [List.getElem?_map] at hav
    cases hc : x.cps.toList[i]? with
    | none => rw [hc] at hav; cases hav
    | some c =>
      rw [hc] at hav
      simp at hav
      subst hav
      exact wpAny_nextOf_ascii_item it (c := c) (by simpa using hc) fun h' it' hs => k _ h' _ (by unfold Rep; exact ⟨_, rfl⟩) it' hs
  done := fun A As s Q E hh rs it k => wpAny_nextOf_ascii_end hh it (by rw [Array.getElem?_eq_none (by simp [signs])]) k

theorem stepT {As : List Addr} {a : Addr} {h h' : Heap} (hs : Heap.ExtBut a h h') (ha : a ∈ As ∨ ∃ o, h.get? a = some o ∧ o.cls ≠ .type "tuple") : ∀ b vs, b ∉ As → TupAt h b vs → TupAt h' b vs := fun b vs hb t => by
  obtain ⟨n, e⟩ := id t
  refine ⟨n, hs b _ (fun q => ?_) e⟩
  subst q
  rcases ha with ha | ⟨o, e', c⟩
  · exact hb ha
  · unfold IsT at e
    rw [e] at e'; cases e'; exact c rfl

structure ZApart (z TI TO i1 i2 : Addr) : Prop where
  TIz : TI ≠ z
  TOz : TO ≠ z
  i1z : i1 ≠ z
  i2z : i2 ≠ z
  TITO : TI ≠ TO
  TIi1 : TI ≠ i1
  TIi2 : TI ≠ i2
  TOi1 : TO ≠ i1
  TOi2 : TO ≠ i2
  i12 : i1 ≠ i2

section
variable {C : Cx} {A : Around} {E : Value → Shared → Prop} {s : Shared} {As : List Addr} {z TI TO i1 i2 : Addr} {srcs₁ srcs₂ : List AV} {vals₁ vals₂ : List Value} {items₁ items₂ : List AV} {It₁ It₂ : Nat → Heap → Prop}

theorem zip_item {i : Nat} {a b : AV} {p q : Value} {Q : Value → Shared → Prop} (D : ZApart z TI TO i1 i2) (D₁ : SrcD C i1 srcs₁ vals₁ items₁ It₁) (D₂ : SrcD C i2 srcs₂ vals₂ items₂ It₂)
    (hz : IsZip s.heap z TI TO .none) (hTI : IsPair s.heap TI (.ref i1) (.ref i2)) (hTO : IsPair s.heap TO p q) (hA : TO ∈ As)
    (h1 : It₁ i s.heap) (h2 : It₂ i s.heap) (r1 : RepL s.heap As srcs₁ vals₁) (r2 : RepL s.heap As srcs₂ vals₂) (ha : items₁[i]? = some a) (hb : items₂[i]? = some b)
    (hQ : ∀ h' tk x y, IsZip h' z TI TO (rawInt s.heap.objs.size) → IsPair h' TO x y → It₁ (i + 1) h' → It₂ (i + 1) h' → IsPair h' s.heap.objs.size x y →
      (∀ c o, c ≠ z → c ≠ TO → c ≠ i1 → c ≠ i2 → s.heap.get? c = some o → h'.get? c = some o) → (∀ c, (∃ o, s.heap.get? c = some o) → c ≠ s.heap.objs.size) → Rep h' As a x → Rep h' As b y → Q (.ref s.heap.objs.size) { s with heap := h', toks := tk }) :
    wpAny (model C.prog C.w) A (Builtin.«zip.__next__» ⟨[.ref z], []⟩) (fun fin s' => ∃ v, fin = .done (.ret v) ∧ Q v s') E s := by
  show wpAny _ _ (field (.ref z) 2 >>= _) _ _ _
  refine wpAny_bind (wpAny_field hz rfl (x := .bool false) rfl ?_)
  show wpAny _ _ (field (.ref z) 3 >>= _) _ _ _
  refine wpAny_bind (wpAny_field hz rfl (x := .ref TI) rfl ?_)
  refine wpAny_bind (wpAny_seqItems hTI rfl ?_)
  show wpAny _ _ (Builtin.SmallTypes.ownedTupleIsFree (.ref z) >>= _) _ _ _
  refine wpAny_bind ?_
  unfold Builtin.SmallTypes.ownedTupleIsFree
  refine wpAny_bind (wpAny_field hz rfl (x := .none) rfl (wpAny_pure ?_))
  simp only [if_true]
  refine wpAny_bind (wpAny_rule ?_)
  refine wpAny_bind (wpAny_field hz rfl (x := .ref TO) rfl ?_)
  refine wpAny_bind (wpAny_setField_rec hz (by first | exact nn | exact lb rfl | simp) fun h₁ hz₁ hs₁ => ?_)
  replace hz₁ : IsZip h₁ z TI TO .ellipsis := hz₁
  refine wpAny_bind ?_
  simp only [List.zipIdx_cons, List.zipIdx_nil, List.forIn_cons, List.forIn_nil]
  refine wpAny_bind (wpAny_bind (wpAny_onRaise ?_))
  show wpAny _ _ (Builtin.SmallTypes.nextOf (.ref i1) >>= _) _ _ _
  have T₁ := stepT (As := As) hs₁.extBut (.inr ⟨_, hz, by simp⟩)
  refine wpAny_bind (D₁.item A i As _ _ _ a ha (r1.same T₁) (D₁.at' _ _ _ h1 fun o e => hs₁.extBut _ _ D.i1z e) fun x h₂ tk₂ rx h1₂ hs₂ => wpAny_pure ?_)
  have T₂ := stepT (As := As) hs₂.extBut (.inr (D₁.live i _ (D₁.at' _ _ _ h1 fun o e => hs₁.extBut _ _ D.i1z e)))
  have hTO₂ : IsPair h₂ TO p q := hs₂.extBut _ _ D.TOi1 (hs₁.extBut _ _ D.TOz hTO)
  refine wpAny_bind (wpAny_seqItems hTO₂ rfl ?_)
  refine wpAny_bind (wpAny_updateSeq_pair hTO₂ fun h₃ hTO₃ hs₃ => ?_)
  replace hTO₃ : IsPair h₃ TO x q := hTO₃
  have T₃ := stepT (As := As) hs₃.extBut (.inl hA)
  refine wpAny_bind (wpAny_letGo (wpAny_pure ?_))
  refine wpAny_bind (wpAny_bind (wpAny_onRaise ?_))
  show wpAny _ _ (Builtin.SmallTypes.nextOf (.ref i2) >>= _) _ _ _
  have h2₃ : It₂ i h₃ := D₂.at' _ _ _ h2 fun o e => hs₃.extBut _ _ D.TOi2.symm (hs₂.extBut _ _ D.i12.symm (hs₁.extBut _ _ D.i2z e))
  refine wpAny_bind (D₂.item A i As _ _ _ b hb (((r2.same T₁).same T₂).same T₃) h2₃ fun y h₄ tk₄ ry h2₄ hs₄ => wpAny_pure ?_)
  have T₄ := stepT (As := As) hs₄.extBut (.inr (D₂.live i _ h2₃))
  have hTO₄ : IsPair h₄ TO x q := hs₄.extBut _ _ D.TOi2 hTO₃
  refine wpAny_bind (wpAny_seqItems hTO₄ rfl ?_)
  refine wpAny_bind (wpAny_updateSeq_pair hTO₄ fun h₅ hTO₅ hs₅ => ?_)
  replace hTO₅ : IsPair h₅ TO x y := hTO₅
  have T₅ := stepT (As := As) hs₅.extBut (.inl hA)
  refine wpAny_bind (wpAny_letGo (wpAny_pure (wpAny_pure ?_)))
  refine wpAny_bind (wpAny_seqItems hTO₅ rfl ?_)
  refine wpAny_bind (wpAny_newTuple ?_)
  have hsz : h₅.objs.size = s.heap.objs.size := by rw [hs₅.1, hs₄.1, hs₃.1, hs₂.1, hs₁.1]
  have hz₅ : IsZip h₅ z TI TO .ellipsis := hs₅.extBut _ _ D.TOz.symm (hs₄.extBut _ _ D.i2z.symm (hs₃.extBut _ _ D.TOz.symm (hs₂.extBut _ _ D.i1z.symm hz₁)))
  have hk₅ : ∀ c o, c ≠ z → c ≠ TO → c ≠ i1 → c ≠ i2 → s.heap.get? c = some o → h₅.get? c = some o := fun c o c1 c2 c3 c4 e =>
    hs₅.extBut _ _ c2 (hs₄.extBut _ _ c4 (hs₃.extBut _ _ c2 (hs₂.extBut _ _ c3 (hs₁.extBut _ _ c1 e))))
  have h1₅ : It₁ (i + 1) h₅ := D₁.at' _ _ _ h1₂ fun o e => hs₅.extBut _ _ D.TOi1.symm (hs₄.extBut _ _ D.i12 (hs₃.extBut _ _ D.TOi1.symm e))
  have h2₅ : It₂ (i + 1) h₅ := D₂.at' _ _ _ h2₄ fun o e => hs₅.extBut _ _ D.TOi2.symm e
  have hzlt : z < h₅.objs.size := Heap.lt_size hz₅
  show wpAny _ _ (Builtin.SmallTypes.ownedTupleHandOut (.ref z) (.ref h₅.objs.size) >>= _) _ _ _
  refine wpAny_bind ?_
  unfold Builtin.SmallTypes.ownedTupleHandOut
  have hz₆ : IsZip (h₅.push { cls := .type "tuple", data := .seq #[x, y] }) z TI TO .ellipsis := Heap.get?_push_of_some _ hz₅
  have T₆ : ∀ b vs, b ∉ As → TupAt h₅ b vs → TupAt (h₅.push { cls := .type "tuple", data := .seq #[x, y] }) b vs := fun b vs _ ⟨n, e⟩ => ⟨n, Heap.get?_push_of_some _ e⟩
  refine wpAny_bind (wpAny_setField_rec hz₆ (by first | exact nn | exact lb rfl | simp) fun h₇ hz₇ hs₇ => ?_)
  have T₇ := stepT (As := As) hs₇.extBut (.inr ⟨_, hz₆, by simp⟩)
  replace hz₇ : IsZip h₇ z TI TO (rawInt h₅.objs.size) := hz₇
  refine wpAny_setField_rec hz₇ (by first | exact nn | exact lb rfl | simp) fun h₈ hz₈ hs₈ => ?_
  have T₈ := stepT (As := As) hs₈.extBut (.inr ⟨_, hz₇, by simp⟩)
  replace hz₈ : IsZip h₈ z TI TO (rawInt h₅.objs.size) := hz₈
  have up : ∀ c o, c ≠ z → h₅.get? c = some o → h₈.get? c = some o := fun c o c1 e => hs₈.extBut _ _ c1 (hs₇.extBut _ _ c1 (Heap.get?_push_of_some _ e))
  have hT₈ : IsPair h₈ h₅.objs.size x y := hs₈.extBut _ _ (Nat.ne_of_gt hzlt) (hs₇.extBut _ _ (Nat.ne_of_gt hzlt) (Heap.get?_push_size _ rfl))
  rw [hsz] at hz₈ hT₈
  refine wpAny_pure ⟨_, rfl, ?_⟩
  show Q (.ref h₅.objs.size) _
  rw [hsz]
  exact hQ h₈ _ x y hz₈ (up _ _ D.TOz hTO₅) (D₁.at' _ _ _ h1₅ fun o e => up _ o D.i1z e) (D₂.at' _ _ _ h2₅ fun o e => up _ o D.i2z e) hT₈ (fun c o c1 c2 c3 c4 e => up c o c1 (hk₅ c o c1 c2 c3 c4 e))
    (fun c ⟨o, e⟩ q => by rw [q] at e; exact absurd (Heap.lt_size e) (Nat.lt_irrefl _))
    (((((((rx.same T₂).same T₃).same T₄).same T₅).same T₆).same T₇).same T₈) (((((ry.same T₄).same T₅).same T₆).same T₇).same T₈)

theorem zip_end {i : Nat} {p q : Value} {Q : Fin → Shared → Prop} (hh : A.handled = Option.none) (D : ZApart z TI TO i1 i2) (D₁ : SrcD C i1 srcs₁ vals₁ items₁ It₁) (D₂ : SrcD C i2 srcs₂ vals₂ items₂ It₂)
    (hz : IsZip s.heap z TI TO .none) (hTI : IsPair s.heap TI (.ref i1) (.ref i2)) (hTO : IsPair s.heap TO p q) (hA : TO ∈ As)
    (h1 : It₁ i s.heap) (h2 : It₂ i s.heap) (r1 : RepL s.heap As srcs₁ vals₁) (r2 : RepL s.heap As srcs₂ vals₂) (hend : items₁.length = i ∨ (i < items₁.length ∧ items₂.length = i))
    (hE : ∀ h' e tk, (∀ c o, c ≠ z → c ≠ TO → c ≠ i1 → c ≠ i2 → s.heap.get? c = some o → h'.get? c = some o) → (∃ x y, IsPair h' TO x y) → (∃ o, h'.get? e = some o ∧ o.cls = .type "StopIteration") → E (.ref e) { s with heap := h', toks := tk }) :
    wpAny (model C.prog C.w) A (Builtin.«zip.__next__» ⟨[.ref z], []⟩) Q E s := by
  show wpAny _ _ (field (.ref z) 2 >>= _) _ _ _
  refine wpAny_bind (wpAny_field hz rfl (x := .bool false) rfl ?_)
  show wpAny _ _ (field (.ref z) 3 >>= _) _ _ _
  refine wpAny_bind (wpAny_field hz rfl (x := .ref TI) rfl ?_)
  refine wpAny_bind (wpAny_seqItems hTI rfl ?_)
  show wpAny _ _ (Builtin.SmallTypes.ownedTupleIsFree (.ref z) >>= _) _ _ _
  refine wpAny_bind ?_
  unfold Builtin.SmallTypes.ownedTupleIsFree
  refine wpAny_bind (wpAny_field hz rfl (x := .none) rfl (wpAny_pure ?_))
  simp only [if_true]
  refine wpAny_bind (wpAny_rule ?_)
  refine wpAny_bind (wpAny_field hz rfl (x := .ref TO) rfl ?_)
  refine wpAny_bind (wpAny_setField_rec hz (by first | exact nn | exact lb rfl | simp) fun h₁ hz₁ hs₁ => ?_)
  replace hz₁ : IsZip h₁ z TI TO .ellipsis := hz₁
  refine wpAny_bind ?_
  simp only [List.zipIdx_cons, List.zipIdx_nil, List.forIn_cons, List.forIn_nil]
  refine wpAny_bind (wpAny_bind (wpAny_onRaise ?_))
  show wpAny _ _ (Builtin.SmallTypes.nextOf (.ref i1) >>= _) _ _ _
  have T₁ := stepT (As := As) hs₁.extBut (.inr ⟨_, hz, by simp⟩)
  have h1₁ := D₁.at' _ _ _ h1 fun o e => hs₁.extBut _ _ D.i1z e
  rcases hend with rfl | ⟨hlt, rfl⟩
  · refine wpAny_bind (D₁.done A As _ _ _ hh (r1.same T₁) h1₁ fun h₂ e hs₂ he => ?_)
    obtain ⟨oe, hoe, hce⟩ := he
    have hz₂ : IsZip h₂ z TI TO .ellipsis := hs₂ _ _ D.i1z.symm hz₁
    have hez : e ≠ z := fun x => by subst x; rw [hz₂] at hoe; cases hoe; simp at hce
    have hTO₂ : IsPair h₂ TO p q := hs₂ _ _ D.TOi1 (hs₁.extBut _ _ D.TOz hTO)
    exact wpAny_setField_rec hz₂ (by first | exact nn | exact lb rfl | simp) fun h₃ _ hs₃ => hE h₃ e _ (fun c o c1 _ c3 _ x => hs₃.extBut _ _ c1 (hs₂ _ _ c3 (hs₁.extBut _ _ c1 x))) ⟨_, _, hs₃.extBut _ _ D.TOz hTO₂⟩ ⟨oe, hs₃.extBut _ _ hez hoe, hce⟩
  · refine wpAny_bind (D₁.item A items₂.length As _ _ _ items₁[items₂.length] (by simp [hlt]) (r1.same T₁) h1₁ fun x h₂ tk₂ rx h1₂ hs₂ => wpAny_pure ?_)
    have T₂ := stepT (As := As) hs₂.extBut (.inr (D₁.live _ _ h1₁))
    have hTO₂ : IsPair h₂ TO p q := hs₂.extBut _ _ D.TOi1 (hs₁.extBut _ _ D.TOz hTO)
    refine wpAny_bind (wpAny_seqItems hTO₂ rfl ?_)
    refine wpAny_bind (wpAny_updateSeq_pair hTO₂ fun h₃ hTO₃ hs₃ => ?_)
    replace hTO₃ : IsPair h₃ TO x q := hTO₃
    have T₃ := stepT (As := As) hs₃.extBut (.inl hA)
    refine wpAny_bind (wpAny_letGo (wpAny_pure ?_))
    refine wpAny_bind (wpAny_bind (wpAny_onRaise ?_))
    show wpAny _ _ (Builtin.SmallTypes.nextOf (.ref i2) >>= _) _ _ _
    have h2₃ : It₂ items₂.length h₃ := D₂.at' _ _ _ h2 fun o e => hs₃.extBut _ _ D.TOi2.symm (hs₂.extBut _ _ D.i12.symm (hs₁.extBut _ _ D.i2z e))
    refine wpAny_bind (D₂.done A As _ _ _ hh (((r2.same T₁).same T₂).same T₃) h2₃ fun h₄ e hs₄ he => ?_)
    obtain ⟨oe, hoe, hce⟩ := he
    have hz₄ : IsZip h₄ z TI TO .ellipsis := hs₄ _ _ D.i2z.symm (hs₃.extBut _ _ D.TOz.symm (hs₂.extBut _ _ D.i1z.symm hz₁))
    have hez : e ≠ z := fun x => by subst x; rw [hz₄] at hoe; cases hoe; simp at hce
    exact wpAny_setField_rec hz₄ (by first | exact nn | exact lb rfl | simp) fun h₅ _ hs₅ => hE h₅ e _ (fun c o c1 c2 c3 c4 x => hs₅.extBut _ _ c1 (hs₄ _ _ c4 (hs₃.extBut _ _ c2 (hs₂.extBut _ _ c3 (hs₁.extBut _ _ c1 x)))))
      ⟨_, _, hs₅.extBut _ _ D.TOz (hs₄ _ _ D.TOi2 hTO₃)⟩ ⟨oe, hs₅.extBut _ _ hez hoe, hce⟩
end
end Mine

-- part L18
namespace Mine
open PySem PySem.W PySem.Calls PySem.SeqAt PyProof.Rows


noncomputable def Makes (prog : Program) (w : World) (v : Value) (o : Obj) (h : Heap) : Prop := ∀ (A : Around) (s : Shared) (Q E : Value → Shared → Prop), (∀ b x, h.get? b = some x → s.heap.get? b = some x) →
  Q (.ref s.heap.objs.size) { s with heap := s.heap.push o } → wpAny (model prog w) A (pyIter v) Q E s

noncomputable abbrev zz2 (h : Heap) (o₁ o₂ : Obj) : Heap := (h.push o₁).push o₂
noncomputable abbrev zz3 (h : Heap) (o₁ o₂ : Obj) : Heap := (zz2 h o₁ o₂).push { cls := .type "tuple", data := .seq #[.ref h.objs.size, .ref (h.push o₁).objs.size] }
noncomputable abbrev zz4 (h : Heap) (o₁ o₂ : Obj) : Heap := (zz3 h o₁ o₂).push { cls := .type "tuple", data := .seq #[.none, .none] }
noncomputable abbrev zz5 (h : Heap) (o₁ o₂ : Obj) : Heap := (zz4 h o₁ o₂).push { cls := .type "zip", data := .fields #[.none, .bool false, .bool false, .ref (zz2 h o₁ o₂).objs.size, .ref (zz3 h o₁ o₂).objs.size] }

section
variable {prog : Program} {w : World} {A : Around} {E : Value → Shared → Prop} {s : Shared} {h : Heap} {v₁ v₂ : Value} {o₁ o₂ : Obj}
theorem zip_new_in (M₁ : Makes prog w v₁ o₁ h) (M₂ : Makes prog w v₂ o₂ h) :
    MeetsIn prog w (Builtin.«zip.__new__» ⟨[.type "zip", v₁, v₂], []⟩) (fun _ R s => (∀ b x, h.get? b = some x → s.heap.get? b = some x) ∧ R (.ok (.ret (.ref (zz4 s.heap o₁ o₂).objs.size))) { s with heap := zz5 s.heap o₁ o₂ }) :=
  .of_wp fun A R s q => by
    obtain ⟨hp, g, d, tk, os⟩ := s; obtain ⟨hl, q⟩ := q
    have hsub := sub_zip
    have k₁ : ∀ b x, h.get? b = some x → (Shared.heap ⟨hp, g, d, tk, os⟩).get? b = some x := hl
    have k₂ : ∀ b x, h.get? b = some x → (Shared.heap ⟨hp.push o₁, g, d, tk, os⟩).get? b = some x := fun b x e => Heap.get?_push_of_some _ (hl b x e)
    have m₁ : ∀ {A : Around} {Q E : Value → Shared → Prop}, Q (.ref hp.objs.size) ⟨hp.push o₁, g, d, tk, os⟩ → wpAny (model prog w) A (pyIter v₁) Q E ⟨hp, g, d, tk, os⟩ := fun q => M₁ _ _ _ _ k₁ q
    have m₂ : ∀ {A : Around} {Q E : Value → Shared → Prop}, Q (.ref (hp.push o₁).objs.size) ⟨(hp.push o₁).push o₂, g, d, tk, os⟩ → wpAny (model prog w) A (pyIter v₂) Q E ⟨hp.push o₁, g, d, tk, os⟩ := fun q => M₂ _ _ _ _ k₂ q
    clear M₁ M₂
    wp_walk using m₁, m₂
    exact ⟨_, rfl, q⟩

theorem call_zip {Q : Value → Shared → Prop} (M₁ : Makes prog w v₁ o₁ s.heap) (M₂ : Makes prog w v₂ o₂ s.heap) (f₁ : o₁.isFreed = false) (f₂ : o₂.isFreed = false)
    (k : ∀ h', IsZip h' (s.heap.objs.size + 4) (s.heap.objs.size + 2) (s.heap.objs.size + 3) .none → IsPair h' (s.heap.objs.size + 2) (.ref s.heap.objs.size) (.ref (s.heap.objs.size + 1)) →
      IsPair h' (s.heap.objs.size + 3) .none .none → h'.get? s.heap.objs.size = some o₁ → h'.get? (s.heap.objs.size + 1) = some o₂ → h'.objs.size = s.heap.objs.size + 5 →
      (∀ c o, s.heap.get? c = some o → h'.get? c = some o) → Q (.ref (s.heap.objs.size + 4)) { s with heap := h' }) :
    wpAny (model prog w) A (call (.type "zip") [v₁, v₂]) Q E s := by
  refine callType_newIn PySem.F.called_zip (by decide) (PySem.F.typeCall_zip_2 _ _) (PySem.F.newCall_zip_2 _ _) (fun obj => PySem.F.args_object_init_3 obj _ _) PySem.F.entry_zip_new (zip_new_in M₁ M₂) ⟨fun _ _ e => e, ?_⟩
  have z1 : (s.heap.push o₁).objs.size = s.heap.objs.size + 1 := Heap.size_push ..
  have z2 : (zz2 s.heap o₁ o₂).objs.size = s.heap.objs.size + 2 := by rw [Heap.size_push, z1]
  have z3 : (zz3 s.heap o₁ o₂).objs.size = s.heap.objs.size + 3 := by rw [Heap.size_push, z2]
  have z4 : (zz4 s.heap o₁ o₂).objs.size = s.heap.objs.size + 4 := by rw [Heap.size_push, z3]
  have z5 : (zz5 s.heap o₁ o₂).objs.size = s.heap.objs.size + 5 := by rw [Heap.size_push, z4]
  have g5 : (zz5 s.heap o₁ o₂).get? (zz4 s.heap o₁ o₂).objs.size = some _ := Heap.get?_push_size _ rfl
  have g4 : (zz5 s.heap o₁ o₂).get? (zz3 s.heap o₁ o₂).objs.size = some _ := Heap.get?_push_of_some _ (Heap.get?_push_size _ rfl)
  have g3 : (zz5 s.heap o₁ o₂).get? (zz2 s.heap o₁ o₂).objs.size = some _ := Heap.get?_push_of_some _ (Heap.get?_push_of_some _ (Heap.get?_push_size _ rfl))
  have g2 : (zz5 s.heap o₁ o₂).get? (s.heap.push o₁).objs.size = some _ := Heap.get?_push_of_some _ (Heap.get?_push_of_some _ (Heap.get?_push_of_some _ (Heap.get?_push_size _ f₂)))
  have g1 : (zz5 s.heap o₁ o₂).get? s.heap.objs.size = some _ := Heap.get?_push_of_some _ (Heap.get?_push_of_some _ (Heap.get?_push_of_some _ (Heap.get?_push_of_some _ (Heap.get?_push_size _ f₁))))
  show _ ∧ _
  rw [z2, z3, z4] at g5
  rw [z1, z2] at g3
  rw [z3] at g4
  rw [z1] at g2
  rw [z4]
  exact ⟨⟨_, g5, rfl⟩, k _ g5 g3 g4 g1 g2 z5 fun c o x => Heap.get?_push_of_some _ (Heap.get?_push_of_some _ (Heap.get?_push_of_some _ (Heap.get?_push_of_some _ (Heap.get?_push_of_some _ x))))⟩

theorem pyNext_zip {Q : Option Value → Shared → Prop} {z TI TO : Addr} (hz : IsZip s.heap z TI TO .none)
    (h : ∀ A' : Around, A'.handled = A.handled → wpAny (model prog w) A' (Builtin.«zip.__next__» ⟨[.ref z], []⟩) (fun fin s' => ∃ v, fin = .done (.ret v) ∧ Q (some v) s') (fun e s' => (∃ o, s'.heap.get? (match e with | .ref a => a | _ => 0) = some o ∧ o.cls = .type "StopIteration") ∧ (∃ a, e = .ref a) ∧ Q Option.none s') s) :
    wpAny (model prog w) A (pyNext (.ref z)) Q E s := by
  have hT : s.TypeIs (.ref z) "zip" := ⟨_, hz, rfl⟩
  unfold pyNext
  refine wpAny_bind (wpAny_attempt (wpAny_callSpecial?_slot (name := Str.ofString "__next__") hT PySem.F.slot_zip_next
    (wpAny_call_entry PySem.F.slot_zip_next hT PySem.F.entry_zip_next (wpAny_mono (h A.in1 rfl) (fun fin s' q => ?_) fun e s' q => ?_) (PySem.F.args_zip_next_1 _))))
  · obtain ⟨v, rfl, q⟩ := q
    exact ⟨v, rfl, wpAny_pure q⟩
  · obtain ⟨⟨o, ho, hc⟩, ⟨a, rfl⟩, q⟩ := q
    exact wpAny_bind (wpAny_isInstance (T := "StopIteration") (b := true) ⟨o, ho, hc⟩ isSubtype_stop (wpAny_pure q))
end

section
variable {C : Cx} {n : Nat} {sc : Scope} {ρ : List (Str × AV)} {env : Env} {As As₁ : List Addr} {σ σ₁ : List AO} {s s₁ : Shared} {A : Around} {E : Value → Shared → Prop} {recs : List DefRec}


theorem Sim.zipped {W : List Addr} {k tk : Nat} {TO : Addr} {x y : Value} {h' : Heap} (S : Sim C As σ s.heap) (hk : As[k]? = some TO) (hp : σ[k]? = some .pair) (hpair : IsPair h' TO x y)
    (hB : ∀ a ∈ W, C.B.get? a = Option.none) (hA : ∀ a ∈ W, a ∉ As) (hT : ∀ a ∈ W, ∀ vs, ¬ s.heap.IsTuple a vs) (keep : ∀ c o, c ∉ W → c ≠ TO → s.heap.get? c = some o → h'.get? c = some o) :
    Sim C As σ h' ∧ Ext W As s As { s with heap := h', toks := tk } ∧ ∀ b vs, b ∉ As → TupAt s.heap b vs → TupAt h' b vs := by
  have hm : TO ∈ As := List.mem_of_getElem? hk
  have tup : ∀ b vs, b ∉ As → TupAt s.heap b vs → TupAt h' b vs := fun b vs hb t => by
    obtain ⟨n, e⟩ := id t
    exact ⟨n, keep b _ (fun q => hT b q vs t.isTuple) (fun q => hb (q ▸ hm)) e⟩
  refine ⟨⟨fun b o e => keep b o (fun q => by rw [hB b q] at e; cases e) (fun q => by rw [q, S.off TO hm] at e; cases e) (S.base b o e), S.len, S.nodup, S.off, S.hi, fun i b ob h1 h2 => ?_⟩,
    ⟨⟨_, _, rfl⟩, fun b o hb hw e => keep b o hw (fun q => hb (q ▸ hm)) e, [], by simp, by simp⟩, tup⟩
  by_cases hb : b = TO
  · subst hb
    have hi : i = k := by
      obtain ⟨l1, e1⟩ := List.getElem?_eq_some_iff.mp h1
      exact (List.getElem?_inj l1 S.nodup).mp (h1.trans hk.symm)
    subst hi
    rw [hp] at h2; cases h2
    exact ⟨x, y, hpair⟩
  · have := (S.obj i b ob h1 h2).by (X := []) (h' := h') (fun r => by simpa using r.same tup) (fun o q => keep b o (fun q => hA b q (List.mem_of_getElem? h1)) hb q)
    simpa using this

theorem zipWith_get {α β γ : Type} {f : α → β → γ} {l : List α} {m : List β} {i : Nat} {c : γ} (h : (List.zipWith f l m)[i]? = some c) : ∃ a b, l[i]? = some a ∧ m[i]? = some b ∧ c = f a b := by
  rw [List.getElem?_zipWith] at h
  cases ha : l[i]? <;> cases hb : m[i]? <;> simp [ha, hb] at h
  exact ⟨_, _, rfl, rfl, h.symm⟩

theorem RepL.split {h : Heap} : ∀ {l m : List AV} {vs ws : List Value}, RepL h As (l ++ m) (vs ++ ws) → vs.length = l.length → RepL h As l vs ∧ RepL h As m ws
  | [], _, vs, _, r, e => by
    have : vs = [] := by simpa using e
    subst this
    exact ⟨RepL.nil, r⟩
  | a :: l, _, [], _, r, e => by simp at e
  | a :: l, _, v :: vs, _, r, e => by
    simp only [List.cons_append] at r
    unfold RepL at r
    obtain ⟨v', rr, e', r1, r2⟩ := r
    simp at e'
    obtain ⟨rfl, rfl⟩ := e'
    obtain ⟨a1, a2⟩ := RepL.split r2 (by simpa using e)
    exact ⟨RepL.cons r1 a1, a2⟩

noncomputable def isTupT : Expr → Bool
  | .Tuple _ _ _ => true
  | _ => false

theorem zipIt {tgt : Expr} {z TI TO i1 i2 : Addr} {k : Nat} {srcs₁ srcs₂ : List AV} {vals₁ vals₂ : List Value} {items₁ items₂ : List AV} {It₁ It₂ : Nat → Heap → Prop} (R : Room n A) (ht : isTupT tgt = true)
    (D : ZApart z TI TO i1 i2) (D₁ : SrcD C i1 srcs₁ vals₁ items₁ It₁) (D₂ : SrcD C i2 srcs₂ vals₂ items₂ It₂) (hB : ∀ a ∈ [z, i1, i2], C.B.get? a = Option.none) (hlen : vals₁.length = srcs₁.length) :
    ItP C A tgt z [z, TI, i1, i2] [z, i1, i2] ([.ref k] ++ (srcs₁ ++ srcs₂)) ([.ref TO] ++ (vals₁ ++ vals₂)) (List.zipWith (fun a b => AV.tup [a, b]) items₁ items₂) (fun σ => σ[k]? = some .pair)
      (fun i h => IsZip h z TI TO .none ∧ IsPair h TI (.ref i1) (.ref i2) ∧ It₁ i h ∧ It₂ i h)
      (fun i v h => ∃ T, v = .ref T ∧ IsZip h z TI TO (rawInt T) ∧ IsPair h TI (.ref i1) (.ref i2) ∧ It₁ (i + 1) h ∧ It₂ (i + 1) h) := by
  have nT : ∀ (h : Heap) (i : Nat) (f0 : Value), IsZip h z TI TO f0 → It₁ i h → It₂ i h → ∀ a ∈ [z, i1, i2], ∀ vs, ¬ h.IsTuple a vs := fun h i f0 hz h1 h2 a ha vs t => by
    obtain ⟨o, e, c, _⟩ := t
    simp at ha
    rcases ha with rfl | rfl | rfl
    · rw [hz] at e; cases e; simp at c
    · obtain ⟨o', e', c'⟩ := D₁.live _ _ h1; rw [e] at e'; cases e'; exact c' c
    · obtain ⟨o', e', c'⟩ := D₂.live _ _ h2; rw [e] at e'; cases e'; exact c' c
  have lv : ∀ (h : Heap) (i : Nat) (f0 : Value), IsZip h z TI TO f0 → IsPair h TI (.ref i1) (.ref i2) → It₁ i h → It₂ i h → ∀ a ∈ [z, TI, i1, i2], ∃ o, h.get? a = some o := fun h i f0 hz hTI h1 h2 a ha => by
    simp at ha
    rcases ha with rfl | rfl | rfl | rfl
    · exact ⟨_, hz⟩
    · exact ⟨_, hTI⟩
    · obtain ⟨o, e, _⟩ := D₁.live _ _ h1; exact ⟨o, e⟩
    · obtain ⟨o, e, _⟩ := D₂.live _ _ h2; exact ⟨o, e⟩
  have wp : ∀ a ∈ [z, i1, i2], a ∈ [z, TI, i1, i2] := fun a ha => by simp at ha ⊢; rcases ha with h | h | h <;> simp [h]
  have src : ∀ (As : List Addr) (h : Heap), RepL h As ([AV.ref k] ++ (srcs₁ ++ srcs₂)) ([Value.ref TO] ++ (vals₁ ++ vals₂)) → As[k]? = some TO ∧ RepL h As srcs₁ vals₁ ∧ RepL h As srcs₂ vals₂ := fun As h r => by
    unfold RepL at r
    obtain ⟨v, rr, e, r1, r2⟩ := r
    simp at e
    obtain ⟨rfl, rfl⟩ := e
    unfold Rep at r1
    obtain ⟨a, e, hk⟩ := r1
    cases e
    refine ⟨hk, ?_⟩
    exact RepL.split (l := srcs₁) (vs := vals₁) r2 hlen
  refine ⟨wp, fun i h h' ⟨hz, hTI, h1, h2⟩ hk => ⟨hk z (by first | exact nn | exact lb rfl | simp) _ hz, hk TI (by first | exact nn | exact lb rfl | simp) _ hTI, D₁.at' _ _ _ h1 fun o e => hk i1 (by first | exact nn | exact lb rfl | simp) o e, D₂.at' _ _ _ h2 fun o e => hk i2 (by first | exact nn | exact lb rfl | simp) o e⟩,
    fun i h ⟨hz, hTI, h1, h2⟩ => lv h i _ hz hTI h1 h2, fun i v h ⟨T, _, hz, hTI, h1, h2⟩ => lv h _ _ hz hTI h1 h2, fun i h ⟨hz, hTI, h1, h2⟩ => nT h i _ hz h1 h2, fun i v h ⟨T, _, hz, hTI, h1, h2⟩ => nT h _ _ hz h1 h2, ?_, ?_, ?_, ?_⟩
  · intro i As σ s E av hav hG S hp rs ⟨hz, hTI, h1, h2⟩
    obtain ⟨hk, r1, r2⟩ := src As _ rs
    obtain ⟨p, q, hTO⟩ := S.obj k TO _ hk hG
    obtain ⟨a, b, ha, hb, rfl⟩ := zipWith_get hav
    refine pyNext_zip hz fun A' hA' => zip_item D D₁ D₂ hz hTI hTO (List.mem_of_getElem? hk) h1 h2 r1 r2 ha hb fun h' tk x y hz' hTO' h1' h2' hT' keep hne rx ry => ?_
    obtain ⟨S', X', tup⟩ := S.zipped (tk := tk) (W := [z, i1, i2]) hk hG hTO' hB (fun a ha => hp a (wp a ha)) (nT _ i _ hz h1 h2) fun c o hc hc' e => keep c o (fun q => hc (by simp [q])) hc' (fun q => hc (by simp [q])) (fun q => hc (by simp [q])) e
    refine ⟨_, rfl, X', S', ⟨_, rfl, hz', keep TI _ D.TIz D.TITO D.TIi1 D.TIi2 hTI, h1', h2'⟩, ?_⟩
    unfold Rep
    refine ⟨_, #[x, y], rfl, fun hm => ?_, ⟨_, hT'⟩, RepL.cons rx (RepL.cons ry RepL.nil)⟩
    obtain ⟨j, o, e1, e2, ob⟩ := S.at hm
    obtain ⟨oo, e3, _⟩ := ob.ex
    exact hne _ ⟨oo, e3⟩ rfl
  · intro i As σ s E v S hp ⟨T, hv, hz, hTI, h1, h2⟩
    subst hv
    cases tgt <;> try exact absurd ht Bool.false_ne_true
    refine wpAny_letOwnedTupleGo_zip hz fun h' hz' hs' => ?_
    have zA : z ∉ As := hp z (by first | exact nn | exact lb rfl | simp)
    obtain ⟨S', X', tup⟩ := S.touchE (tk := s.toks) zA (hB z (by first | exact nn | exact lb rfl | simp)) (nT _ _ _ hz h1 h2 z (by first | exact nn | exact lb rfl | simp)) hs'.extBut
    exact ⟨X'.sub (fun a ha => by simp at ha; simp [ha]) (fun a ha => lv _ _ _ hz hTI h1 h2 a (wp a ha)), S', hz', hs'.extBut _ _ D.TIz hTI, D₁.at' _ _ _ h1 fun o e => hs'.extBut _ _ D.i1z e, D₂.at' _ _ _ h2 fun o e => hs'.extBut _ _ D.i2z e⟩
  · intro As σ s E hG S hp rs ⟨hz, hTI, h1, h2⟩
    obtain ⟨hk, r1, r2⟩ := src As _ rs
    obtain ⟨p, q, hTO⟩ := S.obj k TO _ hk hG
    have hlz : (List.zipWith (fun a b => AV.tup [a, b]) items₁ items₂).length = min items₁.length items₂.length := by simp
    refine pyNext_zip hz fun A' hA' => zip_end (hA'.trans R.hd) D D₁ D₂ hz hTI hTO (List.mem_of_getElem? hk) h1 h2 r1 r2 (by rw [hlz]; (first | assumption | decide | exact le0 (by assumption) (by decide) | exact le1 (by assumption) (by decide) | exact le2 (by assumption) (by assumption) (by decide) | lia | omega)) fun h' e tk keep hTO' he => ?_
    obtain ⟨x, y, hTO'⟩ := hTO'
    obtain ⟨S', X', tup⟩ := S.zipped (tk := tk) (W := [z, i1, i2]) hk hG hTO' hB (fun a ha => hp a (wp a ha)) (nT _ _ _ hz h1 h2) fun c o hc hc' e => keep c o (fun q => hc (by simp [q])) hc' (fun q => hc (by simp [q])) (fun q => hc (by simp [q])) e
    exact ⟨he, ⟨_, rfl⟩, rfl, X', S'⟩
  · intro i s Q E ⟨hz, _⟩ k
    exact wpAny_pyIter_zip hz k
end
end Mine

-- part L19
namespace Mine
open PySem PySem.W PySem.Calls PySem.SeqAt PyProof.Rows

theorem addr_ne {n i j : Nat} (h : i ≠ j) : n + i ≠ n + j := by (first | assumption | decide | exact le0 (by assumption) (by decide) | exact le1 (by assumption) (by decide) | exact le2 (by assumption) (by assumption) (by decide) | lia | omega)


noncomputable def Zs (a : AV) (m : List AV) : Prop := a = .tup m ∨ ∃ x : Str, a = .str x ∧ x.cps.all (· < 128) = true ∧ m = signs x

theorem two' {h : Heap} {As : List Addr} {a b : AV} {vs : List Value} (r : RepL h As [a, b] vs) : ∃ u v, vs = [u, v] ∧ Rep h As a u ∧ Rep h As b v := by
  unfold RepL at r
  obtain ⟨u, r1, rfl, ha, r⟩ := r
  unfold RepL at r
  obtain ⟨v, r2, rfl, hb, r⟩ := r
  unfold RepL at r
  subst r
  exact ⟨u, v, rfl, ha, hb⟩

section
variable {C : Cx} {n : Nat} {sc : Scope} {ρ : List (Str × AV)} {env : Env} {As As₁ : List Addr} {σ σ₁ : List AO} {s s₁ : Shared} {A : Around} {E : Value → Shared → Prop} {recs : List DefRec}

theorem src_of {a : AV} {m : List AV} {v : Value} {h : Heap} (z : Zs a m) (r : Rep h As a v) :
    ∃ o, Makes C.prog C.w v o h ∧ o.isFreed = false ∧ ∀ it, ∃ srcs vals It, SrcD C it srcs vals m It ∧ vals.length = srcs.length ∧ RepL h As srcs vals ∧ ∀ h', h'.get? it = some o → It 0 h' := by
  rcases z with rfl | ⟨x, rfl, hx, rfl⟩
  · have r0 := r
    unfold Rep at r
    obtain ⟨t, vs, rfl, _, ⟨k, e⟩, _⟩ := r
    refine ⟨{ cls := .type "tuple_iterator", data := .fields #[.ref t, .int 0 0] }, fun A s Q E keep q => wpAny_pyIter_tuple (TupAt.isTuple ⟨k, keep _ _ e⟩) q, rfl, fun it => ⟨_, _, _, SrcD.tup (t := t), rfl, RepL.cons r0 RepL.nil, fun h' e' => ⟨_, e', rfl, rfl⟩⟩⟩
  · unfold Rep at r
    obtain ⟨t, rfl⟩ := r
    exact ⟨{ cls := .type "str_ascii_iterator", data := .fields #[.str x t, .int 0 0] }, fun A s Q E keep q => wpAny_pyIter_ascii hx q, rfl, fun it => ⟨_, _, _, SrcD.str (x := x) (t := t), rfl, RepL.nil, fun h' e' => ⟨_, e', rfl, rfl⟩⟩⟩

theorem evi_zip {tgt e₁ e₂ : Expr} {f : Str} {p pos : Pos} {Q : List AV → (List AO → Prop) → List AO → Prop} (hC : C.Ok recs) (hx : sc.names.lookup f = some .globalImplicit) (hf : f = "zip") (hs : ([e₁, e₂]).all (fun e => !isStarred e) = true) (ht : isTupT tgt = true)
    (h : EvL C n sc ρ [e₁, e₂] σ fun l σ' => ∃ a b m₁ m₂, l = [a, b] ∧ Zs a m₁ ∧ Zs b m₂ ∧ Q (List.zipWith (fun a b => AV.tup [a, b]) m₁ m₂) (fun σ => σ[σ'.length]? = some .pair) (σ' ++ [.pair])) :
    EvI C n sc ρ tgt (.Call (.Name f p) [e₁, e₂] [] pos) σ Q := ⟨fun A R env As s E F S => by
  subst hf
  refine call_use hC hx (.inr ⟨hC.free _ (by decide +kernel), (hC.builtins _ (by decide +kernel)).trans (show bootBuiltins "zip" = some (.type "zip") by decide +kernel)⟩) (.inr (.inl ⟨_, rfl⟩)) h hs (by decide +kernel) R F S fun vs s₁ avs σ₁ As₁ X₁ S₁ q r => ?_
  obtain ⟨a, b, m₁, m₂, rfl, z₁, z₂, q⟩ := q
  obtain ⟨u, v, rfl, ra, rb⟩ := two' r
  obtain ⟨o₁, M₁, f₁, D₁⟩ := src_of (C := C) z₁ ra
  obtain ⟨o₂, M₂, f₂, D₂⟩ := src_of (C := C) z₂ rb
  refine call_zip M₁ M₂ f₁ f₂ fun h' hz hTI hTO g₁ g₂ hsz keep => ?_
  obtain ⟨srcs₁, vals₁, It₁, D₁, hl₁, r₁, i₁⟩ := D₁ s₁.heap.objs.size
  obtain ⟨srcs₂, vals₂, It₂, D₂, hl₂, r₂, i₂⟩ := D₂ (s₁.heap.objs.size + 1)
  have none' : ∀ j, s₁.heap.get? (s₁.heap.objs.size + j) = Option.none := fun j => by
    cases e : s₁.heap.get? (s₁.heap.objs.size + j) with
    | none => rfl
    | some o => exact absurd (Heap.lt_size e) (Nat.not_lt_of_le (Nat.le_add_right _ _))
  have big := S₁.big
  obtain ⟨S₂, X₂⟩ := S₁.add (tk := s₁.toks) (a := s₁.heap.objs.size + 3) (o := .pair) keep (none' 3) (Nat.le_trans big (Nat.le_add_right _ _)) ⟨_, _, hTO⟩
  have lenA : As₁.length = σ₁.length := S₁.len
  have fr : ∀ j, j ≠ 3 → s₁.heap.objs.size + j ∉ As₁ ++ [s₁.heap.objs.size + 3] := fun j hj hm => by
    rcases List.mem_append.mp hm with hm | hm
    · obtain ⟨i, o, _, _, ob⟩ := S₁.at hm
      obtain ⟨oo, e, _⟩ := ob.ex
      rw [none' j] at e; cases e
    · exact addr_ne hj (List.mem_singleton.mp hm)
  have hB : ∀ j, C.B.get? (s₁.heap.objs.size + j) = Option.none := fun j => by
    cases e : C.B.get? (s₁.heap.objs.size + j) with
    | none => rfl
    | some o => have := S₁.base _ _ e; rw [none' j] at this; cases this
  have old : ∀ j, s.heap.get? (s₁.heap.objs.size + j) = Option.none := fun j => by
    cases e : s.heap.get? (s₁.heap.objs.size + j) with
    | none => rfl
    | some o =>
      have hA : s₁.heap.objs.size + j ∉ As := fun hm => by
        obtain ⟨Y, e', _⟩ := X₁.more
        have hm' : s₁.heap.objs.size + j ∈ As₁ := e' ▸ List.mem_append_left _ hm
        obtain ⟨i, o, _, _, ob⟩ := S₁.at hm'
        obtain ⟨oo, e, _⟩ := ob.ex
        rw [none' j] at e; cases e
      have := X₁.keep _ o hA (by first | exact nn | exact lb rfl | simp) e
      rw [none' j] at this; cases this
  have hk : (As₁ ++ [s₁.heap.objs.size + 3])[σ₁.length]? = some (s₁.heap.objs.size + 3) := by rw [← lenA]; simp
  have DA : ZApart (s₁.heap.objs.size + 4) (s₁.heap.objs.size + 2) (s₁.heap.objs.size + 3) s₁.heap.objs.size (s₁.heap.objs.size + 1) := by
    exact ⟨addr_ne (by decide), addr_ne (by decide), addr_ne (i := 0) (by decide), addr_ne (by decide), addr_ne (by decide), addr_ne (j := 0) (by decide), addr_ne (by decide), addr_ne (j := 0) (by decide), addr_ne (by decide), addr_ne (i := 0) (by decide)⟩
  refine wpAny_pyIter_zip hz ?_
  have up : ∀ {l vs}, RepL s₁.heap As₁ l vs → RepL h' (As₁ ++ [s₁.heap.objs.size + 3]) l vs := fun r => r.ext S₁ X₂
  refine ⟨s₁.heap.objs.size + 4, _, _, _, _, _, _, _, _, _, _, rfl, zipIt (k := σ₁.length) R ht DA D₁ D₂ (fun a ha => ?_) hl₁, X₁.trans X₂, S₂, ?_, ⟨hz, hTI, i₁ _ g₁, i₂ _ g₂⟩, fun a ha => ?_, q⟩
  · simp at ha
    rcases ha with rfl | rfl | rfl
    · exact hB 4
    · exact hB 0
    · exact hB 1
  · refine RepL.append (RepL.cons ?_ RepL.nil) ((up r₁).append (up r₂))
    unfold Rep
    exact ⟨_, rfl, hk⟩
  · simp at ha
    rcases ha with rfl | rfl | rfl | rfl
    · exact ⟨fr 4 (by decide), old 4, _, hz⟩
    · exact ⟨fr 2 (by decide), old 2, _, hTI⟩
    · exact ⟨fr 0 (by decide), old 0, _, g₁⟩
    · exact ⟨fr 1 (by decide), old 1, _, g₂⟩⟩

theorem Draws.tup {prog : Program} {w : World} {A : Around} (hh : A.handled = Option.none) (it t : Addr) (hne : t ≠ it) (items : Array Value) :
    Draws prog w A it [it, t] items.size (fun i v => items[i]? = some v) (fun i h => h.IsTupleIter it t i ∧ h.IsTuple t items) where
  live := fun _ _ st => let ⟨o, ho, _⟩ := st.1; ⟨o, ho⟩
  frame := fun _ _ _ st hk => ⟨let ⟨o, ho, r⟩ := st.1; ⟨o, hk it (by first | exact nn | exact lb rfl | simp) o ho, r⟩, let ⟨o, ho, r⟩ := st.2; ⟨o, hk t (by first | exact nn | exact lb rfl | simp) o ho, r⟩⟩
  item := fun i s Q E hi st hQ => nextOf_tup st.1 st.2 (x := items[i]) (by simp [hi]) fun h' hit' hs' => hQ _ h' s.toks (by simp [hi]) ⟨hit', st.2.extBut hs'.extBut hne⟩ hs'
  done := fun s Q E st hE => nextOf_tup_end hh st.1 st.2 (by first | exact nn | exact lb rfl | simp) hE

theorem enumIt {tgt : Expr} {e it t : Addr} {items : List AV} (R : Room n A) (ht : isTupT tgt = true) (hne : e ≠ it) (hte : t ≠ e) (hti : t ≠ it) (hB : ∀ a ∈ [e, it], C.B.get? a = Option.none) :
    ItP C A tgt e [e, it] [e, it] [.tup items] [.ref t] (items.zipIdx.map fun p => AV.tup [.int p.2, p.1]) (fun _ => True)
      (fun i h => (∃ old, IsEnum h e it i old) ∧ h.IsTupleIter it t i)
      (fun i v h => ∃ T x, v = .ref T ∧ IsEnumOut h e it ((i : Int) + 1) x T ∧ h.IsTupleIter it t (i + 1)) := by
  have nT : ∀ (h : Heap) (i : Nat) (vs : Array Value), h.get? e = some { cls := .type "enumerate", dict := Option.none, data := .fields vs, slots := #[] } → h.IsTupleIter it t i → ∀ a ∈ [e, it], ∀ vs, ¬ h.IsTuple a vs := fun h i f he hi a ha vs tt => by
    obtain ⟨o, q, c, _⟩ := tt
    simp at ha
    rcases ha with rfl | rfl
    · rw [he] at q; cases q; simp at c
    · obtain ⟨o', e', c', _⟩ := hi; rw [q] at e'; cases e'; rw [c'] at c; simp at c
  have lv : ∀ (h : Heap) (i : Nat) (vs : Array Value), h.get? e = some { cls := .type "enumerate", dict := Option.none, data := .fields vs, slots := #[] } → h.IsTupleIter it t i → ∀ a ∈ [e, it], ∃ o, h.get? a = some o := fun h i f he hi a ha => by
    simp at ha
    rcases ha with rfl | rfl
    · exact ⟨_, he⟩
    · obtain ⟨o', e', c', _⟩ := hi; exact ⟨_, e'⟩
  have tupF : ∀ (h h' : Heap) (i : Nat), h.IsTupleIter it t i → (∀ o, h.get? it = some o → h'.get? it = some o) → h'.IsTupleIter it t i := fun h h' i ⟨o, e, r⟩ k => ⟨o, k o e, r⟩
  refine ⟨fun a ha => ha, fun i h h' ⟨⟨old, he⟩, hi⟩ hk => ⟨⟨old, hk e (by first | exact nn | exact lb rfl | simp) _ he⟩, tupF _ _ _ hi fun o q => hk it (by first | exact nn | exact lb rfl | simp) o q⟩, fun i h ⟨⟨old, he⟩, hi⟩ => lv h i _ he hi, fun i v h ⟨T, x, _, he, hi⟩ => lv h _ _ he hi, fun i h ⟨⟨old, he⟩, hi⟩ => nT h i _ he hi, fun i v h ⟨T, x, _, he, hi⟩ => nT h _ _ he hi, ?_, ?_, ?_, ?_⟩
  · intro i As σ s E av hav hG S hp rs ⟨⟨old, he⟩, hi⟩
    obtain ⟨v, q, r⟩ := one rs
    cases q
    unfold Rep at r
    obtain ⟨t', vs, q, htA, T, r⟩ := r
    cases q
    rw [List.getElem?_map] at hav
    cases hx : items.zipIdx[i]? with
    | none => rw [hx] at hav; cases hav
    | some p =>
    rw [hx] at hav
    simp at hav
    rw [List.getElem?_zipIdx] at hx
    cases hx' : items[i]? with
    | none => rw [hx'] at hx; cases hx
    | some a =>
    rw [hx'] at hx
    simp at hx
    subst hx
    obtain ⟨x, hx, rx⟩ := r.get hx'
    have hz : vs.size = items.length := by rw [← Array.length_toList, r.length]
    refine wpAny_pyNext_enum_itemD (Draws.tup (A := A.in1) (show A.in1.handled = Option.none from R.hd) it t hti vs) he ⟨hi, T.isTuple⟩ (by rw [hz]; exact (List.getElem?_eq_some_iff.mp hx').1) hne (by simp [hne, Ne.symm hte]) fun x' h' tk hx'' ho hs' hT hsz keep => ?_
    have hxx : x' = x := by
      have h1 : vs[i]? = some x := by simpa using hx
      rw [h1] at hx''
      simpa using hx''.symm
    subst hxx
    have tup : ∀ b ws, b ∉ As → TupAt s.heap b ws → TupAt h' b ws := fun b ws hb tt => by
      obtain ⟨k, q⟩ := id tt
      exact ⟨k, keep b _ (fun z => nT _ _ _ he hi b (by simp [z]) ws tt.isTuple) (fun z => nT _ _ _ he hi b (by simp [z]) ws tt.isTuple) q⟩
    have S' : Sim C As σ h' := ⟨fun b o q => keep b o (fun z => by rw [z, hB e (by first | exact nn | exact lb rfl | simp)] at q; cases q) (fun z => by rw [z, hB it (by first | exact nn | exact lb rfl | simp)] at q; cases q) (S.base b o q), S.len, S.nodup, S.off, S.hi, fun j b ob h1 h2 => by
      have hbA := List.mem_of_getElem? h1
      have := (S.obj j b ob h1 h2).by (X := []) (h' := h') (fun r => by simpa using r.same tup) (fun o q => keep b o (fun z => hp e (by first | exact nn | exact lb rfl | simp) (z ▸ hbA)) (fun z => hp it (by first | exact nn | exact lb rfl | simp) (z ▸ hbA)) q)
      simpa using this⟩
    refine ⟨_, rfl, ⟨⟨_, _, rfl⟩, fun b o hb hw q => keep b o (fun z => hw (by simp [z])) (fun z => hw (by simp [z])) q, [], by simp, by simp⟩, S', ⟨_, _, rfl, ho, hs'.1⟩, ?_⟩
    subst hav
    unfold Rep
    refine ⟨_, #[.int i tk, x'], rfl, fun hm => ?_, ⟨_, hT⟩, RepL.cons ⟨_, rfl⟩ (RepL.cons (rx.same tup) RepL.nil)⟩
    exact (S.fresh).1 hm
  · intro i As σ s E v S hp ⟨T, x, hv, he, hi⟩
    subst hv
    cases tgt <;> try exact absurd ht Bool.false_ne_true
    refine wpAny_letOwnedTupleGo_enum he fun h' he' hs' => ?_
    obtain ⟨S', X', tup⟩ := S.touchE (tk := s.toks) (hp e (by first | exact nn | exact lb rfl | simp)) (hB e (by first | exact nn | exact lb rfl | simp)) (nT _ _ _ he hi e (by first | exact nn | exact lb rfl | simp)) hs'.extBut
    exact ⟨X'.sub (fun a ha => by simp at ha; simp [ha]) (lv _ _ _ he hi), S', ⟨x, by simpa using he'⟩, tupF _ _ _ hi fun o q => hs'.extBut _ o (Ne.symm hne) q⟩
  · intro As σ s E hG S hp rs ⟨⟨old, he⟩, hi⟩
    obtain ⟨v, q, r⟩ := one rs
    cases q
    unfold Rep at r
    obtain ⟨t', vs, q, htA, T, r⟩ := r
    cases q
    have hz : vs.size = items.length := by rw [← Array.length_toList, r.length]
    refine wpAny_pyNext_enum_endD (Draws.tup (A := A.in1) (show A.in1.handled = Option.none from R.hd) it t hti vs) he (by rw [hz]; exact ⟨by simpa using hi, T.isTuple⟩) fun h' hs => ?_
    obtain ⟨S', X', tup⟩ := S.touchE (tk := s.toks) (hp it (by first | exact nn | exact lb rfl | simp)) (hB it (by first | exact nn | exact lb rfl | simp)) (nT _ _ _ he hi it (by first | exact nn | exact lb rfl | simp)) hs
    exact ⟨rfl, X'.sub (fun a ha => by simp at ha; simp [ha]) (lv _ _ _ he hi), S'⟩
  · intro i s Q E ⟨⟨old, he⟩, _⟩ k
    exact wpAny_pyIter_enum he k

theorem enum_new_in {prog : Program} {w : World} {v : Value} {o : Obj} {h : Heap} (M : Makes prog w v o h) :
    MeetsIn prog w (Builtin.«enumerate.__new__» ⟨[.type "enumerate", v], []⟩) (fun _ R s => (∀ b x, h.get? b = some x → s.heap.get? b = some x) ∧
      R (.ok (.ret (.ref (s.heap.push o).objs.size))) { s with heap := (s.heap.push o).push { cls := .type "enumerate", data := .fields #[.none, .bool false, .ref s.heap.objs.size, rawInt 0, .none, .none] } }) :=
  .of_wp fun A R s q => by
    obtain ⟨hp, g, d, tk, os⟩ := s; obtain ⟨hl, q⟩ := q
    have hsub := sub_enumerate
    have m : ∀ {A : Around} {Q E : Value → Shared → Prop}, Q (.ref hp.objs.size) ⟨hp.push o, g, d, tk, os⟩ → wpAny (model prog w) A (pyIter v) Q E ⟨hp, g, d, tk, os⟩ := fun q => M _ ⟨hp, g, d, tk, os⟩ _ _ hl q
    clear M
    wp_walk using m
    refine wpAny_stack_any fun st => wpAny_pure ?_
    split
    · rename_i c _ _ _ _ _
      cases (c == Value.type "enumerate")
      · wp_walk using m
        exact ⟨_, rfl, q⟩
      · wp_walk using m
        exact ⟨_, rfl, q⟩
    · wp_walk using m
      exact ⟨_, rfl, q⟩
end
end Mine

-- part L20
namespace Mine
open PySem PySem.W PySem.Calls PySem.SeqAt PyProof.Rows


noncomputable def runN {α : Type} (n : Nat) (lt : Nat → Nat → Bool) : KasT α → Option α
  | .ret a => some a
  | .ask i j k => if i < n ∧ j < n ∧ i ≠ j then runN n lt (k (lt i j)) else Option.none

theorem runN_wp {α : Type} {n : Nat} {lt : Nat → Nat → Bool} {cmp : Nat → Nat → (Bool → Shared → Prop) → Shared → Prop} {s : Shared} {G : α → Shared → Prop} (hc : ∀ i j C, i < n → j < n → i ≠ j → C (lt i j) s → cmp i j C s) :
    ∀ (t : KasT α) (a : α), runN n lt t = some a → G a s → t.kasWp cmp G s
  | .ret b, a, e, g => by
    simp only [runN] at e
    cases e; exact g
  | .ask i j k, a, e, g => by
    unfold runN at e
    by_cases hi : i < n ∧ j < n ∧ i ≠ j
    · rw [if_pos hi] at e
      exact hc i j _ hi.1 hi.2.1 hi.2.2 (runN_wp hc (k (lt i j)) a e g)
    · rw [if_neg hi] at e; cases e

theorem runN_congr {α : Type} {n : Nat} {lt lt' : Nat → Nat → Bool} (h : ∀ i j, i < n → j < n → lt i j = lt' i j) : ∀ (t : KasT α), runN n lt t = runN n lt' t
  | .ret b => rfl
  | .ask i j k => by
    unfold runN
    by_cases hi : i < n ∧ j < n ∧ i ≠ j
    · rw [if_pos hi, if_pos hi, h i j hi.1 hi.2.1]
      exact runN_congr h (k (lt' i j))
    · rw [if_neg hi, if_neg hi]

noncomputable def asc : List Nat → Bool
  | [] => true
  | a :: r => r.all (fun b => Nat.ble a b) && asc r
noncomputable def ranks (r : List Nat) : List Nat := r.map fun x => (r.filter fun y => Nat.blt y x).length
noncomputable def okAt (r : List Nat) : Bool := match runN r.length (fun i j => Nat.blt (r.getD i 0) (r.getD j 0)) (kas_sort r.length) with
  | some p => p.toList.isPerm (List.range r.length) && asc (p.toList.map fun i => r.getD i 0)
  | Option.none => false
noncomputable def vecs (m : Nat) : Nat → List (List Nat)
  | 0 => [[]]
  | n + 1 => (vecs m n).flatMap fun l => (List.range m).map fun x => x :: l
theorem ok2 : ((vecs 2 2).all fun r => !(ranks r == r) || okAt r) = true := by decide +kernel
theorem ok3 : ((vecs 3 3).all fun r => !(ranks r == r) || okAt r) = true := by decide +kernel
theorem ok4 : ((vecs 4 4).all fun r => !(ranks r == r) || okAt r) = true := by decide +kernel
theorem ok5 : ((vecs 5 5).all fun r => !(ranks r == r) || okAt r) = true := by decide +kernel

theorem mem_vecs {m : Nat} : ∀ {r : List Nat}, (∀ x ∈ r, x < m) → r ∈ vecs m r.length
  | [], _ => by simp [vecs]
  | x :: r, h => by
    simp only [List.length_cons, vecs, List.mem_flatMap, List.mem_map, List.mem_range]
    exact ⟨r, mem_vecs fun y hy => h y (.tail _ hy), x, h x (.head _), rfl⟩
theorem ok_all {r : List Nat} (h2 : 2 ≤ r.length) (h5 : r.length ≤ 5) (hr : ranks r = r) (hb : ∀ x ∈ r, x < r.length) : okAt r = true := by
  have hm := mem_vecs hb
  have go : ∀ n, r.length = n → ((vecs n n).all fun r => !(ranks r == r) || okAt r) = true → okAt r = true := fun n hn hk => by
    rw [hn] at hm
    have := List.all_eq_true.mp hk r hm
    simpa [hr] using this
  have : r.length = 2 ∨ r.length = 3 ∨ r.length = 4 ∨ r.length = 5 := by (first | assumption | decide | exact le0 (by assumption) (by decide) | exact le1 (by assumption) (by decide) | exact le2 (by assumption) (by assumption) (by decide) | lia | omega)
  rcases this with h | h | h | h
  · exact go 2 h ok2
  · exact go 3 h ok3
  · exact go 4 h ok4
  · exact go 5 h ok5
theorem asc_pw : ∀ {l : List Nat}, asc l = true → l.Pairwise (· ≤ ·)
  | [], _ => .nil
  | a :: r, h => by
    simp only [asc, Bool.and_eq_true, List.all_eq_true] at h
    exact .cons (fun b hb => Nat.le_of_ble_eq_true (h.1 b hb)) (asc_pw h.2)


structure SOrd {α : Type} (lt : α → α → Bool) : Prop where
  irr : ∀ x, lt x x = false
  trans : ∀ x y z, lt x y = true → lt y z = true → lt x z = true
  neg : ∀ x y z, lt x y = true → lt x z = false → lt z y = true

theorem filter_lt {α : Type} {p q : α → Bool} : ∀ {l : List α}, (∀ x ∈ l, p x = true → q x = true) → (∃ x ∈ l, p x = false ∧ q x = true) → (l.filter p).length < (l.filter q).length
  | [], _, h => by obtain ⟨x, hx, _⟩ := h; cases hx
  | a :: l, h1, ⟨x, hx, hp, hq⟩ => by
    have le : ∀ (l : List α), (∀ x ∈ l, p x = true → q x = true) → (l.filter p).length ≤ (l.filter q).length := fun l => by
      induction l with
      | nil => intro _; simp
      | cons b l ih =>
        intro h
        have ih := ih fun x hx => h x (.tail _ hx)
        by_cases hb : p b = true
        · simp [hb, h b (.head _) hb]; exact ih
        · by_cases hc : q b = true
          · simp [hb, hc]; (first | assumption | decide | exact le0 (by assumption) (by decide) | exact le1 (by assumption) (by decide) | exact le2 (by assumption) (by assumption) (by decide) | lia | omega)
          · simp [hb, hc]; exact ih
    rcases List.mem_cons.mp hx with rfl | hx
    · have := le l fun y hy => h1 y (.tail _ hy)
      simp [hp, hq]; (first | assumption | decide | exact le0 (by assumption) (by decide) | exact le1 (by assumption) (by decide) | exact le2 (by assumption) (by assumption) (by decide) | lia | omega)
    · have ih := filter_lt (l := l) (fun y hy => h1 y (.tail _ hy)) ⟨x, hx, hp, hq⟩
      by_cases hb : p a = true
      · simp [hb, h1 a (.head _) hb]; exact ih
      · by_cases hc : q a = true
        · simp [hb, hc]; (first | assumption | decide | exact le0 (by assumption) (by decide) | exact le1 (by assumption) (by decide) | exact le2 (by assumption) (by assumption) (by decide) | lia | omega)
        · simp [hb, hc]; exact ih

section
variable {α : Type} {lt : α → α → Bool}
noncomputable def rk (lt : α → α → Bool) (l : List α) (x : α) : Nat := (l.filter fun y => lt y x).length
theorem rk_lt (O : SOrd lt) {l : List α} {x y : α} (hx : x ∈ l) : Nat.blt (rk lt l x) (rk lt l y) = lt x y := by
  cases h : lt x y with
  | true =>
    have : rk lt l x < rk lt l y := filter_lt (fun z _ hz => O.trans z x y hz h) ⟨x, hx, O.irr x, h⟩
    simpa [Nat.blt_eq] using this
  | false =>
    have hle : rk lt l y ≤ rk lt l x := by
      unfold rk
      have : ∀ z, lt z y = true → lt z x = true := fun z hz => by
        cases hzx : lt z x with
        | true => rfl
        | false => rw [O.neg z y x hz hzx] at h; cases h
      clear h hx
      induction l with
      | nil => simp
      | cons b l ih =>
        by_cases hb : lt b y = true
        · simp [hb, this b hb]; exact ih
        · by_cases hc : lt b x = true
          · simp [hb, hc]; (first | assumption | decide | exact le0 (by assumption) (by decide) | exact le1 (by assumption) (by decide) | exact le2 (by assumption) (by assumption) (by decide) | lia | omega)
          · simp [hb, hc]; exact ih
    rw [Bool.eq_false_iff]
    intro hc
    rw [Nat.blt_eq] at hc
    (first | assumption | decide | exact le0 (by assumption) (by decide) | exact le1 (by assumption) (by decide) | exact le2 (by assumption) (by assumption) (by decide) | lia | omega)

theorem tree_sorts [Inhabited α] (O : SOrd lt) {l : List α} (h2 : 2 ≤ l.length) (h5 : l.length ≤ 5) :
    ∃ p : Array Nat, runN l.length (fun i j => lt (l.getD i default) (l.getD j default)) (kas_sort l.length) = some p ∧ p.toList.Perm (List.range l.length) ∧ (p.toList.map fun i => l.getD i default).Pairwise (fun a b => lt b a = false) := by
  let r := l.map (rk lt l)
  have hrl : r.length = l.length := by simp [r]
  have hr : ranks r = r := by
    show (l.map (rk lt l)).map _ = l.map (rk lt l)
    rw [List.map_map]
    apply List.map_congr_left
    intro x hx
    show ((l.map (rk lt l)).filter fun y => Nat.blt y (rk lt l x)).length = rk lt l x
    rw [List.filter_map, List.length_map]
    unfold rk
    congr 1
    apply List.filter_congr
    intro y hy
    exact rk_lt O hy
  have hb : ∀ x ∈ r, x < r.length := fun x hx => by
    obtain ⟨y, hy, rfl⟩ := List.mem_map.mp hx
    rw [hrl]
    have h := filter_lt (l := l) (p := fun z => lt z y) (q := fun _ => true) (fun _ _ _ => rfl) ⟨y, hy, O.irr y, rfl⟩
    rw [List.filter_eq_self.mpr (fun _ _ => rfl)] at h
    exact h
  have ok := ok_all (by (first | assumption | decide | exact le0 (by assumption) (by decide) | exact le1 (by assumption) (by decide) | exact le2 (by assumption) (by assumption) (by decide) | lia | omega)) (by (first | assumption | decide | exact le0 (by assumption) (by decide) | exact le1 (by assumption) (by decide) | exact le2 (by assumption) (by assumption) (by decide) | lia | omega)) hr hb
  unfold okAt at ok
  rw [hrl] at ok
  have gr : ∀ i, i < l.length → r.getD i 0 = rk lt l (l.getD i default) := fun i hi => by simp [r, hi]
  have cong := runN_congr (n := l.length) (lt := fun i j => Nat.blt (r.getD i 0) (r.getD j 0)) (lt' := fun i j => lt (l.getD i default) (l.getD j default)) (fun i j hi hj => by
    rw [gr i hi, gr j hj]
    exact rk_lt O (by simp [hi])) (kas_sort l.length)
  rw [cong] at ok
  cases hp : runN l.length (fun i j => lt (l.getD i default) (l.getD j default)) (kas_sort l.length) with
  | none => rw [hp] at ok; cases ok
  | some p =>
    rw [hp] at ok
    simp only [Bool.and_eq_true] at ok
    have perm := List.isPerm_iff.mp ok.1
    refine ⟨p, rfl, perm, ?_⟩
    have pw := asc_pw ok.2
    rw [List.pairwise_map] at pw ⊢
    refine pw.imp_of_mem fun {a b} ha hb hab => ?_
    have ha' : a < l.length := List.mem_range.mp (perm.mem_iff.mp ha)
    have hb' : b < l.length := List.mem_range.mp (perm.mem_iff.mp hb)
    rw [gr a ha', gr b hb'] at hab
    have := rk_lt O (l := l) (x := l.getD b default) (y := l.getD a default) (by simp [hb'])
    rw [← this, Bool.eq_false_iff]
    intro hc
    rw [Nat.blt_eq] at hc
    (first | assumption | decide | exact le0 (by assumption) (by decide) | exact le1 (by assumption) (by decide) | exact le2 (by assumption) (by assumption) (by decide) | lia | omega)
end
end Mine

-- part L21
namespace Mine
open PySem PySem.W PySem.Calls PySem.SeqAt PyProof.Rows

section
variable {prog : Program} {w : World} {A : Around} {E : Value → Shared → Prop} {s : Shared}

theorem list_sort_any {a : Addr} {vs : List Value} {n : Nat} {P : PySem.Fin → Shared → Prop} {κ : SortKind} {lt : Nat → Nat → Bool} {p : Array Nat} (ho : s.heap.get? a = some (seqObj "list" vs.toArray n))
    (h2 : 2 ≤ vs.length) (h5 : vs.length ≤ 5)
    (hkind : ∀ (h' : Heap) (Q : SortKind → Shared → Prop), (∀ b o, b ≠ a → s.heap.get? b = some o → h'.get? b = some o) → Q κ { s with heap := h' } → wpAny (model prog w) A (keyKind' vs.toArray) Q E { s with heap := h' })
    (hlt : ∀ (h' : Heap) (i j : Nat) (Q : Bool → Shared → Prop), (∀ b o, b ≠ a → s.heap.get? b = some o → h'.get? b = some o) → i < vs.length → j < vs.length → i ≠ j → Q (lt i j) { s with heap := h' } →
      wpAny (model prog w) A (keyLt' κ (vs.getD i Value.none) (vs.getD j Value.none)) Q (fun _ _ => False) { s with heap := h' })
    (hp : runN vs.length lt (kas_sort vs.length) = some p) (k : P (.done (.ret .none)) { s with heap := sortedHeap s.heap a vs (p.toList.map fun i => vs.getD i Value.none).toArray }) :
    wpAny (model prog w) A (Builtin.«list.sort» ⟨[.ref a], []⟩) P E s := by
  have ha : a < s.heap.objs.size := Heap.lt_size ho
  rw [list_sort_plain]
  refine wpAny_bind (listItems_at ho rfl ?_)
  refine wpAny_bind (listUpdate_at ho rfl ?_ (by rw [List.size_toArray, sizeLine_eq]; (first | assumption | decide | exact le0 (by assumption) (by decide) | exact le1 (by assumption) (by decide) | exact le2 (by assumption) (by assumption) (by decide) | lia | omega)) (Nat.zero_le _))
  obtain ⟨e1, ho1⟩ : ∃ e1, (s.heap.update a (Obj.mapSeq fun _ => (#[] : Array Value))).get? a = some (seqObj "list" #[] e1) := ⟨_, get?_update_seq ho fun _ => #[]⟩
  refine wpAny_bind (seqEpoch_at ho1 rfl ?_)
  refine wpAny_bind (wpAny_newTuple ?_ (by show vs.length ≤ _; rw [sizeLine_eq]; (first | assumption | decide | exact le0 (by assumption) (by decide) | exact le1 (by assumption) (by decide) | exact le2 (by assumption) (by assumption) (by decide) | lia | omega)))
  refine wpAny_bind (wpAny_newList ?_ (Nat.zero_le _))
  refine wpAny_holding ?_
  have s1 := Heap.SameBut.update s.heap a (Obj.mapSeq fun _ => (#[] : Array Value))
  generalize hH : ((s.heap.update a (Obj.mapSeq fun _ => (#[] : Array Value))).push (seqObj "tuple" vs.toArray 0)).push (seqObj "list" #[] 0) = H
  have keep : ∀ b o, b ≠ a → s.heap.get? b = some o → H.get? b = some o := fun b o hb e => by
    rw [← hH]; exact Heap.get?_push_of_some _ (Heap.get?_push_of_some _ (s1.extBut b o hb e))
  have ho6 : H.get? a = some (seqObj "list" #[] e1) := by rw [← hH]; exact Heap.get?_push_of_some _ (Heap.get?_push_of_some _ ho1)
  show wpAny (model prog w) A _ P E { s with heap := H }
  dsimp only
  have hn2 : ¬ vs.toArray.size < 2 := by rw [List.size_toArray]; (first | assumption | decide | exact le0 (by assumption) (by decide) | exact le1 (by assumption) (by decide) | exact le2 (by assumption) (by assumption) (by decide) | lia | omega)
  rw [if_neg hn2, if_neg hn2]
  refine wpAny_bind (hkind H _ keep ?_)
  refine wpAny_bind (wpAny_mono (kat_run (E := E) (κ := κ) (G := fun q s' => q = p ∧ s' = { s with heap := H }) (Q := fun st' s' => ∃ q : Array Nat, q.size = vs.length ∧ arrOf st' = q.map (kas_item (vs.toArray.zip vs.toArray)) ∧ failedOf st' = Option.none ∧ q = p ∧ s' = { s with heap := H })
    rfl h2 (by (first | assumption | decide | exact le0 (by assumption) (by decide) | exact le1 (by assumption) (by decide) | exact le2 (by assumption) (by assumption) (by decide) | lia | omega)) (fun p' st' s' a1 a2 a3 a4 => ⟨p', a1, a2, a3, a4⟩) (runN_wp (fun i j C hi hj hij hC => hlt H i j C keep hi hj hij hC) _ _ hp ⟨rfl, rfl⟩)) ?_ fun _ _ e => e)
  rintro ⟨⟨⟩, st'⟩ s' ⟨q, hq, har, hf, rfl, rfl⟩
  dsimp only
  have hout := kat_snds rfl har
  have hsz : (List.toArray (q.toList.map fun i => vs.getD i Value.none)).size = vs.length := by rw [List.size_toArray, List.length_map, Array.length_toList, hq]
  rw [hout]
  refine wpAny_bind (seqEpoch_at ho6 rfl ?_)
  refine wpAny_bind (listUpdate_at ho6 rfl ?_ (Nat.zero_le _) (Nat.le_trans (Nat.le_of_eq hsz) (by rw [sizeLine_eq]; (first | assumption | decide | exact le0 (by assumption) (by decide) | exact le1 (by assumption) (by decide) | exact le2 (by assumption) (by assumption) (by decide) | lia | omega))))
  rw [hf]
  simp only [bne_self_eq_false, Bool.false_eq_true, if_false]
  refine wpAny_pure ?_
  unfold sortedHeap at k
  rw [hH] at k
  exact k


theorem list_sort_few {a : Addr} {vs : List Value} {n : Nat} {P : PySem.Fin → Shared → Prop} (ho : s.heap.get? a = some (seqObj "list" vs.toArray n)) (h2 : vs.length < 2)
    (k : P (.done (.ret .none)) { s with heap := sortedHeap s.heap a vs vs.toArray }) : wpAny (model prog w) A (Builtin.«list.sort» ⟨[.ref a], []⟩) P E s := by
  have ha : a < s.heap.objs.size := Heap.lt_size ho
  rw [list_sort_plain]
  refine wpAny_bind (listItems_at ho rfl ?_)
  refine wpAny_bind (listUpdate_at ho rfl ?_ (by rw [List.size_toArray, sizeLine_eq]; (first | assumption | decide | exact le0 (by assumption) (by decide) | exact le1 (by assumption) (by decide) | exact le2 (by assumption) (by assumption) (by decide) | lia | omega)) (Nat.zero_le _))
  obtain ⟨e1, ho1⟩ : ∃ e1, (s.heap.update a (Obj.mapSeq fun _ => (#[] : Array Value))).get? a = some (seqObj "list" #[] e1) := ⟨_, get?_update_seq ho fun _ => #[]⟩
  refine wpAny_bind (seqEpoch_at ho1 rfl ?_)
  refine wpAny_bind (wpAny_newTuple ?_ (by show vs.length ≤ _; rw [sizeLine_eq]; (first | assumption | decide | exact le0 (by assumption) (by decide) | exact le1 (by assumption) (by decide) | exact le2 (by assumption) (by assumption) (by decide) | lia | omega)))
  refine wpAny_bind (wpAny_newList ?_ (Nat.zero_le _))
  refine wpAny_holding ?_
  generalize hH : ((s.heap.update a (Obj.mapSeq fun _ => (#[] : Array Value))).push (seqObj "tuple" vs.toArray 0)).push (seqObj "list" #[] 0) = H
  have ho6 : H.get? a = some (seqObj "list" #[] e1) := by rw [← hH]; exact Heap.get?_push_of_some _ (Heap.get?_push_of_some _ ho1)
  show wpAny (model prog w) A _ P E { s with heap := H }
  dsimp only
  have hn2 : vs.toArray.size < 2 := by rw [List.size_toArray]; (first | assumption | decide | exact le0 (by assumption) (by decide) | exact le1 (by assumption) (by decide) | exact le2 (by assumption) (by assumption) (by decide) | lia | omega)
  rw [if_pos hn2, if_pos hn2]
  refine wpAny_bind (wpAny_pure ?_)
  rw [StateT.run_pure]
  refine wpAny_bind (wpAny_pure ?_)
  dsimp only
  refine wpAny_bind (seqEpoch_at ho6 rfl ?_)
  have e : ((arrOf (SortSt.mk' general' (vs.toArray.zip vs.toArray) #[] 7 Option.none)).map (·.2)) = vs.toArray := by
    show (vs.toArray.zip vs.toArray).map (·.2) = vs.toArray
    apply Array.toList_inj.mp
    simp only [Array.toList_map, Array.toList_zip, List.toList_toArray]
    exact List.map_snd_zip (Nat.le_refl _)
  rw [e]
  refine wpAny_bind (listUpdate_at ho6 rfl ?_ (Nat.zero_le _) (by show vs.toArray.size ≤ _; rw [List.size_toArray, sizeLine_eq]; (first | assumption | decide | exact le0 (by assumption) (by decide) | exact le1 (by assumption) (by decide) | exact le2 (by assumption) (by assumption) (by decide) | lia | omega)))
  simp only [bne_self_eq_false, Bool.false_eq_true, if_false]
  refine wpAny_pure ?_
  unfold sortedHeap at k
  rw [hH] at k
  exact k
end
end Mine

-- part L22
namespace Mine
open PySem PySem.W PySem.Calls PySem.SeqAt PyProof.Rows


noncomputable def SortsTo (C : Cx) (h : Heap) (vs out : List Value) : Prop := ∀ (A : Around) (E : Value → Shared → Prop) (s : Shared) (D : Addr) (n : Nat) (P : PySem.Fin → Shared → Prop),
  (∀ b o, h.get? b = some o → s.heap.get? b = some o ∧ b ≠ D) → s.heap.get? D = some (seqObj "list" vs.toArray n) → P (.done (.ret .none)) { s with heap := sortedHeap s.heap D vs out.toArray } →
  wpAny (model C.prog C.w) A (Builtin.«list.sort» ⟨[.ref D], []⟩) P E s

section
variable {C : Cx} {As : List Addr} {h : Heap}

theorem sortsTo {α : Type} [Inhabited α] {enc : α → AV} {lt : α → α → Bool} {κ : SortKind} (O : SOrd lt) {xs : List α} {vs : List Value} (r : RepL h As (xs.map enc) vs) (h5 : xs.length ≤ 5)
    (hkind : 2 ≤ xs.length → ∀ (A : Around) (Q : SortKind → Shared → Prop) (E : Value → Shared → Prop) (s : Shared), (∀ b o, h.get? b = some o → s.heap.get? b = some o) → Q κ s → wpAny (model C.prog C.w) A (keyKind' vs.toArray) Q E s)
    (hlt : ∀ (i j : Nat) (x y : α) (u v : Value) (A : Around) (Q : Bool → Shared → Prop) (E : Value → Shared → Prop) (s : Shared), i ≠ j → xs[i]? = some x → xs[j]? = some y → Rep h As (enc x) u → Rep h As (enc y) v →
      (∀ b o, h.get? b = some o → s.heap.get? b = some o) → Q (lt x y) s → wpAny (model C.prog C.w) A (keyLt' κ u v) Q E s) :
    ∃ (out : List Value) (ys : List α), SortsTo C h vs out ∧ ys.Perm xs ∧ ys.Pairwise (fun a b => lt b a = false) ∧ RepL h As (ys.map enc) out := by
  have hl : vs.length = xs.length := by rw [r.length, List.length_map]
  by_cases h2 : 2 ≤ xs.length
  · obtain ⟨p, hp, perm, pw⟩ := tree_sorts O h2 h5
    have hy : ∀ i, i < xs.length → ∃ x v, xs[i]? = some x ∧ xs.getD i default = x ∧ vs[i]? = some v ∧ vs.getD i Value.none = v ∧ Rep h As (enc x) v := fun i hi => by
      have e : xs[i]? = some xs[i] := by simp [hi]
      obtain ⟨v, hv, rv⟩ := r.get (i := i) (a := enc xs[i]) (by simp [hi])
      exact ⟨xs[i], v, e, by simp [hi], hv, by simp [List.getD, hv], rv⟩
    refine ⟨p.toList.map fun i => vs.getD i Value.none, p.toList.map fun i => xs.getD i default, fun A E s D n P hk ho k => ?_, ?_, pw, ?_⟩
    · refine list_sort_any (κ := κ) (lt := fun i j => lt (xs.getD i default) (xs.getD j default)) (p := p) ho (by (first | assumption | decide | exact le0 (by assumption) (by decide) | exact le1 (by assumption) (by decide) | exact le2 (by assumption) (by assumption) (by decide) | lia | omega)) (by (first | assumption | decide | exact le0 (by assumption) (by decide) | exact le1 (by assumption) (by decide) | exact le2 (by assumption) (by assumption) (by decide) | lia | omega)) (fun h' Q keep q => ?_) (fun h' i j Q keep hi hj hij q => ?_) (by rw [hl]; exact hp) k
      · exact hkind h2 A Q E _ (fun b o e => keep b o (hk b o e).2 (hk b o e).1) q
      · obtain ⟨x, u, h1, h2', h3, h4, rx⟩ := hy i (by (first | assumption | decide | exact le0 (by assumption) (by decide) | exact le1 (by assumption) (by decide) | exact le2 (by assumption) (by assumption) (by decide) | lia | omega))
        obtain ⟨y, v, h1', h2'', h3', h4', ry⟩ := hy j (by (first | assumption | decide | exact le0 (by assumption) (by decide) | exact le1 (by assumption) (by decide) | exact le2 (by assumption) (by assumption) (by decide) | lia | omega))
        rw [h4, h4']
        rw [h2', h2''] at q
        exact hlt i j x y u v A Q _ _ hij h1 h1' rx ry (fun b o e => keep b o (hk b o e).2 (hk b o e).1) q
    · have := perm.map fun i => xs.getD i default
      refine this.trans (List.Perm.of_eq ?_)
      apply List.ext_getElem?
      intro i
      by_cases hi : i < xs.length
      · simp [hi]
      · simp [hi]
    · refine RepL.of_get (by first | exact nn | exact lb rfl | simp) fun i a v e1 e2 => ?_
      rw [List.map_map, List.getElem?_map] at e1
      rw [List.getElem?_map] at e2
      cases hq : p.toList[i]? with
      | none => rw [hq] at e1; cases e1
      | some k =>
        rw [hq] at e1 e2
        have hk : k < xs.length := List.mem_range.mp (perm.mem_iff.mp (List.mem_of_getElem? hq))
        obtain ⟨x, u, h1, h2', h3, h4, rx⟩ := hy k hk
        simp only [Option.map_some, Option.some.injEq, Function.comp] at e1 e2
        rw [h2'] at e1
        rw [h4] at e2
        subst e1; subst e2; exact rx
  · refine ⟨vs, xs, fun A E s D n P hk ho k => list_sort_few ho (by (first | assumption | decide | exact le0 (by assumption) (by decide) | exact le1 (by assumption) (by decide) | exact le2 (by assumption) (by assumption) (by decide) | lia | omega)) k, List.Perm.refl _, ?_, r⟩
    match xs, h2 with
    | [], _ => exact .nil
    | [x], _ => exact .cons (by first | exact nn | exact lb rfl | simp) .nil
    | _ :: _ :: _, h => exact absurd (by first | exact nn | exact lb rfl | simp) h

-- ints
theorem ordI : SOrd (fun (a b : Int) => decide (a < b)) := ⟨fun x => by simp, fun x y z => by simp; (first | assumption | decide | exact le0 (by assumption) (by decide) | exact le1 (by assumption) (by decide) | exact le2 (by assumption) (by assumption) (by decide) | lia | omega), fun x y z => by simp; (first | assumption | decide | exact le0 (by assumption) (by decide) | exact le1 (by assumption) (by decide) | exact le2 (by assumption) (by assumption) (by decide) | lia | omega)⟩
theorem repl_ints : ∀ {xs : List Int} {vs : List Value}, RepL h As (xs.map AV.int) vs → IntsAre vs xs
  | [], vs, r => by simp only [List.map_nil] at r; unfold RepL at r; subst r; exact .nil
  | x :: xs, vs, r => by
    simp only [List.map_cons] at r
    unfold RepL at r
    obtain ⟨v, q, rfl, r1, r2⟩ := r
    unfold Rep at r1
    obtain ⟨t, rfl⟩ := r1
    exact .cons _ _ (repl_ints r2)
theorem sort_ints {xs : List Int} {vs : List Value} (r : RepL h As (xs.map AV.int) vs) (h5 : xs.length ≤ 5) :
    ∃ (out : List Value) (ys : List Int), SortsTo C h vs out ∧ ys.Perm xs ∧ ys.Pairwise (fun (a b : Int) => decide (b < a) = false) ∧ RepL h As (ys.map AV.int) out := by
  refine sortsTo (κ := oneType') ordI r h5 (fun h2 A Q E s _ q => ?_) fun i j x y u v A Q E s _ _ _ ru rv _ q => ?_
  · have hI := repl_ints r
    have hl := hI.length
    match vs, hI, (show 2 ≤ vs.length by (first | assumption | decide | exact le0 (by assumption) (by decide) | exact le1 (by assumption) (by decide) | exact le2 (by assumption) (by assumption) (by decide) | lia | omega)) with
    | v₁ :: v₂ :: vs, hI, _ =>
      rw [keyKind_ints hI]
      exact wpAny_pure q
  · unfold Rep at ru rv
    obtain ⟨t, rfl⟩ := ru
    obtain ⟨t', rfl⟩ := rv
    exact kat_lt_int q

-- tuples of ints
noncomputable def ltI : List Int → List Int → Bool
  | [], [] => false
  | [], _ :: _ => true
  | _ :: _, [] => false
  | a :: l, b :: m => if a = b then ltI l m else decide (a < b)
theorem ordL : SOrd ltI := by
  refine ⟨fun x => ?_, fun x => ?_, fun x => ?_⟩
  · induction x with
    | nil => rfl
    | cons a l ih => simp [ltI, ih]
  · induction x with
    | nil =>
      intro y z h1 h2
      cases y with
      | nil => simp [ltI] at h1
      | cons b m => cases z with
        | nil => simp [ltI] at h2
        | cons c k => rfl
    | cons a l ih =>
      intro y z h1 h2
      cases y with
      | nil => simp [ltI] at h1
      | cons b m => cases z with
        | nil => simp [ltI] at h2
        | cons c k =>
          simp only [ltI] at h1 h2 ⊢
          by_cases hab : a = b
          · subst hab
            by_cases hbc : a = c
            · subst hbc
              simp only [if_true] at h1 h2 ⊢
              exact ih m k h1 h2
            · simp only [if_true, hbc, if_false] at h1 h2 ⊢; exact h2
          · by_cases hbc : b = c
            · subst hbc
              simp only [hab, if_false] at h1 ⊢; exact h1
            · simp only [hab, hbc, if_false, decide_eq_true_eq] at h1 h2
              have : a ≠ c := by (first | assumption | decide | exact le0 (by assumption) (by decide) | exact le1 (by assumption) (by decide) | exact le2 (by assumption) (by assumption) (by decide) | lia | omega)
              simp only [this, if_false, decide_eq_true_eq]; (first | assumption | decide | exact le0 (by assumption) (by decide) | exact le1 (by assumption) (by decide) | exact le2 (by assumption) (by assumption) (by decide) | lia | omega)
  · induction x with
    | nil =>
      intro y z h1 h2
      cases y with
      | nil => simp [ltI] at h1
      | cons b m => cases z with
        | nil => rfl
        | cons c k => simp [ltI] at h2
    | cons a l ih =>
      intro y z h1 h2
      cases y with
      | nil => simp [ltI] at h1
      | cons b m => cases z with
        | nil => rfl
        | cons c k =>
          simp only [ltI] at h1 h2 ⊢
          by_cases hab : a = b
          · subst hab
            by_cases hac : a = c
            · subst hac
              simp only [if_true] at h1 h2 ⊢
              exact ih m k h1 h2
            · simp only [hac, if_false, decide_eq_false_iff_not] at h2
              have : c ≠ a := fun e => hac e.symm
              simp only [this, if_false, decide_eq_true_eq]; (first | assumption | decide | exact le0 (by assumption) (by decide) | exact le1 (by assumption) (by decide) | exact le2 (by assumption) (by assumption) (by decide) | lia | omega)
          · simp only [hab, if_false, decide_eq_true_eq] at h1
            by_cases hac : a = c
            · subst hac
              simp only [hab, if_false, decide_eq_true_eq]; exact h1
            · simp only [hac, if_false, decide_eq_false_iff_not] at h2
              have : c ≠ b := by (first | assumption | decide | exact le0 (by assumption) (by decide) | exact le1 (by assumption) (by decide) | exact le2 (by assumption) (by assumption) (by decide) | lia | omega)
              simp only [this, if_false, decide_eq_true_eq]; (first | assumption | decide | exact le0 (by assumption) (by decide) | exact le1 (by assumption) (by decide) | exact le2 (by assumption) (by assumption) (by decide) | lia | omega)

theorem ints_nil {vs : List Value} (h : IntsAre vs []) : vs = [] := by cases h; rfl
theorem ints_cons {vs : List Value} {a : Int} {l : List Int} (h : IntsAre vs (a :: l)) : ∃ t us, vs = .int a t :: us ∧ IntsAre us l := by cases h with | cons _ t h => exact ⟨t, _, rfl, h⟩
theorem katlex {A : Around} {Q : Bool → Shared → Prop} {s : Shared} {l m : List Int} {us vs : List Value} {i : Nat} (hu : IntsAre us l) (hv : IntsAre vs m) (q : Q (ltI l m) s) :
    KatLex C.prog C.w A true (decide (us.length < vs.length)) Q (us.zip vs) i s := by
  induction l generalizing m us vs i with
  | nil =>
    rw [ints_nil hu, List.zip_nil_left]
    refine kat_nil ?_
    cases m with
    | nil => rw [ints_nil hv]; exact q
    | cons b m =>
      obtain ⟨t', vs', rfl, hv'⟩ := ints_cons hv
      exact q
  | cons a l ih =>
    obtain ⟨t, us', rfl, hu'⟩ := ints_cons hu
    cases m with
    | nil =>
      rw [ints_nil hv, List.zip_nil_right]
      exact kat_nil (by simpa [ltI] using q)
    | cons b m =>
      obtain ⟨t', vs', rfl, hv'⟩ := ints_cons hv
      rw [List.zip_cons_cons]
      refine kat_cons (wpAny_eqBool_int ?_)
      by_cases hab : a = b
      · subst hab
        rw [beq_self_eq_true]
        simp only [ltI, if_true] at q
        have e : decide ((Value.int a t :: us').length < (Value.int a t' :: vs').length) = decide (us'.length < vs'.length) := by simp
        rw [e]
        exact kat_yes (ih hu' hv' q)
      · have hb : (a == b) = false := by simpa using hab
        rw [hb]
        simp only [ltI, hab, if_false] at q
        refine kat_no ?_
        cases i with
        | zero => exact oneLt_int q
        | succ i => exact kat_one _ _ (PyProof.Rows.lt_int q)

theorem repl_tups : ∀ {xs : List (List Int)} {vs : List Value}, RepL h As (xs.map fun l => AV.tup (l.map .int)) vs → (∀ l ∈ xs, l ≠ []) → ∃ fs : List Value, fs.length = xs.length ∧ KatTups h vs fs ∧ ∀ v ∈ fs, ∃ i t, v = .int i t
  | [], vs, r, _ => by simp only [List.map_nil] at r; unfold RepL at r; subst r; exact ⟨[], rfl, KatTups.nil, by simp⟩
  | x :: xs, vs, r, hne => by
    simp only [List.map_cons] at r
    unfold RepL at r
    obtain ⟨v, q, rfl, r1, r2⟩ := r
    obtain ⟨fs, h1, h2, h3⟩ := repl_tups r2 fun l hl => hne l (.tail _ hl)
    unfold Rep at r1
    obtain ⟨a, us, rfl, _, ⟨k, e⟩, r1⟩ := r1
    cases x with
    | nil => exact absurd rfl (hne [] (.head _))
    | cons i l =>
      simp only [List.map_cons] at r1
      unfold RepL at r1
      obtain ⟨u, q', e', r3, _⟩ := r1
      unfold Rep at r3
      obtain ⟨t, rfl⟩ := r3
      refine ⟨.int i t :: fs, by simp [h1], KatTups.cons e rfl rfl (f := .int i t) ?_ h2, fun v hv => ?_⟩
      · rw [← Array.getElem?_toList, e']; rfl
      · rcases List.mem_cons.mp hv with rfl | hv
        · exact ⟨_, _, rfl⟩
        · exact h3 v hv

theorem sort_tups {xs : List (List Int)} {vs : List Value} (r : RepL h As (xs.map fun l => AV.tup (l.map .int)) vs) (hne : ∀ l ∈ xs, l ≠ []) (h5 : xs.length ≤ 5) :
    ∃ (out : List Value) (ys : List (List Int)), SortsTo C h vs out ∧ ys.Perm xs ∧ ys.Pairwise (fun a b => ltI b a = false) ∧ RepL h As (ys.map fun l => AV.tup (l.map .int)) out := by
  refine sortsTo (enc := fun l => AV.tup (l.map .int)) (κ := tuples' true) ordL r h5 (fun h2 A Q E s keep q => ?_) fun i j x y u v A Q E s _ _ _ ru rv keep q => ?_
  · obtain ⟨fs, h1, kt, h3⟩ := repl_tups r hne
    have kt' : ∀ {vs fs : List Value}, KatTups h vs fs → KatTups s.heap vs fs := by
      intro vs fs kt
      induction vs generalizing fs with
      | nil => cases fs with
        | nil => trivial
        | cons _ _ => exact kt
      | cons v vs ih => cases fs with
        | nil => exact kt
        | cons f fs =>
          obtain ⟨⟨a, o, xs, n, e1, e2, e3, e4, e5⟩, kt⟩ := kt
          exact ⟨⟨a, o, xs, n, e1, keep _ _ e2, e3, e4, e5⟩, ih kt⟩
    refine kat_kind (T := .type "int") (kt' kt) (by (first | assumption | decide | exact le0 (by assumption) (by decide) | exact le1 (by assumption) (by decide) | exact le2 (by assumption) (by assumption) (by decide) | lia | omega)) (fun v hv => ?_) (by decide) q
    obtain ⟨i, t, rfl⟩ := h3 v hv
    exact Looks.of_pure rfl
  · unfold Rep at ru rv
    obtain ⟨a, us, rfl, _, ⟨k, e⟩, r1⟩ := ru
    obtain ⟨b, ws, rfl, _, ⟨k', e'⟩, r2⟩ := rv
    refine kat_lt (keep _ _ e) rfl (keep _ _ e') rfl ?_
    have := katlex (C := C) (A := A) (i := 0) (repl_ints r1) (repl_ints r2) q
    simpa using this

-- what is told by its name first; the names differ
theorem ordN : SOrd (fun (a b : Str × List AV) => decide (a.1.cps.toList < b.1.cps.toList)) := by
  refine ⟨fun x => by simp [List.lt_irrefl], fun x y z => ?_, fun x y z => ?_⟩
  · simp only [decide_eq_true_eq]; exact List.lt_trans
  · simp only [decide_eq_true_eq, decide_eq_false_iff_not]
    intro h1 h2
    exact List.lt_of_le_of_lt (List.not_lt.mp h2) h1
noncomputable def encN (p : Str × List AV) : AV := .tup (.str p.1 :: p.2)
theorem repl_named : ∀ {xs : List (Str × List AV)} {vs : List Value}, RepL h As (xs.map encN) vs → ∃ fs : List Value, fs.length = xs.length ∧ KatTups h vs fs ∧ ∀ v ∈ fs, ∃ x t, v = .str x t
  | [], vs, r => by simp only [List.map_nil] at r; unfold RepL at r; subst r; exact ⟨[], rfl, KatTups.nil, by simp⟩
  | x :: xs, vs, r => by
    simp only [List.map_cons] at r
    unfold RepL at r
    obtain ⟨v, q, rfl, r1, r2⟩ := r
    obtain ⟨fs, h1, h2, h3⟩ := repl_named r2
    unfold encN Rep at r1
    obtain ⟨a, us, rfl, _, ⟨k, e⟩, r1⟩ := r1
    unfold RepL at r1
    obtain ⟨u, q', e', r3, _⟩ := r1
    unfold Rep at r3
    obtain ⟨t, rfl⟩ := r3
    refine ⟨.str x.1 t :: fs, by simp [h1], KatTups.cons e rfl rfl (f := .str x.1 t) ?_ h2, fun v hv => ?_⟩
    · rw [← Array.getElem?_toList, e']; rfl
    · rcases List.mem_cons.mp hv with rfl | hv
      · exact ⟨_, _, rfl⟩
      · exact h3 v hv

theorem sort_named {xs : List (Str × List AV)} {vs : List Value} (r : RepL h As (xs.map encN) vs) (hne : (xs.map (·.1)).Nodup) (h5 : xs.length ≤ 5) :
    ∃ (out : List Value) (ys : List (Str × List AV)), SortsTo C h vs out ∧ ys.Perm xs ∧ ys.Pairwise (fun a b => decide (b.1.cps.toList < a.1.cps.toList) = false) ∧ RepL h As (ys.map encN) out := by
  refine sortsTo (enc := encN) (κ := tuples' true) ordN r h5 (fun h2 A Q E s keep q => ?_) fun i j x y u v A Q E s hij hx hy ru rv keep q => ?_
  · obtain ⟨fs, h1, kt, h3⟩ := repl_named r
    have kt' : ∀ {vs fs : List Value}, KatTups h vs fs → KatTups s.heap vs fs := by
      intro vs fs kt
      induction vs generalizing fs with
      | nil => cases fs with
        | nil => trivial
        | cons _ _ => exact kt
      | cons v vs ih => cases fs with
        | nil => exact kt
        | cons f fs =>
          obtain ⟨⟨a, o, xs, n, e1, e2, e3, e4, e5⟩, kt⟩ := kt
          exact ⟨⟨a, o, xs, n, e1, keep _ _ e2, e3, e4, e5⟩, ih kt⟩
    refine kat_kind (T := .type "str") (kt' kt) (by (first | assumption | decide | exact le0 (by assumption) (by decide) | exact le1 (by assumption) (by decide) | exact le2 (by assumption) (by assumption) (by decide) | lia | omega)) (fun v hv => ?_) (by decide) q
    obtain ⟨i, t, rfl⟩ := h3 v hv
    exact Looks.of_pure rfl
  · have hne' : x.1 ≠ y.1 := fun e => by
      have h1 : (xs.map (·.1))[i]? = some x.1 := by simp [hx]
      have h2 : (xs.map (·.1))[j]? = some x.1 := by rw [e]; simp [hy]
      have hi : i < (xs.map (·.1)).length := (List.getElem?_eq_some_iff.mp h1).1
      exact hij ((List.getElem?_inj hi hne).mp (h1.trans h2.symm))
    unfold encN Rep at ru rv
    obtain ⟨a, us, rfl, _, ⟨k, e⟩, r1⟩ := ru
    obtain ⟨b, ws, rfl, _, ⟨k', e'⟩, r2⟩ := rv
    refine kat_lt (keep _ _ e) rfl (keep _ _ e') rfl ?_
    unfold RepL at r1 r2
    obtain ⟨u, us', eu, r3, _⟩ := r1
    obtain ⟨v, ws', ew, r4, _⟩ := r2
    unfold Rep at r3 r4
    obtain ⟨t, rfl⟩ := r3
    obtain ⟨t', rfl⟩ := r4
    rw [eu, ew, List.zip_cons_cons]
    refine kat_cons (wpAny_eqBool_str ?_)
    rw [decide_eq_false hne']
    exact kat_no (oneLt_str q)
end
end Mine

-- part L23
namespace Mine
open PySem PySem.W PySem.Calls PySem.SeqAt PyProof.Rows


noncomputable def putH (t : SetTable) (hs : Array Int) (h : Int) (slot : Nat) : Option (Array Int × SetTable) :=
  let t' := (t.put slot).1
  let hs' := SetTable.insertAt hs (t.put slot).2 h
  if t'.fits hs'.size then
    if t'.tooFull then
      match t'.relaid hs' (SetTable.grown hs'.size) with
      | some (t'', order) => if coversAll order hs'.size && t''.fits (order.filterMap (hs'[·]?)).size then some (order.filterMap (hs'[·]?), t'') else Option.none
      | Option.none => Option.none
    else some (hs', t')
  else Option.none
noncomputable def layH (t : SetTable) (hs : Array Int) (h : Int) : Option (Array Int × SetTable) :=
  match t.freeSlot h with
  | some (slot, false) => putH t hs h slot
  | _ => Option.none


noncomputable def hsI (l : List Nat) : Array Int := (l.map Int.ofNat).toArray
noncomputable def tabI (led : Bool) (l : List Nat) : SetTable :=
  if l.length < 5 then { mask := 7, place := l.toArray, dummies := #[], finger := 0, led, moves := 0, plain := true }
  else { mask := 31, place := l.toArray, dummies := #[], finger := 0, led, moves := 1, plain := true }
noncomputable def ins (v : Nat) : List Nat → List Nat
  | [] => [v]
  | a :: r => if Nat.blt v a then v :: a :: r else a :: ins v r
noncomputable def subs : List (List Nat) := (List.range 32).map fun m => [0, 1, 2, 3, 4].filter fun k => Nat.beq (m / 2 ^ k % 2) 1
noncomputable def beqH (a b : Option (Array Int × SetTable)) : Bool := decide (a = b)
theorem closI : ([true, false].all fun led => subs.all fun l => [0, 1, 2, 3, 4].all fun v => l.contains v || (beqH (layH (tabI led l) (hsI l) (Int.ofNat v)) (some (hsI (ins v l), tabI led (ins v l))) && subs.contains (ins v l))) = true := by decide +kernel
theorem walkI : ([true, false].all fun led => subs.all fun l => walkOk (tabI led l).place && (tabI led l).fits l.length && decide (l.length ≤ 5) && (l.all fun v => Nat.blt v 5) && asc l && decide l.Nodup) = true := by decide +kernel
end Mine

-- part L24
namespace Mine
open PySem PySem.W PySem.Calls PySem.SeqAt PyProof.Rows

theorem insertAt_map {α β : Type} (f : α → β) (xs : Array α) (p : Nat) (x : α) : (SetTable.insertAt xs p x).map f = SetTable.insertAt (xs.map f) p (f x) := by
  apply Array.toList_inj.mp
  rw [Array.toList_map, SetTable.toList_insertAt, SetTable.toList_insertAt, Array.toList_map]
  simp [List.map_take, List.map_drop]
theorem pick_map {α β : Type} (f : α → β) (xs : Array α) (order : Array Nat) : (order.filterMap (xs[·]?)).map f = order.filterMap ((xs.map f)[·]?) := by
  apply Array.toList_inj.mp
  rw [Array.toList_map, Array.toList_filterMap, Array.toList_filterMap, List.map_filterMap]
  congr 1
  funext i
  simp

theorem putH_spec {t : SetTable} {es : Array (Int × Value)} {h : Int} {x : Value} {slot : Nat} {hs : Array Int} {tF : SetTable} (e : putH t (es.map (·.1)) h slot = some (hs, tF)) :
    let t1 := (t.put slot).1
    let es1 := SetTable.insertAt es (t.put slot).2 (h, x)
    t1.fits es1.size = true ∧ ((t1.tooFull = false ∧ es1.map (·.1) = hs ∧ t1 = tF) ∨ (t1.tooFull = true ∧ ∃ es2 order, t1.relaid (es1.map (·.1)) (SetTable.grown es1.size) = some (tF, order) ∧ es2 = order.filterMap (es1[·]?) ∧ coversAll order es1.size = true ∧ tF.fits es2.size = true ∧ es2.map (·.1) = hs)) := by
  intro t1 es1
  have hm : es1.map (·.1) = SetTable.insertAt (es.map (·.1)) (t.put slot).2 h := insertAt_map _ _ _ _
  have hz : es1.size = (SetTable.insertAt (es.map (·.1)) (t.put slot).2 h).size := by rw [← hm, Array.size_map]
  unfold putH at e
  dsimp only at e
  rw [← hz] at e
  by_cases hf : t1.fits es1.size = true
  · rw [if_pos hf] at e
    refine ⟨hf, ?_⟩
    by_cases ht : t1.tooFull = true
    · rw [if_pos ht, ← hm] at e
      refine .inr ⟨ht, ?_⟩
      cases hr : t1.relaid (es1.map (·.1)) (SetTable.grown es1.size) with
      | none => rw [show (t.put slot).1 = t1 from rfl, hr] at e; cases e
      | some r =>
        obtain ⟨t'', order⟩ := r
        rw [show (t.put slot).1 = t1 from rfl, hr] at e
        dsimp only at e
        have hsz : (order.filterMap ((es1.map (·.1))[·]?)).size = (order.filterMap (es1[·]?)).size := by rw [← pick_map, Array.size_map]
        rw [hsz] at e
        by_cases hc : (coversAll order es1.size && t''.fits (order.filterMap (es1[·]?)).size) = true
        · rw [if_pos hc] at e
          simp only [Option.some.injEq, Prod.mk.injEq] at e
          obtain ⟨e1, rfl⟩ := e
          simp only [Bool.and_eq_true] at hc
          exact ⟨_, order, rfl, rfl, hc.1, hc.2, by rw [pick_map]; exact e1⟩
        · rw [if_neg hc] at e; cases e
    · rw [if_neg ht] at e
      simp only [Option.some.injEq, Prod.mk.injEq] at e
      obtain ⟨e1, e2⟩ := e
      exact .inl ⟨by simpa using ht, by rw [hm]; exact e1, e2⟩
  · rw [if_neg hf] at e; cases e

section
variable {prog : Program} {w : World} {A : Around} {E : Value → Shared → Prop} {s : Shared}

noncomputable abbrev setObj (es : Array (Int × Value)) (ep : Nat) (t : SetTable) : Obj := { cls := .type "set", dict := Option.none, data := .set es ep t, slots := #[] }

theorem store_at {a : Addr} {es es' : Array (Int × Value)} {ep : Nat} {t t' : SetTable} {Q : Unit → Shared → Prop} (ho : s.heap.get? a = some (setObj es ep t)) (hz : es'.size ≤ 1000)
    (h : ∀ h' ep', Heap.SameBut a s.heap h' → h'.get? a = some (setObj es' ep' t') → Q () { s with heap := h' }) : wpAny (model prog w) A (storeSet a es' t') Q E s := by
  refine wpAny_storeSet_of ho rfl (h _ (ep + 1) (Heap.SameBut.update ..) ?_) (by rw [sizeLine_eq]; (first | assumption | decide | exact le0 (by assumption) (by decide) | exact le1 (by assumption) (by decide) | exact le2 (by assumption) (by assumption) (by decide) | lia | omega))
  exact Heap.get?_update_self (Obj.putSet es' t') ho rfl

theorem add_tail {g : Bool → Sem Unit} (hg : ∀ (b : Bool) (s₁ : Shared) (Q' : Unit → Shared → Prop), Q' () s₁ → wpAny (model prog w) A (g b) Q' E s₁) {a : Addr} {es es1 : Array (Int × Value)} {ep : Nat} {t t1 : SetTable} {esF : Array (Int × Value)} {tF : SetTable}
    (ho : s.heap.get? a = some (setObj es ep t)) (hz : es1.size ≤ 1000) (hzF : esF.size ≤ 1000)
    (sp : (t1.tooFull = false ∧ es1 = esF ∧ t1 = tF) ∨ (t1.tooFull = true ∧ relayAll t1 es1 (SetTable.grown es1.size) = (esF, tF, false))) {R : Option Bool → Shared → Prop}
    (h : ∀ h' ep', Heap.SameBut a s.heap h' → h'.get? a = some (setObj esF ep' tF) → R (some true) { s with heap := h' }) :
    wpAny (model prog w) A (do
        storeSet a es1 t1
        if (!false && t1.tooFull) = true then do
            g (relayAll t1 es1 (SetTable.grown es1.size)).2.2
            storeSet a (relayAll t1 es1 (SetTable.grown es1.size)).1 (relayAll t1 es1 (SetTable.grown es1.size)).2.1
            pure (some true)
          else pure (some true)) R E s := by
  refine wpAny_bind (store_at ho hz fun h₁ ep₁ hs₁ ho₁ => ?_)
  rcases sp with ⟨hfull, rfl, rfl⟩ | ⟨hfull, hra⟩
  · rw [if_neg (by simp [hfull])]
    exact wpAny_pure (h h₁ ep₁ hs₁ ho₁)
  · rw [if_pos (by simp [hfull]), hra]
    refine wpAny_bind (hg _ _ _ (wpAny_bind (store_at (s := { s with heap := h₁ }) ho₁ hzF fun h₂ ep₂ hs₂ ho₂ => wpAny_pure (h h₂ ep₂ (hs₁.trans hs₂) ho₂))))


theorem add_int {a : Addr} {es : Array (Int × Value)} {ep : Nat} {t tF : SetTable} {hs : Array Int} {i : Int} {tk : Tok} {Q : Bool → Shared → Prop} (ho : s.heap.get? a = some (setObj es ep t))
    (hf : t.fits es.size = true) (hel : ElemsOf (intKind prog w) es.toList) (hz : es.size ≤ 10) (habs : ∀ e ∈ es.toList, (intKind prog w).is i e.2 = false)
    (hl : layH t (es.map (·.1)) ((intKind prog w).hash i) = some (hs, tF))
    (h : ∀ h' es' ep', Heap.SameBut a s.heap h' → h'.get? a = some (setObj es' ep' tF) → es'.map (·.1) = hs → ElemsOf (intKind prog w) es'.toList → es'.toList.Perm (es.toList ++ [((intKind prog w).hash i, .int i tk)]) → tF.fits es'.size = true → Q true { s with heap := h' }) :
    wpAny (model prog w) A (setAddHashed a (.int i tk) ((intKind prog w).hash i)) Q E s := by
  have hkey := intKind_is (prog := prog) (w := w) i tk
  unfold setAddHashed setAddHashedIn
  refine wpAny_holding (wpAny_bind (wpAny_setState_of ho rfl hf ?_))
  dsimp only
  rw [byScan_of rfl (by unfold scanBound; (first | assumption | decide | exact le0 (by assumption) (by decide) | exact le1 (by assumption) (by decide) | exact le2 (by assumption) (by assumption) (by decide) | lia | omega)) hel]
  simp only [↓reduceIte]
  unfold setAddByScan
  refine wpAny_bind ?_
  refine wpAny_bind (wpAny_rule ?_)
  refine wpAny_bind (wpAny_setScan_of hkey ho rfl hf hel ?_)
  have hn : List.findIdx? (fun e => (intKind prog w).is i e.2) es.toList = Option.none := List.findIdx?_eq_none_iff.mpr fun e he => habs e he
  rw [hn]
  dsimp only
  cases hfs : t.freeSlot ((intKind prog w).hash i) with
  | none => unfold layH at hl; rw [hfs] at hl; cases hl
  | some r =>
  obtain ⟨slot, dum⟩ := r
  cases dum with
  | true => unfold layH at hl; rw [hfs] at hl; cases hl
  | false =>
  unfold layH at hl
  rw [hfs] at hl
  dsimp only at hl
  have sp := putH_spec (x := .int i tk) hl
  have hsz1 : (SetTable.insertAt es (t.put slot).2 ((intKind prog w).hash i, Value.int i tk)).size = es.size + 1 := by
    rw [← Array.length_toList, (SetTable.insertAt_perm ..).length_eq, Array.length_toList, Array.size_push]
  have perm1 : (SetTable.insertAt es (t.put slot).2 ((intKind prog w).hash i, Value.int i tk)).toList.Perm (es.toList ++ [((intKind prog w).hash i, .int i tk)]) := by
    have := SetTable.insertAt_perm es (t.put slot).2 ((intKind prog w).hash i, Value.int i tk)
    rwa [Array.toList_push] at this
  have hln : layNew t es ((intKind prog w).hash i) (.int i tk) = (SetTable.insertAt es (t.put slot).2 ((intKind prog w).hash i, .int i tk), (t.put slot).1, false, false) := by
    unfold layNew
    rw [hfs]
    dsimp only
    have := sp.1
    unfold SetTable.orStandIn
    rw [if_pos this, this]
    rfl
  rw [hln]
  dsimp only
  generalize SetTable.insertAt es (t.put slot).2 ((intKind prog w).hash i, Value.int i tk) = es1 at *
  generalize (t.put slot).1 = t1 at *
  obtain ⟨hf1, sp⟩ := sp
  have hel1 : ElemsOf (intKind prog w) es1.toList := (hel.push hkey rfl).perm perm1
  obtain ⟨esF, hmF, hpF, hfF, spF⟩ : ∃ esF : Array (Int × Value), esF.map (·.1) = hs ∧ esF.toList.Perm es1.toList ∧ tF.fits esF.size = true ∧
      ((t1.tooFull = false ∧ es1 = esF ∧ t1 = tF) ∨ (t1.tooFull = true ∧ relayAll t1 es1 (SetTable.grown es1.size) = (esF, tF, false))) := by
    rcases sp with ⟨hfull, hmap, rfl⟩ | ⟨hfull, es2, order, hrel, rfl, hcov, hfF, hmap⟩
    · exact ⟨es1, hmap, List.Perm.refl _, hf1, .inl ⟨hfull, rfl, rfl⟩⟩
    · have hra : relayAll t1 es1 (SetTable.grown es1.size) = (order.filterMap (es1[·]?), tF, false) := by
        unfold relayAll
        rw [hrel]
        dsimp only
        rw [if_pos (by rw [hcov, hfF]; rfl)]
      refine ⟨_, hmap, ?_, hfF, .inr ⟨hfull, hra⟩⟩
      have := relayAll_perm t1 es1 (SetTable.grown es1.size)
      rw [hra] at this
      exact this
  have hzF : esF.size = es.size + 1 := by rw [← Array.length_toList, hpF.length_eq, Array.length_toList]; exact hsz1
  have fin : ∀ h' ep', Heap.SameBut a s.heap h' → h'.get? a = some (setObj esF ep' tF) → Q true { s with heap := h' } := fun h' ep' hs' ho' => h h' esF ep' hs' ho' hmF (hel1.perm hpF) (hpF.trans perm1) hfF
  have hgw : ∀ (b : Bool) (s₁ : Shared) (Q' : Unit → Shared → Prop), Q' () s₁ → wpAny (model prog w) A (match b with | true => rule "set.scan.the-table-gave-way" | false => pure ()) Q' E s₁ :=
    fun b s₁ Q' hq => by cases b <;> first | exact wpAny_pure hq | exact wpAny_rule hq
  refine wpAny_bind (hgw false _ _ ?_)
  split
  · refine wpAny_bind ?_
    rw [hashByValue_scannable 8 (show Value.scannable (.int i tk) = true from rfl)]
    refine wpAny_pure ?_
    refine add_tail (fun b s₁ Q' hq => by cases b <;> first | exact wpAny_pure hq | exact wpAny_rule hq) ho (by (first | assumption | decide | exact le0 (by assumption) (by decide) | exact le1 (by assumption) (by decide) | exact le2 (by assumption) (by assumption) (by decide) | lia | omega)) (by (first | assumption | decide | exact le0 (by assumption) (by decide) | exact le1 (by assumption) (by decide) | exact le2 (by assumption) (by assumption) (by decide) | lia | omega)) spF fun h' ep' hs' ho' => ?_
    dsimp only
    exact wpAny_pure (fin h' ep' hs' ho')
  · refine wpAny_bind (wpAny_pure ?_)
    simp only [↓reduceIte]
    refine add_tail (fun b s₁ Q' hq => by cases b <;> first | exact wpAny_pure hq | exact wpAny_rule hq) ho (by (first | assumption | decide | exact le0 (by assumption) (by decide) | exact le1 (by assumption) (by decide) | exact le2 (by assumption) (by assumption) (by decide) | lia | omega)) (by (first | assumption | decide | exact le0 (by assumption) (by decide) | exact le1 (by assumption) (by decide) | exact le2 (by assumption) (by assumption) (by decide) | lia | omega)) spF fun h' ep' hs' ho' => ?_
    dsimp only
    exact wpAny_pure (fin h' ep' hs' ho')
end
end Mine

-- part L25
namespace Mine
open PySem PySem.W PySem.Calls PySem.SeqAt PyProof.Rows

section
variable {prog : Program} {w : World} {A : Around} {R : Result → Shared → Prop} {I : Addr} {fp wr : List Addr} {n : Nat} {P : Nat → Value → Prop} {St : Nat → Heap → Prop}

theorem set_loop (W : Walks prog w A.in1 I fp wr n P St) (S : Addr) (hSf : S ∉ fp) (h0 : Heap) (Inv : Nat → Array (Int × Value) → SetTable → Prop)
    (step : ∀ (i : Nat) (v : Value) (es : Array (Int × Value)) (t : SetTable) (s : Shared) (ep : Nat) (Q : Bool → Shared → Prop) (E : Value → Shared → Prop), i < n → P i v → Inv i es t → s.heap.get? S = some (setObj es ep t) →
      (∀ b o, b ∉ S :: wr → h0.get? b = some o → s.heap.get? b = some o) →
      (∀ b h' es' ep' t' tk, Heap.SameBut S s.heap h' → h'.get? S = some (setObj es' ep' t') → Inv (i + 1) es' t' → Q b { s with heap := h', toks := tk }) → wpAny (model prog w) A.in1 (setAdd S v) Q E s) :
    ∀ (k i : Nat) (s : Shared) (ep : Nat) (es : Array (Int × Value)) (t : SetTable), n - i = k → i ≤ n → St i s.heap → s.heap.get? S = some (setObj es ep t) → Inv i es t →
      (∀ b o, b ∉ S :: wr → h0.get? b = some o → s.heap.get? b = some o) →
      (∀ h' tk es' ep' t', (∀ b o, b ∉ S :: wr → h0.get? b = some o → h'.get? b = some o) → h'.get? S = some (setObj es' ep' t') → Inv n es' t' → R (.ok (.ret .none)) { s with heap := h', toks := tk }) →
      codeAny (model prog w) A (.builtin "set.update.loop" ⟨[.ref S, .ref I], []⟩) R s := by
  have hSw : S ∉ wr := fun h => hSf (W.sub _ h)
  intro k
  induction k with
  | zero =>
    intro i s ep es t hk hi hst hS inv keep hR
    have hin : i = n := by (first | assumption | decide | exact le0 (by assumption) (by decide) | exact le1 (by assumption) (by decide) | exact le2 (by assumption) (by assumption) (by decide) | lia | omega)
    subst hin
    refine codeAny_builtin PyProof.Rows.F.entry_set_update_loop ?_
    rw [Around.under_plainId PyProof.Rows.F.plain_set_update_loop _]
    show wpAny _ A.in1 (pyNext (.ref I) >>= _) _ _ s
    refine wpAny_bind (W.done s _ _ hst fun h' tk hm => ?_)
    show wpAny _ A.in1 (ret Value.none) _ _ _
    exact wpAny_pure (hR h' tk es ep t (fun b o hb e => hm b o (fun h => hb (List.mem_cons_of_mem _ h)) (keep b o hb e)) (hm S _ hSw hS) inv)
  | succ k ih =>
    intro i s ep es t hk hi hst hS inv keep hR
    have hlt : i < n := by (first | assumption | decide | exact le0 (by assumption) (by decide) | exact le1 (by assumption) (by decide) | exact le2 (by assumption) (by assumption) (by decide) | lia | omega)
    refine codeAny_builtin PyProof.Rows.F.entry_set_update_loop ?_
    rw [Around.under_plainId PyProof.Rows.F.plain_set_update_loop _]
    show wpAny _ A.in1 (pyNext (.ref I) >>= _) _ _ s
    refine wpAny_bind (W.item i s _ _ hlt hst fun v h₁ tk₁ hP hst' hm => ?_)
    show wpAny _ A.in1 (holding [v] (setAdd S v) >>= _) _ _ _
    refine wpAny_bind (wpAny_holding ?_)
    have keep₁ : ∀ b o, b ∉ S :: wr → h0.get? b = some o → h₁.get? b = some o := fun b o hb e => hm b o (fun h => hb (List.mem_cons_of_mem _ h)) (keep b o hb e)
    refine step i v es t _ ep _ _ hlt hP inv (hm S _ hSw hS) keep₁ fun b h₂ es' ep' t' tk₂ hs₂ hS₂ inv₂ => ?_
    refine wpAny_pure ⟨plainId_quiet PyProof.Rows.F.plain_set_update_loop _, ih (i + 1) _ ep' es' t' (by (first | assumption | decide | exact le0 (by assumption) (by decide) | exact le1 (by assumption) (by decide) | exact le2 (by assumption) (by assumption) (by decide) | lia | omega)) hlt (W.frame _ _ _ hst' fun b hb o e => ?_) hS₂ inv₂ (fun b o hb e => ?_) fun h' tk es' ep' t' => hR h' tk es' ep' t'⟩
    · exact hs₂.extBut b o (fun h => hSf (h ▸ hb)) e
    · exact hs₂.extBut b o (fun h => hb (by simp [h])) (keep₁ b o hb e)
end

theorem sub_tup_set : isSubtype (.type "tuple") (.type "set") = pure false := by rw [isSubtype_type]; kernel_rfl
theorem sub_tup_frozenset : isSubtype (.type "tuple") (.type "frozenset") = pure false := by rw [isSubtype_type]; kernel_rfl

section
variable {prog : Program} {w : World} {A : Around} {E : Value → Shared → Prop} {s : Shared}


theorem set_new_1 (a : Value) {Q₁ : Value → Shared → Prop}
    (h : Q₁ (.ref s.heap.objs.size) { s with heap := s.heap.push (setObj #[] 0 (.fresh 0 0 (!w.params.followText "set-order"))) }) :
    codeAny (model prog w) A (.call (.builtin "set.__new__") ⟨[.type "set", a], []⟩) (wants Q₁ E) s := by
  refine codeAny_of_tree ?_
  show wpAny _ A.in1 (do checkBuiltinCall "set.__new__" ⟨[.type "set", a], []⟩; again (.builtin "set.__new__" ⟨[.type "set", a], []⟩)) _ _ s
  refine wpAny_bind (wpAny_of_eq (PySem.F.newCall_set_1 a) (wpAny_pure ⟨plainId_quiet PySem.F.plain_set_new _, codeAny_builtin PySem.F.entry_set_new ?_⟩))
  rw [Around.under_plainId PySem.F.plain_set_new _]
  unfold Builtin.«set.__new__» Builtin.Frozenset.newClass
  have hsub := sub_set_self
  obtain ⟨hp, g, d, tk, os⟩ := s
  dsimp only
  wp_walk
  refine wpAny_askSetting (wpAny_pure ?_)
  dsimp only
  simp only [newObj]
  refine wpAny_bind (wpAny_alloc (wpAny_pure ?_))
  exact wpAny_pure h

set_option maxRecDepth 100000 in
set_option maxHeartbeats 3200000 in
theorem call_set {l : Addr} {T : String} {items : Array Value} {n : Nat} {Q : Value → Shared → Prop} (hT : T = "list" ∨ T = "tuple") (hh : A.handled = Option.none) (hl : s.heap.get? l = some (seqObj T items n))
    (Inv : Nat → Array (Int × Value) → SetTable → Prop) (h0 : Inv 0 #[] (.fresh 0 0 (!w.params.followText "set-order")))
    (step : ∀ (A' : Around) (i : Nat) (v : Value) (es : Array (Int × Value)) (t : SetTable) (s' : Shared) (S : Addr) (ep : Nat) (Q : Bool → Shared → Prop) (E : Value → Shared → Prop), A'.units ≤ A.units + 8 → items[i]? = some v → Inv i es t → s'.heap.get? S = some (setObj es ep t) →
      (∀ b o, s.heap.get? b = some o → s'.heap.get? b = some o) →
      (∀ b h' es' ep' t' tk, Heap.SameBut S s'.heap h' → h'.get? S = some (setObj es' ep' t') → Inv (i + 1) es' t' → Q b { s' with heap := h', toks := tk }) → wpAny (model prog w) A' (setAdd S v) Q E s')
    (h : ∀ (h' : Heap) (tk : Nat) es ep t, h'.get? s.heap.objs.size = some (setObj es ep t) → Inv items.size es t → (∀ b o, s.heap.get? b = some o → h'.get? b = some o) → Q (.ref s.heap.objs.size) { s with heap := h', toks := tk }) :
    wpAny (model prog w) A (call (.type "set") [.ref l]) Q E s := by
  have hT' := hT
  clear hT
  obtain ⟨c, tl, hmro⟩ := PySem.F.called_set.mro
  have hmade := PySem.F.called_set.made
  have hsub := PySem.F.called_set.sub
  refine wpAny_call (codeAny_of_tree ?_)
  show wpAny _ _ (callAny (.type "set") _) _ _ _
  refine wpAny_pure ⟨Code.quiet_builtin _ (by decide +kernel), codeAny_builtin PySem.F.entry_type_call ?_⟩
  rw [Around.under_plain (weight_type_call_type "set" [.ref l] []) rfl]
  have h1 := PySem.F.called_set.notType
  have h2 := PySem.F.called_set.canCreate
  have hct := PySem.F.typeCall_set_1 (.ref l)
  repeat (any_goals (first | assumption | wp_step))
  refine codeAny_mono (set_new_1 (.ref l) (E := E) (Q₁ := fun obj s₁ => obj = .ref s.heap.objs.size ∧ s₁ = { s with heap := s.heap.push (setObj #[] 0 (.fresh 0 0 (!w.params.followText "set-order"))) }) ⟨rfl, rfl⟩) fun r s₁ hr => ?_
  cases r with
  | error e => exact hr
  | ok fl =>
    cases fl with
    | ret obj =>
      obtain ⟨rfl, rfl⟩ := hr
      have hS : (s.heap.push (setObj #[] 0 (.fresh 0 0 (!w.params.followText "set-order")))).get? s.heap.objs.size = some (setObj #[] 0 (.fresh 0 0 (!w.params.followText "set-order"))) := Heap.get?_push_size _ rfl
      have hT : Shared.TypeIs { s with heap := s.heap.push (setObj #[] 0 (.fresh 0 0 (!w.params.followText "set-order"))) } (.ref s.heap.objs.size) "set" := ⟨_, hS, rfl⟩
      have hli := PySem.F.called_set.init.lookup
      have hbi := PySem.F.called_set.init.bind (.ref s.heap.objs.size)
      repeat (any_goals (first | assumption | wp_step))
      refine codeAny_mono (codeAny_call_builtin (R := wants (fun r s₂ => r = .none ∧ ∃ h' tk es ep t, s₂ = { s with heap := h', toks := tk } ∧ h'.get? s.heap.objs.size = some (setObj es ep t) ∧ Inv items.size es t ∧
          (∀ b o, s.heap.get? b = some o → h'.get? b = some o)) E) PySem.F.called_set.init.plain PySem.F.entry_set_init (check_set_init_1 hT ?_)) fun r₂ s₂ hr₂ => ?_
      · have hol' : (s.heap.push (setObj #[] 0 (.fresh 0 0 (!w.params.followText "set-order")))).get? l = some { cls := .type T, dict := Option.none, data := .seq items n, slots := #[] } := Heap.get?_push_of_some _ hl
        have hlS : l < s.heap.objs.size := Heap.lt_size hl
        have hh3 : A.in1.in1.in1.handled = Option.none := by simp [hh]
        have hneI : l ≠ (s.heap.push (setObj #[] 0 (.fresh 0 0 (!w.params.followText "set-order")))).objs.size := by
          rw [Heap.size_push]; exact Nat.ne_of_lt (Nat.lt_succ_of_lt hlS)
        have hSf : s.heap.objs.size ∉ [(s.heap.push (setObj #[] 0 (.fresh 0 0 (!w.params.followText "set-order")))).objs.size, l] := by
          rw [Heap.size_push]; simp only [List.mem_cons, List.mem_singleton, List.not_mem_nil, or_false, not_or]
          exact ⟨Nat.ne_of_lt (Nat.lt_succ_self _), Nat.ne_of_gt hlS⟩
        have hsls : isSubtype (.type T) (.type "set") = pure false := by rcases hT' with rfl | rfl; exact PySem.F.sub_list_set; exact sub_tup_set
        have hslf : isSubtype (.type T) (.type "frozenset") = pure false := by rcases hT' with rfl | rfl; exact PySem.F.sub_list_frozenset; exact sub_tup_frozenset
        have hne : (Value.type T == Value.type "dict") = false := by rcases hT' with rfl | rfl <;> decide
        -- what stands stays: neither the set nor the iterator stood
        have kp : ∀ {I : Addr} {h' : Heap}, I = (s.heap.push (setObj #[] 0 (.fresh 0 0 (!w.params.followText "set-order")))).objs.size → (∀ b o, b ∉ s.heap.objs.size :: [I] → s.heap.get? b = some o → h'.get? b = some o) →
            ∀ b o, s.heap.get? b = some o → h'.get? b = some o := fun {I h'} eI k b o e => by
          have hb := Heap.lt_size e
          refine k b o (fun hm => ?_) e
          rcases List.mem_cons.mp hm with rfl | hm
          · exact absurd hb (Nat.lt_irrefl _)
          · have hm := List.mem_singleton.mp hm
            rw [hm, eI, Heap.size_push] at hb
            exact absurd hb (Nat.not_lt_of_le (Nat.le_succ _))
        unfold Builtin.«set.__init__» noKeywords Builtin.Frozenset.updateFrom
        generalize hPI : pyIter = PI
        wp_walk
        subst hPI
        rcases hT' with rfl | rfl
        · refine wpAny_pyIter_list (items := items) ⟨_, hol', rfl, n, rfl⟩ ?_
          refine wpAny_bind (wpAny_runValue ?_)
          refine set_loop (Walks.list hh3 _ l hneI items) s.heap.objs.size hSf s.heap Inv (fun i v es t s' ep Q E _ hP inv hg keep k => step _ i v es t s' _ ep Q E (by simp [Around.in1]) hP inv hg (kp rfl keep) k)
            (items.size - 0) 0 _ 0 #[] _ rfl (Nat.zero_le _) ⟨⟨_, Heap.get?_push_size _ rfl, rfl, rfl⟩, ⟨_, Heap.get?_push_of_some _ hol', rfl, n, rfl⟩⟩ (Heap.get?_push_of_some _ hS) h0 (fun b o _ e => Heap.get?_push_of_some _ (Heap.get?_push_of_some _ e)) fun h' tk es ep t keep hg inv => ?_
          refine wpAny_pure ?_
          show wpAny _ _ (ret Value.none) _ _ _
          exact wpAny_pure ⟨rfl, h', tk, es, ep, t, rfl, hg, inv, kp rfl keep⟩
        · refine wpAny_pyIter_tuple (items := items) ⟨_, hol', rfl, n, rfl⟩ ?_
          refine wpAny_bind (wpAny_runValue ?_)
          refine set_loop (Walks.tuple hh3 _ l hneI items) s.heap.objs.size hSf s.heap Inv (fun i v es t s' ep Q E _ hP inv hg keep k => step _ i v es t s' _ ep Q E (by simp [Around.in1]) hP inv hg (kp rfl keep) k)
            (items.size - 0) 0 _ 0 #[] _ rfl (Nat.zero_le _) ⟨⟨_, Heap.get?_push_size _ rfl, rfl, rfl⟩, ⟨_, Heap.get?_push_of_some _ hol', rfl, n, rfl⟩⟩ (Heap.get?_push_of_some _ hS) h0 (fun b o _ e => Heap.get?_push_of_some _ (Heap.get?_push_of_some _ e)) fun h' tk es ep t keep hg inv => ?_
          refine wpAny_pure ?_
          show wpAny _ _ (ret Value.none) _ _ _
          exact wpAny_pure ⟨rfl, h', tk, es, ep, t, rfl, hg, inv, kp rfl keep⟩
      · cases r₂ with
        | error e => exact hr₂
        | ok fl₂ =>
          cases fl₂ with
          | ret r =>
            obtain ⟨rfl, h', tk, es, ep, t, rfl, hg, inv, keep⟩ := hr₂
            repeat (any_goals (first | assumption | wp_step))
            exact h h' tk es ep t hg inv keep
          | _ => exact hr₂.elim
    | _ => exact hr.elim
end
end Mine

-- part L26
namespace Mine
open PySem PySem.W PySem.Calls PySem.SeqAt PyProof.Rows

section
variable {prog : Program} {w : World} {A : Around} {E : Value → Shared → Prop} {s : Shared}

theorem found_int {a : Addr} {es : Array (Int × Value)} {ep : Nat} {t : SetTable} {i : Int} {tk : Tok} {Q : Bool → Shared → Prop} (ho : s.heap.get? a = some (setObj es ep t))
    (hf : t.fits es.size = true) (hel : ElemsOf (intKind prog w) es.toList) (hz : es.size ≤ 10) (hin : ∃ e ∈ es.toList, (intKind prog w).is i e.2 = true) (h : Q false s) :
    wpAny (model prog w) A (setAddHashed a (.int i tk) ((intKind prog w).hash i)) Q E s := by
  have hkey := intKind_is (prog := prog) (w := w) i tk
  unfold setAddHashed setAddHashedIn
  refine wpAny_holding (wpAny_bind (wpAny_setState_of ho rfl hf ?_))
  dsimp only
  rw [byScan_of rfl (by unfold scanBound; (first | assumption | decide | exact le0 (by assumption) (by decide) | exact le1 (by assumption) (by decide) | exact le2 (by assumption) (by assumption) (by decide) | lia | omega)) hel]
  simp only [↓reduceIte]
  unfold setAddByScan
  refine wpAny_bind ?_
  refine wpAny_bind (wpAny_rule ?_)
  refine wpAny_bind (wpAny_setScan_of hkey ho rfl hf hel ?_)
  cases hr : List.findIdx? (fun e => (intKind prog w).is i e.2) es.toList with
  | none =>
    obtain ⟨e, he, hp⟩ := hin
    have := List.findIdx?_eq_none_iff.mp hr e he
    rw [hp] at this; cases this
  | some j =>
    dsimp only
    exact wpAny_pure (wpAny_pure h)
end

theorem hash_small {v : Nat} (h : v < 5) : hashInt (v : Int) = (v : Int) := by
  match v, h with
  | 0, _ => decide +kernel
  | 1, _ => decide +kernel
  | 2, _ => decide +kernel
  | 3, _ => decide +kernel
  | 4, _ => decide +kernel

theorem mem5 {v : Nat} (h : v < 5) : v ∈ [0, 1, 2, 3, 4] := by
  match v, h with
  | 0, _ => decide
  | 1, _ => decide
  | 2, _ => decide
  | 3, _ => decide
  | 4, _ => decide

theorem mem_ins {v x : Nat} : ∀ {l : List Nat}, x ∈ ins v l ↔ x = v ∨ x ∈ l
  | [] => by simp [ins]
  | a :: r => by
    unfold ins
    split
    · simp
    · simp only [List.mem_cons, mem_ins (l := r)]
      constructor
      · rintro (h | h | h)
        · exact .inr (.inl h)
        · exact .inl h
        · exact .inr (.inr h)
      · rintro (h | h | h)
        · exact .inr (.inl h)
        · exact .inl h
        · exact .inr (.inr h)


structure IntSet (led : Bool) (es : Array (Int × Value)) (t : SetTable) (l : List Nat) : Prop where
  mem : l ∈ subs
  tab : t = tabI led l
  hash : es.map (·.1) = hsI l
  el : ∀ e ∈ es.toList, ∃ (v : Nat) (tk : Tok), v < 5 ∧ e = ((v : Int), .int (v : Int) tk)

section
variable {led : Bool} {es : Array (Int × Value)} {t : SetTable} {l : List Nat}
theorem bool_mem (b : Bool) : b ∈ [true, false] := by cases b <;> simp
theorem IntSet.size (S : IntSet led es t l) : es.size = l.length := by
  have := congrArg Array.size S.hash
  simpa [hsI] using this
theorem IntSet.facts (S : IntSet led es t l) : walkOk t.place = true ∧ t.fits es.size = true ∧ l.length ≤ 5 ∧ (∀ v ∈ l, v < 5) ∧ asc l = true ∧ l.Nodup := by
  have h := List.all_eq_true.mp (List.all_eq_true.mp walkI led (bool_mem led)) l S.mem
  simp only [Bool.and_eq_true, decide_eq_true_eq, List.all_eq_true] at h
  rw [S.tab, S.size]
  exact ⟨h.1.1.1.1.1, h.1.1.1.1.2, h.1.1.1.2, fun v hv => by have := h.1.1.2 v hv; rwa [Nat.blt_eq] at this, h.1.2, h.2⟩
theorem IntSet.elems {prog : Program} {w : World} (S : IntSet led es t l) : ElemsOf (intKind prog w) es.toList := fun e he => by
  obtain ⟨v, tk, hv, rfl⟩ := S.el e he
  exact ⟨⟨(v : Int), intKind_is _ _ _ _, (hash_small hv).symm⟩, rfl⟩
theorem IntSet.has (S : IntSet led es t l) {v : Nat} : v ∈ l ↔ ∃ e ∈ es.toList, e.1 = (v : Int) := by
  have h1 : (es.map (·.1)).toList = l.map Int.ofNat := by rw [S.hash]; simp [hsI]
  rw [Array.toList_map] at h1
  constructor
  · intro hv
    have : (v : Int) ∈ es.toList.map (·.1) := by rw [h1]; exact List.mem_map.mpr ⟨v, hv, rfl⟩
    obtain ⟨e, he, q⟩ := List.mem_map.mp this
    exact ⟨e, he, q⟩
  · rintro ⟨e, he, q⟩
    have : (v : Int) ∈ l.map Int.ofNat := by rw [← h1]; exact List.mem_map.mpr ⟨e, he, q⟩
    obtain ⟨u, hu, q⟩ := List.mem_map.mp this
    have : u = v := Int.ofNat.inj q
    exact this ▸ hu
theorem IntSet.rep {h : Heap} {As : List Addr} (S : IntSet led es t l) : RepL h As (l.map fun (v : Nat) => AV.int (v : Int)) (es.toList.map (·.2)) := by
  have h1 : (es.map (·.1)).toList = l.map Int.ofNat := by rw [S.hash]; simp [hsI]
  rw [Array.toList_map] at h1
  refine RepL.of_get ?_ fun i a v e1 e2 => ?_
  · have := congrArg List.length h1
    simp only [List.length_map] at this ⊢; exact this
  · rw [List.getElem?_map] at e1 e2
    cases hq : es.toList[i]? with
    | none => rw [hq] at e2; cases e2
    | some e =>
      rw [hq] at e2
      simp only [Option.map_some, Option.some.injEq] at e2
      obtain ⟨u, tk, hu, rfl⟩ := S.el e (List.mem_of_getElem? hq)
      have h2 : (es.toList.map (·.1))[i]? = some (u : Int) := by rw [List.getElem?_map, hq]; rfl
      rw [h1, List.getElem?_map] at h2
      cases hl : l[i]? with
      | none => rw [hl] at h2; cases h2
      | some k =>
        rw [hl] at h2 e1
        simp only [Option.map_some, Option.some.injEq] at h2 e1
        have hk : k = u := Int.ofNat.inj h2
        subst hk; subst e1; subst e2
        unfold Rep
        exact ⟨tk, rfl⟩

theorem IntSet.add {prog : Program} {w : World} {A : Around} {E : Value → Shared → Prop} {s : Shared} {a : Addr} {ep : Nat} {v : Nat} {tk : Tok} {Q : Bool → Shared → Prop} (S : IntSet led es t l) (ho : s.heap.get? a = some (setObj es ep t)) (hv : v < 5)
    (h : ∀ b h' es' ep' t' l' tk', Heap.SameBut a s.heap h' → h'.get? a = some (setObj es' ep' t') → IntSet led es' t' l' → (∀ u, u ∈ l' ↔ u = v ∨ u ∈ l) → Q b { s with heap := h', toks := tk' }) :
    wpAny (model prog w) A (setAdd a (.int (v : Int) tk)) Q E s := by
  have F := S.facts
  unfold setAdd
  refine wpAny_holding ?_
  refine wpAny_bind ((intKind prog w).pyHash (k := (v : Int)) (intKind_is _ _ _ _) ?_)
  by_cases hm : v ∈ l
  · refine found_int (s := { s with toks := s.toks + 1 }) ho F.2.1 S.elems (by rw [S.size]; have := F.2.2.1; (first | assumption | decide | exact le0 (by assumption) (by decide) | exact le1 (by assumption) (by decide) | exact le2 (by assumption) (by assumption) (by decide) | lia | omega)) ?_ ?_
    · obtain ⟨e, he, q⟩ := S.has.mp hm
      obtain ⟨u, tk', hu, rfl⟩ := S.el e he
      refine ⟨_, he, ?_⟩
      have : (u : Int) = (v : Int) := q
      show Value.isInt (v : Int) (.int (u : Int) tk') = true
      rw [this]; exact intKind_is prog w (v : Int) tk'
    · exact h false s.heap es ep t l _ (Heap.SameBut.refl a s.heap) ho S fun u => ⟨.inr, fun q => q.elim (fun e => e ▸ hm) id⟩
  · have cl := List.all_eq_true.mp (List.all_eq_true.mp (List.all_eq_true.mp closI led (bool_mem led)) l S.mem) v (mem5 hv)
    have hc : l.contains v = false := by simpa using hm
    rw [hc, Bool.false_or, Bool.and_eq_true] at cl
    obtain ⟨c1, c2⟩ := cl
    have c1 : layH (tabI led l) (hsI l) (Int.ofNat v) = some (hsI (ins v l), tabI led (ins v l)) := of_decide_eq_true c1
    rw [← S.tab, ← S.hash] at c1
    have hh : (intKind prog w).hash (v : Int) = Int.ofNat v := hash_small hv
    rw [← hh] at c1
    refine add_int (s := { s with toks := s.toks + 1 }) ho F.2.1 S.elems (by rw [S.size]; have := F.2.2.1; (first | assumption | decide | exact le0 (by assumption) (by decide) | exact le1 (by assumption) (by decide) | exact le2 (by assumption) (by assumption) (by decide) | lia | omega)) (fun e he => ?_) c1 fun h' es' ep' hs' ho' hm' hel' hp' hf' => ?_
    · obtain ⟨u, tk', hu, rfl⟩ := S.el e he
      show Value.isInt (v : Int) (.int (u : Int) tk') = false
      cases hb : Value.isInt (v : Int) (.int (u : Int) tk') with
      | false => rfl
      | true =>
        have := Value.isInt_inj _ _ _ hb (intKind_is prog w (u : Int) tk')
        exact absurd (S.has.mpr ⟨_, he, this.symm⟩) hm
    · refine h true h' es' ep' _ (ins v l) _ hs' ho' ⟨List.mem_of_elem_eq_true c2, rfl, hm', fun e he => ?_⟩ fun u => mem_ins
      rcases List.mem_append.mp (hp'.mem_iff.mp he) with he | he
      · exact S.el e he
      · have he := List.mem_singleton.mp he
        rw [hh] at he
        exact ⟨v, tk, hv, he⟩
end

section
variable {C : Cx} {n : Nat} {sc : Scope} {ρ : List (Str × AV)} {env : Env} {As : List Addr} {σ : List AO} {s : Shared} {A : Around} {E : Value → Shared → Prop} {recs : List DefRec}

theorem src_at {h : Heap} {a : AV} {m : List AV} {v : Value} (S : Sim C As σ h) (z : ItemsOfAV σ a m) (r : Rep h As a v) : ∃ l T vs n, v = .ref l ∧ (T = "list" ∨ T = "tuple") ∧ h.get? l = some (seqObj T vs n) ∧ RepL h As m vs.toList := by
  rcases z with rfl | ⟨k, rfl, hk⟩
  · unfold Rep at r
    obtain ⟨t, vs, rfl, _, ⟨n, e⟩, r⟩ := r
    exact ⟨t, "tuple", vs, n, rfl, .inr rfl, e, r⟩
  · unfold Rep at r
    obtain ⟨t, rfl, e⟩ := r
    obtain ⟨vs, ⟨n, e'⟩, r⟩ := S.obj k t _ e hk
    exact ⟨t, "list", vs, n, rfl, .inl rfl, e', r⟩

theorem cv_set_ints {a : AV} {xs : List Nat} {Q : AV → List AO → Prop} (z : ItemsOfAV σ a (xs.map fun (v : Nat) => AV.int (v : Int))) (h5 : ∀ v ∈ xs, v < 5)
    (h : ∀ l : List Nat, asc l = true → l.Nodup → (∀ v, v ∈ l ↔ v ∈ xs) → l.length ≤ 5 → Q (.ref σ.length) (σ ++ [.set (l.map fun (v : Nat) => AV.int (v : Int))])) : CallV C n (.type "set") [a] σ Q := ⟨fun A R As s E vs S r => by
  obtain ⟨v, rfl, r0⟩ := one r
  clear r
  obtain ⟨l, T, items, c, rfl, hT, hl, r⟩ := src_at S z r0
  have hz : items.size = xs.length := by rw [← Array.length_toList, r.length, List.length_map]
  refine call_set hT R.hd hl (fun i es t => ∃ l, IntSet (!C.w.params.followText "set-order") es t l ∧ ∀ v, v ∈ l ↔ v ∈ xs.take i) ⟨[], ⟨by decide +kernel, rfl, by decide +kernel, by simp⟩, by simp⟩ (fun A' i x es t s' D ep Q' E' _ hx inv hg keep k => ?_) fun h' tk es ep t hg inv keep => ?_
  · obtain ⟨l, IS, hl⟩ := inv
    obtain ⟨u, hu⟩ : ∃ u, xs[i]? = some u := by
      have : i < xs.length := by rw [← hz]; exact (Array.getElem?_eq_some_iff.mp hx).1
      exact ⟨xs[i], by simp [this]⟩
    obtain ⟨x', hx', rx⟩ := r.get (i := i) (a := .int (u : Int)) (by simp [hu])
    have : x' = x := by
      rw [Array.getElem?_toList, hx] at hx'
      exact (Option.some.inj hx').symm
    subst this
    unfold Rep at rx
    obtain ⟨tk, rfl⟩ := rx
    refine IS.add hg (h5 u (List.mem_of_getElem? hu)) fun b h' es' ep' t' l' tk' hs' ho' IS' hl' => k b h' es' ep' t' tk' hs' ho' ⟨l', IS', fun v => ?_⟩
    rw [hl' v, hl v, List.take_add_one, hu]
    simp [or_comm]
  · obtain ⟨l, IS, hl⟩ := inv
    have F := IS.facts
    have hm : ∀ v, v ∈ l ↔ v ∈ xs := fun v => by rw [hl v, hz, List.take_length]
    obtain ⟨S', X'⟩ := S.add (tk := tk) (o := .set (l.map fun (v : Nat) => AV.int (v : Int))) keep S.fresh.2.2 S.big ⟨es, ep, t, hg, ⟨F.2.1, by rw [IS.tab]; unfold tabI; split <;> rfl, by rw [IS.tab]; unfold tabI; split <;> rfl, F.1, by rw [IS.size]; exact F.2.2.1⟩, IS.rep⟩
    refine ⟨_, _, _, X', S', h l F.2.2.2.2.1 F.2.2.2.2.2 hm F.2.2.1, ?_⟩
    unfold Rep
    refine ⟨_, rfl, ?_⟩
    rw [← S.len]; simp⟩
end
end Mine

-- part L27
namespace Mine
open PySem PySem.W PySem.Calls PySem.SeqAt PyProof.Rows

theorem entry_set_iter : entryFor table "set.__iter__" = some Builtin.«frozenset.__iter__» := entryFor_alias (id' := "frozenset.__iter__") (by kernel_rfl) rfl (by decide +kernel) (by kernel_rfl)
theorem args_set_iter (a : Value) : argsOk "set.__iter__" ⟨[a], []⟩ := by unfold argsOk; kernel_rfl
theorem slot_si_next : Slot "set_iterator" "__next__" "set_iterator.__next__" :=
  .of (owner := "set_iterator") (n := "__next__") (by rw [typeLookup_type, builtinLookup_eq_fast]; kernel_rfl) (by decide +kernel) (by decide +kernel) (by decide +kernel)
    (by first | exact .inl (by decide +kernel) | exact .inr (by decide +kernel)) (by rw [isSubtype_type]; kernel_rfl)
theorem entry_si_next : entryFor table "set_iterator.__next__" = some Builtin.«set_iterator.__next__» := entryFor_of_tree (by kernel_rfl)
theorem args_si_next (a : Value) : argsOk "set_iterator.__next__" ⟨[a], []⟩ := by unfold argsOk; kernel_rfl

theorem slot_si_iter : Slot "set_iterator" "__iter__" "set_iterator.__iter__" :=
  .of (owner := "set_iterator") (n := "__iter__") (by rw [typeLookup_type, builtinLookup_eq_fast]; kernel_rfl) (by decide +kernel) (by decide +kernel) (by decide +kernel)
    (by first | exact .inl (by decide +kernel) | exact .inr (by decide +kernel)) (by rw [isSubtype_type]; kernel_rfl)
theorem entry_si_iter : entryFor table "set_iterator.__iter__" = some Builtin.«dict_keyiterator.__iter__» :=
  entryFor_alias (id' := "dict_keyiterator.__iter__") (by kernel_rfl) (by first | rfl | decide +kernel | (unfold String.splitOn; simp +decide [String.splitOnAux])) (by decide +kernel) (by kernel_rfl)
theorem args_si_iter (a : Value) : argsOk "set_iterator.__iter__" ⟨[a], []⟩ := by unfold argsOk; kernel_rfl
theorem erase_perm {α : Type} : ∀ {l : List α} {i : Nat} (h : i < l.length), (l[i] :: l.eraseIdx i).Perm l
  | a :: l, 0, _ => by simp
  | a :: l, i + 1, h => by
    simp only [List.getElem_cons_succ, List.eraseIdx_cons_succ]
    exact (List.Perm.swap _ _ _).trans ((erase_perm (l := l) (i := i) (by simpa using h)).cons a)
theorem pick_perm {α : Type} (next : Nat → Nat) : ∀ (fuel k : Nat) (left : List α) (out : Array α), left.length = fuel → (pickOrder.go next fuel k left out).toList.Perm (out.toList ++ left)
  | 0, k, left, out, h => by
    have : left = [] := List.eq_nil_of_length_eq_zero h
    subst this
    simp [pickOrder.go]
  | fuel + 1, k, left, out, h => by
    unfold pickOrder.go
    have hlt : next k % left.length < left.length := Nat.mod_lt _ (by (first | assumption | decide | exact le0 (by assumption) (by decide) | exact le1 (by assumption) (by decide) | exact le2 (by assumption) (by assumption) (by decide) | lia | omega))
    rw [List.getElem?_eq_getElem hlt]
    dsimp only
    refine (pick_perm next fuel (k + 1) _ _ (by rw [List.length_eraseIdx]; rw [if_pos hlt]; (first | assumption | decide | exact le0 (by assumption) (by decide) | exact le1 (by assumption) (by decide) | exact le2 (by assumption) (by assumption) (by decide) | lia | omega))).trans ?_
    rw [Array.toList_push, List.append_assoc]
    refine List.Perm.append_left _ ?_
    exact erase_perm hlt
theorem pickOrder_perm {α : Type} (next : Nat → Nat) (xs : Array α) : (pickOrder next xs).toList.Perm xs.toList := by
  unfold pickOrder
  have := pick_perm next xs.size 0 xs.toList #[] (by first | exact nn | exact lb rfl | simp)
  simpa using this


noncomputable def walkOf (w : World) (a : Addr) (ep : Nat) (es : Array (Int × Value)) : Array (Int × Value) := if w.params.followText "set-order" then pickOrder (w.params.setOrder a ep) es else es
theorem walkOf_perm (w : World) (a : Addr) (ep : Nat) (es : Array (Int × Value)) : (walkOf w a ep es).toList.Perm es.toList := by
  unfold walkOf; split
  · exact pickOrder_perm _ _
  · exact List.Perm.refl _
noncomputable def nxt (place : Array Nat) (i : Nat) : Nat := if Nat.beq i 0 then 0 else place.getD (i - 1) 0 + 1
noncomputable def slotAt (w : World) (t : SetTable) (i : Nat) : Nat := if w.params.followText "set-order" then 0 else nxt t.place i

noncomputable abbrev IsSetIter (w : World) (h : Heap) (I D : Addr) (ep n : Nat) (t : SetTable) (i : Nat) : Prop :=
  h.get? I = some { cls := .type "set_iterator", dict := Option.none, data := .fields #[.int (slotAt w t i) 0, .int i 0, .ref D, .int n 0, .int ep 0], slots := #[] }

section
variable {prog : Program} {w : World} {A : Around} {E : Value → Shared → Prop} {s : Shared} {es : Array (Int × Value)} {ep : Nat} {t : SetTable} {D I : Addr}

theorem below_at {t : SetTable} {i : Nat} (h : walkOk t.place = true) (hi : i ≤ t.place.size) : SetTable.below t.place (nxt t.place i) = i := by
  have := List.all_eq_true.mp h i (List.mem_range.mpr (by (first | assumption | decide | exact le0 (by assumption) (by decide) | exact le1 (by assumption) (by decide) | exact le2 (by assumption) (by assumption) (by decide) | lia | omega)))
  exact Nat.eq_of_beq_eq_true this


theorem setNext_at {i : Nat} {Q : Option (Value × Nat) → Shared → Prop} (ho : s.heap.get? D = some (setObj es ep t)) (hf : t.fits es.size = true) (hp : t.plain = true) (hl : t.led = !w.params.followText "set-order") (hw : walkOk t.place = true) (hi : i ≤ es.size)
    (h : Q (((walkOf w D ep es)[i]?).map fun e => (e.2, slotAt w t (i + 1))) s) : wpAny (model prog w) A (setNext D (slotAt w t i) i ep) Q E s := by
  have hps : t.place.size = es.size := by
    simp only [SetTable.fits, Bool.and_eq_true, beq_iff_eq] at hf
    exact hf.1
  unfold setNext
  refine wpAny_bind (wpAny_setState_of ho rfl hf ?_)
  dsimp only
  unfold setsByText
  refine wpAny_bind (wpAny_bind (wpAny_askSetting (wpAny_pure ?_)))
  show wpAny (model prog w) A (if w.params.followText "set-order" = true then _ else _) Q E s
  cases hb : w.params.followText "set-order" with
  | true =>
    simp only [if_true]
    rw [if_neg (by first | exact nn | exact lb rfl | simp)]
    unfold setWalk
    refine wpAny_bind (wpAny_bind (wpAny_setState_of ho rfl hf ?_))
    dsimp only
    unfold setsByText
    refine wpAny_bind (wpAny_bind (wpAny_askSetting (wpAny_pure ?_)))
    show wpAny (model prog w) A (if w.params.followText "set-order" = true then _ else _) _ E s
    rw [hb]
    simp only [if_true]
    refine wpAny_bind (wpAny_askSetting ?_)
    refine wpAny_pure (wpAny_pure ?_)
    unfold walkOf slotAt at h
    rw [hb] at h
    unfold slotAt
    rw [hb]
    exact h
  | false =>
    simp only [Bool.false_eq_true, if_false]
    have hd : (!t.plain && decide (es.size > 1)) = false := by rw [hp]; rfl
    show wpAny (model prog w) A (if (!t.plain && decide (es.size > 1)) = true then _ else _) Q E s
    rw [hd]
    simp only [Bool.false_eq_true, if_false]
    have hled : t.led = true := by rw [hl, hb]; rfl
    refine wpAny_bind ?_
    show wpAny (model prog w) A (if (!t.led && !es.isEmpty) = true then _ else _) _ E s
    rw [hled]
    simp only [Bool.not_true, Bool.false_and, Bool.false_eq_true, if_false]
    refine wpAny_pure (wpAny_pure ?_)
    have e0 : ∀ j, slotAt w t j = nxt t.place j := fun j => by unfold slotAt; rw [hb]; rfl
    rw [e0, below_at hw (by (first | assumption | decide | exact le0 (by assumption) (by decide) | exact le1 (by assumption) (by decide) | exact le2 (by assumption) (by assumption) (by decide) | lia | omega))]
    unfold walkOf at h
    rw [hb] at h
    simp only [Bool.false_eq_true, if_false] at h
    by_cases hlt : i < es.size
    · have h1 : es[i]? = some es[i] := by simp [hlt]
      have h2 : t.place[i]? = some t.place[i] := by simp [show i < t.place.size by (first | assumption | decide | exact le0 (by assumption) (by decide) | exact le1 (by assumption) (by decide) | exact le2 (by assumption) (by assumption) (by decide) | lia | omega)]
      rw [h1] at h ⊢
      rw [h2]
      rw [e0] at h
      have h3 : nxt t.place (i + 1) = t.place[i] + 1 := by
        unfold nxt
        simp [show i < t.place.size by (first | assumption | decide | exact le0 (by assumption) (by decide) | exact le1 (by assumption) (by decide) | exact le2 (by assumption) (by assumption) (by decide) | lia | omega)]
      rw [h3] at h
      exact h
    · have h1 : es[i]? = Option.none := by simp; (first | assumption | decide | exact le0 (by assumption) (by decide) | exact le1 (by assumption) (by decide) | exact le2 (by assumption) (by assumption) (by decide) | lia | omega)
      rw [h1] at h ⊢
      exact h

theorem pyNext_set_item {i : Nat} {v : Value} {Q : Option Value → Shared → Prop} (ho : s.heap.get? D = some (setObj es ep t)) (it : IsSetIter w s.heap I D ep es.size t i) (hf : t.fits es.size = true) (hp : t.plain = true) (hl : t.led = !w.params.followText "set-order")
    (hw : walkOk t.place = true) (hi : i < es.size) (hv : ((walkOf w D ep es)[i]?).map (·.2) = some v) (hQ : ∀ h', IsSetIter w h' I D ep es.size t (i + 1) → Heap.SameBut I s.heap h' → Q (some v) { s with heap := h' }) :
    wpAny (model prog w) A (pyNext (.ref I)) Q E s := by
  have hT : s.TypeIs (.ref I) "set_iterator" := ⟨_, it, rfl⟩
  unfold pyNext
  refine wpAny_bind (wpAny_attempt (wpAny_callSpecial?_slot (name := Str.ofString "__next__") hT slot_si_next (wpAny_call_entry slot_si_next hT entry_si_next ?_ (args_si_next _))))
  show wpAny _ _ (fieldsOf (.ref I) >>= _) _ _ s
  refine wpAny_bind (wpAny_fieldsOf it rfl ?_)
  show wpAny _ _ (setEntries D >>= _) _ _ s
  refine wpAny_bind (wpAny_setEntries_of ho rfl hf ?_)
  show wpAny _ _ (if (((es.size : Nat) : Int) != ((es.size : Nat) : Int)) = true then _ else _) _ _ s
  rw [if_neg (by first | exact nn | exact lb rfl | simp)]
  show wpAny _ _ (setNext D ((slotAt w t i : Nat) : Int).toNat ((i : Nat) : Int).toNat ((ep : Nat) : Int).toNat >>= _) _ _ s
  simp only [Int.toNat_natCast]
  refine wpAny_bind (setNext_at ho hf hp hl hw (Nat.le_of_lt hi) ?_)
  cases hg : (walkOf w D ep es)[i]? with
  | none => rw [hg] at hv; cases hv
  | some e =>
    rw [hg] at hv
    simp only [Option.map_some, Option.some.injEq] at hv
    subst hv
    dsimp only [Option.map_some]
    refine wpAny_bind (wpAny_setField_rec it (by first | exact nn | exact lb rfl | simp) fun h₁ it₁ hs₁ => ?_)
    refine wpAny_bind (wpAny_setField_rec it₁ (by first | exact nn | exact lb rfl | simp) fun h₂ it₂ hs₂ => ?_)
    exact wpAny_pure ⟨_, rfl, wpAny_pure (hQ h₂ it₂ (hs₁.trans hs₂))⟩

theorem pyNext_set_end {Q : Option Value → Shared → Prop} (hh : A.handled = Option.none) (ho : s.heap.get? D = some (setObj es ep t)) (it : IsSetIter w s.heap I D ep es.size t es.size) (hf : t.fits es.size = true) (hp : t.plain = true) (hl : t.led = !w.params.followText "set-order")
    (hw : walkOk t.place = true) (hQ : ∀ h', Heap.ExtBut I s.heap h' → Q Option.none { s with heap := h' }) :
    wpAny (model prog w) A (pyNext (.ref I)) Q E s := by
  have hT : s.TypeIs (.ref I) "set_iterator" := ⟨_, it, rfl⟩
  unfold pyNext
  refine wpAny_bind (wpAny_attempt (wpAny_callSpecial?_slot (name := Str.ofString "__next__") hT slot_si_next (wpAny_call_entry slot_si_next hT entry_si_next ?_ (args_si_next _))))
  show wpAny _ _ (fieldsOf (.ref I) >>= _) _ _ s
  refine wpAny_bind (wpAny_fieldsOf it rfl ?_)
  show wpAny _ _ (setEntries D >>= _) _ _ s
  refine wpAny_bind (wpAny_setEntries_of ho rfl hf ?_)
  show wpAny _ _ (if (((es.size : Nat) : Int) != ((es.size : Nat) : Int)) = true then _ else _) _ _ s
  rw [if_neg (by first | exact nn | exact lb rfl | simp)]
  show wpAny _ _ (setNext D ((slotAt w t es.size : Nat) : Int).toNat ((es.size : Nat) : Int).toNat ((ep : Nat) : Int).toNat >>= _) _ _ s
  simp only [Int.toNat_natCast]
  refine wpAny_bind (setNext_at ho hf hp hl hw (Nat.le_refl _) ?_)
  have hz : (walkOf w D ep es).size = es.size := by rw [← Array.length_toList, (walkOf_perm w D ep es).length_eq, Array.length_toList]
  have hg : (walkOf w D ep es)[es.size]? = Option.none := by simp [hz]
  rw [hg]
  dsimp only [Option.map_none]
  refine wpAny_bind (wpAny_setField_rec it (by first | exact nn | exact lb rfl | simp) fun h₁ it₁ hs₁ => ?_)
  show wpAny _ _ (newExc (.type "StopIteration") [] >>= _) _ _ _
  refine wpAny_bind ?_
  simp only [newExc, newTuple]
  refine wpAny_bind (wpAny_newObj_type ?_ (by size_fits))
  refine wpAny_bind (m := firstArgMember _ _) (wpAny_of_eq (a := Value.none) (by first | rfl | (simp only [firstArgMember]; rfl)) ?_)
  refine wpAny_newObj_type ?_ (by size_fits)
  simp only [raiseNew]
  refine wpAny_bind (wpAny_handled ?_)
  rw [show A.in1.handled = Option.none from hh]
  refine wpAny_bind (wpAny_pure (wpAny_throw ?_))
  refine wpAny_bind (wpAny_isInstance (T := "StopIteration") (b := true) ⟨_, Heap.get?_push_size _ rfl, rfl⟩ isSubtype_stop (wpAny_pure ?_))
  exact hQ _ ((hs₁.extBut.push _).push _)

theorem Walks.set (hh : A.handled = Option.none) (hne : D ≠ I) (hf : t.fits es.size = true) (hp : t.plain = true) (hl : t.led = !w.params.followText "set-order") (hw : walkOk t.place = true) :
    Walks prog w A I [I, D] [I] es.size (fun i v => ((walkOf w D ep es)[i]?).map (·.2) = some v) (fun i h => IsSetIter w h I D ep es.size t i ∧ h.get? D = some (setObj es ep t)) where
  sub := fun b hb => by simp at hb; simp [hb]
  frame := fun _ _ _ st hk => ⟨hk I (by first | exact nn | exact lb rfl | simp) _ st.1, hk D (by first | exact nn | exact lb rfl | simp) _ st.2⟩
  item := fun i s Q E hi st hQ => by
    have hz : (walkOf w D ep es).size = es.size := by rw [← Array.length_toList, (walkOf_perm w D ep es).length_eq, Array.length_toList]
    have hg : ((walkOf w D ep es)[i]?).map (·.2) = some ((walkOf w D ep es)[i].2) := by simp [hz, hi]
    refine pyNext_set_item st.2 st.1 hf hp hl hw hi hg fun h' it' hs' => ?_
    exact hQ _ h' s.toks hg ⟨it', hs'.extBut _ _ hne st.2⟩ fun b o hb e => hs'.extBut b o (fun h => hb (by simp [h])) e
  done := fun s Q E st hQ => pyNext_set_end hh st.2 st.1 hf hp hl hw fun h' he' => hQ h' s.toks fun b o hb e => he' b o (fun h => hb (by simp [h])) e
  self := fun i s Q E st hQ => by
    have hT : s.TypeIs (.ref I) "set_iterator" := ⟨_, st.1, rfl⟩
    refine wpAny_pyIter_slot hT slot_si_iter (wpAny_call_entry slot_si_iter hT entry_si_iter ?_ (args_si_iter _))
    show wpAny _ _ (ret (.ref I)) _ _ s
    exact wpAny_pure ⟨_, rfl, "set_iterator", _, hT, slot_si_next.lookup, hQ⟩

theorem pyIter_set {Q : Value → Shared → Prop} (ho : s.heap.get? D = some (setObj es ep t)) (hf : t.fits es.size = true) (hp : t.plain = true)
    (hQ : ∀ o, o.isFreed = false → (∀ h', h'.get? s.heap.objs.size = some o → IsSetIter w h' s.heap.objs.size D ep es.size t 0) → Q (.ref s.heap.objs.size) { s with heap := s.heap.push o }) : wpAny (model prog w) A (pyIter (.ref D)) Q E s := by
  have hT : s.TypeIs (.ref D) "set" := ⟨_, ho, rfl⟩
  refine wpAny_pyIter_slot hT PySem.F.slot_set_iter (wpAny_call_entry PySem.F.slot_set_iter hT entry_set_iter ?_ (args_set_iter _))
  unfold Builtin.«frozenset.__iter__»
  show wpAny _ _ (Builtin.Frozenset.sizeOf D >>= _) _ _ s
  unfold Builtin.Frozenset.sizeOf
  refine wpAny_bind (wpAny_bind (wpAny_setEntries_of ho rfl hf (wpAny_pure ?_)))
  unfold setDrawn
  refine wpAny_bind (wpAny_bind (wpAny_setState_of ho rfl hf ?_))
  dsimp only
  unfold setsByText
  refine wpAny_bind (wpAny_bind (wpAny_askSetting (wpAny_pure ?_)))
  have hd : (!w.params.followText "set-order" && (!t.plain && decide (es.size > 1))) = false := by rw [hp]; simp
  refine wpAny_pure ?_
  show wpAny _ _ (if (!w.params.followText "set-order" && (!t.plain && decide (es.size > 1))) = true then _ else _) _ _ s
  rw [hd]
  simp only [Bool.false_eq_true, if_false]
  refine wpAny_bind (wpAny_pure ?_)
  refine wpAny_bind (wpAny_setEpoch_of ho rfl hf ?_)
  refine wpAny_bind (wpAny_newObj_type (wpAny_pure ⟨_, rfl, "set_iterator", _, ⟨_, Heap.get?_push_size _ rfl, rfl⟩, slot_si_next.lookup, ?_⟩))
  refine hQ _ rfl fun h' e => ?_
  have h0 : slotAt w t 0 = 0 := by unfold slotAt nxt; split <;> rfl
  show h'.get? _ = _
  rw [e, h0]
  rfl

theorem isSub_set : isSubtype (.type "set") (.type "set") = pure true := sub_set_self


theorem collect_set {Q : List Value → Shared → Prop} (hh : A.handled = Option.none) (ho : s.heap.get? D = some (setObj es ep t)) (hf : t.fits es.size = true) (hp : t.plain = true) (hl : t.led = !w.params.followText "set-order") (hw : walkOk t.place = true) (hz : es.size ≤ 1000)
    (hQ : ∀ h' tk acc, (∀ b o, s.heap.get? b = some o → h'.get? b = some o) → acc.Perm (es.toList.map (·.2)) → Q acc { s with heap := h', toks := tk }) : wpAny (model prog w) A (collect (.ref D)) Q E s := by
  unfold collect
  refine wpAny_bind (wpAny_runValue (codeAny_builtin PySem.F.entry_proto_collect ?_))
  rw [Around.under_plainId PySem.F.plain_proto_collect _]
  show wpAny _ A.in1 (newList [] >>= fun l => again (.builtin "list.__iadd__" ⟨[l, .ref D], []⟩)) _ _ s
  refine wpAny_bind (wpAny_newObj_type ?_)
  refine wpAny_pure ⟨plainId_quiet PySem.F.plain_list_iadd _, codeAny_builtin PySem.F.entry_list_iadd ?_⟩
  rw [Around.under_plainId PySem.F.plain_list_iadd _]
  show wpAny _ A.in1 (Builtin.List.listExtendWith (.ref s.heap.objs.size) (.ref D) (.ref s.heap.objs.size)) _ _ _
  unfold Builtin.List.listExtendWith
  have hDlt : D < s.heap.objs.size := Heap.lt_size ho
  have ho₁ : (s.heap.push { cls := .type "list", data := .seq ([] : List Value).toArray }).get? D = some (setObj es ep t) := Heap.get?_push_of_some _ ho
  refine wpAny_bind (wpAny_typeOf (T := "set") ⟨_, ho₁, rfl⟩ ?_)
  have h1 : Builtin.List.listSameRef (.ref s.heap.objs.size) (.ref D) = false := by
    have : (s.heap.objs.size == D) = false := by simpa using Nat.ne_of_gt hDlt
    simpa [Builtin.List.listSameRef] using this
  have h2 : (Value.type "set" == Value.type "list") = false := by decide
  have h3 : (Value.type "set" == Value.type "tuple") = false := by decide
  simp only [h1, h2, h3, Bool.or_false, Bool.false_eq_true, if_false]
  refine wpAny_bind (pyIter_set ho₁ hf hp fun oI hoI hI => ?_)
  refine wpAny_bind (wpAny_holding ?_)
  unfold Builtin.List.listLengthHint
  have hT₂ : Shared.TypeIs ({ s with heap := (s.heap.push { cls := .type "list", data := .seq ([] : List Value).toArray }).push oI } : Shared) (.ref D) "set" := ⟨_, Heap.get?_push_of_some _ ho₁, rfl⟩
  refine wpAny_bind (wpAny_specialOf hT₂ PySem.F.slot_set_len.lookup ?_)
  have hsp : splitId "set.__len__" = some ("set", "__len__") := by kernel_rfl
  dsimp only
  rw [hsp]
  dsimp only
  refine wpAny_bind (wpAny_isInstance hT₂ isSub_set ?_)
  rw [if_neg (by first | exact nn | exact lb rfl | simp), if_pos (by decide +kernel)]
  refine wpAny_bind (wpAny_typeOf hT₂ ?_)
  dsimp only
  refine wpAny_pure ?_
  rw [if_pos (by decide +kernel)]
  refine wpAny_bind (wpAny_rule ?_)
  have hS₁ : (s.heap.push { cls := .type "list", data := .seq ([] : List Value).toArray }).get? s.heap.objs.size = some { cls := .type "list", data := .seq ([] : List Value).toArray } := Heap.get?_push_size _ rfl
  generalize hH1 : s.heap.push { cls := .type "list", data := .seq ([] : List Value).toArray } = h₁ at *
  have hz1 : h₁.objs.size = s.heap.objs.size + 1 := by rw [← hH1]; exact Heap.size_push ..
  have hI1 : (h₁.push oI).get? h₁.objs.size = some oI := Heap.get?_push_size _ hoI
  have it1 := hI _ hI1
  have hS₁' : (h₁.push oI).get? s.heap.objs.size = some { cls := .type "list", data := .seq ([] : List Value).toArray } := Heap.get?_push_of_some _ hS₁
  generalize hH2 : h₁.push oI = h₂ at *
  have keep2 : ∀ b o, s.heap.get? b = some o → h₂.get? b = some o := fun b o e => by rw [← hH2, ← hH1]; exact Heap.get?_push_of_some _ (Heap.get?_push_of_some _ e)
  refine wpAny_bind ?_
  show wpAny _ A.in1 (updateSeq s.heap.objs.size (·.push .none) >>= fun _ => updateSeq s.heap.objs.size (·.pop)) _ _ _
  refine wpAny_bind (wpAny_updateSeq hS₁' rfl ?_)
  have hS₂ := Heap.get?_update_self (Obj.mapSeq (·.push Value.none)) hS₁' rfl
  refine wpAny_updateSeq hS₂ rfl ?_
  have hS₃ := Heap.get?_update_self (Obj.mapSeq (·.pop)) hS₂ rfl
  have oth : ∀ b o, b ≠ s.heap.objs.size → h₂.get? b = some o → ((h₂.update s.heap.objs.size (Obj.mapSeq (·.push Value.none))).update s.heap.objs.size (Obj.mapSeq (·.pop))).get? b = some o :=
    fun b o hb e => (Heap.get?_update_other _ _ (Ne.symm hb)).trans ((Heap.get?_update_other _ _ (Ne.symm hb)).trans e)
  generalize hH3 : (h₂.update s.heap.objs.size (Obj.mapSeq (·.push Value.none))).update s.heap.objs.size (Obj.mapSeq (·.pop)) = h₃ at *
  have neD : D ≠ s.heap.objs.size := Nat.ne_of_lt hDlt
  have neI : h₁.objs.size ≠ s.heap.objs.size := by rw [hz1]; exact Nat.ne_of_gt (Nat.lt_succ_self _)
  have neDI : D ≠ h₁.objs.size := by rw [hz1]; exact Nat.ne_of_lt (Nat.lt_succ_of_lt hDlt)
  have W : WalksS prog w A.in1 h₁.objs.size [h₁.objs.size, D] [h₁.objs.size] (fun a b => b = a) es.size (fun i v => ((walkOf w D ep es)[i]?).map (·.2) = some v) (fun i s => IsSetIter w s.heap h₁.objs.size D ep es.size t i ∧ s.heap.get? D = some (setObj es ep t)) :=
    (Walks.set (prog := prog) (A := A.in1) (ep := ep) (show A.in1.handled = Option.none from hh) neDI hf hp hl hw).toS
  have hSf : s.heap.objs.size ∉ [h₁.objs.size, D] := by simp [Ne.symm neI, Ne.symm neD]
  refine wpAny_pure ⟨plainId_quiet PySem.F.plain_extend_loop _, codeAny_extend_loopS W (by rw [sizeLine_eq]; (first | assumption | decide | exact le0 (by assumption) (by decide) | exact le1 (by assumption) (by decide) | exact le2 (by assumption) (by assumption) (by decide) | lia | omega)) _ hSf _ es.size 0 _ _ _ rfl (Nat.zero_le _) ⟨oth _ _ neI it1, oth _ _ neD (keep2 _ _ ho)⟩ hS₃ (ItemsOf.nil _) fun s' acc' c' hm hS' hacc => ?_⟩
  show wpAny _ A (load s.heap.objs.size >>= _) _ _ s'
  refine wpAny_bind (wpAny_load hS' (wpAny_pure ?_))
  obtain ⟨h', g', d', tk', os'⟩ := s'
  have eg : g' = s.gens := hm.gens
  have ed : d' = s.drawn := hm.drawn
  have eo : os' = s.os := hm.os
  subst eg; subst ed; subst eo
  refine hQ h' tk' acc'.toList (fun b o e => ?_) ?_
  · have hb := Heap.lt_size e
    refine hm.heap b o (fun hb' => ?_) (oth b o (Nat.ne_of_lt hb) (keep2 b o e))
    rcases List.mem_cons.mp hb' with rfl | hb'
    · exact absurd hb (Nat.lt_irrefl _)
    · rw [List.mem_singleton.mp hb', hz1] at hb
      exact absurd hb (Nat.not_lt_of_le (Nat.le_succ _))
  · have e : acc'.toList = (walkOf w D ep es).toList.map (·.2) := by
      apply List.ext_getElem?
      intro i
      rw [List.getElem?_map, Array.getElem?_toList, Array.getElem?_toList]
      have hzw : (walkOf w D ep es).size = es.size := by rw [← Array.length_toList, (walkOf_perm w D ep es).length_eq, Array.length_toList]
      by_cases hi : i < es.size
      · have hi' : i < acc'.size := by rw [hacc.1]; exact hi
        have h1 : acc'[i]? = some acc'[i] := by simp [hi']
        rw [h1]
        exact (hacc.2 i _ h1).symm
      · have h1 : acc'[i]? = Option.none := by simp [hacc.1]; (first | assumption | decide | exact le0 (by assumption) (by decide) | exact le1 (by assumption) (by decide) | exact le2 (by assumption) (by assumption) (by decide) | lia | omega)
        have h2 : (walkOf w D ep es)[i]? = Option.none := by simp [hzw]; (first | assumption | decide | exact le0 (by assumption) (by decide) | exact le1 (by assumption) (by decide) | exact le2 (by assumption) (by assumption) (by decide) | lia | omega)
        rw [h1, h2]; rfl
    rw [e]
    exact (walkOf_perm w D ep es).map _
end
end Mine

-- part L28
namespace Mine
open PySem PySem.W PySem.Calls PySem.SeqAt PyProof.Rows

section
variable {C : Cx} {A : Around} {E : Value → Shared → Prop} {s : Shared}

theorem call_sorted {v : Value} {P : List Value → Prop} {Q : Value → Shared → Prop} (h3 : ∃ o, s.heap.get? 3 = some o)
    (hcol : ∀ (A' : Around) (Q' : List Value → Shared → Prop) (E' : Value → Shared → Prop), A'.handled = A.handled → (∀ h' tk acc, (∀ b o, s.heap.get? b = some o → h'.get? b = some o) → P acc → Q' acc { s with heap := h', toks := tk }) → wpAny (model C.prog C.w) A' (collect v) Q' E' s)
    (k : ∀ acc, P acc → acc.length ≤ 1000 ∧ ∃ out : List Value, SortsTo C s.heap acc out ∧ ∀ D h' tk, s.heap.get? D = Option.none → 4 ≤ D → (∀ b o, s.heap.get? b = some o → h'.get? b = some o) → h'.PlainList D out.toArray → Q (.ref D) { s with heap := h', toks := tk }) :
    wpAny (model C.prog C.w) A (call (.builtin "sorted") [v]) Q E s := by
  refine Calls.call_function_entry kind_sorted plain_sorted entry_sorted (args_sorted1 _) ?_
  unfold Builtin.«sorted»
  refine wpAny_bind (m := checkCount "sorted" 1 1 _) (wpAny_pure ?_)
  refine wpAny_bind (hcol _ _ _ rfl fun h₁ tk₁ acc keep hP => ?_)
  obtain ⟨hlen, out, hs, k⟩ := k acc hP
  refine wpAny_bind (wpAny_newList ?_ (by rw [sizeLine_eq]; (first | assumption | decide | exact le0 (by assumption) (by decide) | exact le1 (by assumption) (by decide) | exact le2 (by assumption) (by assumption) (by decide) | lia | omega)))
  have hoL : (h₁.push (seqObj "list" acc.toArray 0)).get? h₁.objs.size = some (seqObj "list" acc.toArray 0) := Heap.get?_push_size _ rfl
  have big : 4 ≤ h₁.objs.size := by
    obtain ⟨o, e⟩ := h3
    exact Heap.lt_size (keep _ _ e)
  have none₀ : s.heap.get? h₁.objs.size = Option.none := by
    cases e : s.heap.get? h₁.objs.size with
    | none => rfl
    | some o => exact absurd (Heap.lt_size (keep _ _ e)) (Nat.lt_irrefl _)
  show wpAny _ _ _ _ _ { s with heap := h₁.push (seqObj "list" acc.toArray 0), toks := tk₁ }
  have keep₂ : ∀ b o, s.heap.get? b = some o → (h₁.push (seqObj "list" acc.toArray 0)).get? b = some o := fun b o e => Heap.get?_push_of_some _ (keep b o e)
  refine wpAny_bind (wpAny_holding (wpAny_call_entry slot_list_sort ⟨_, hoL, rfl⟩ entry_list_sort (hs _ _ _ h₁.objs.size 0 _ (fun b o e => ⟨keep₂ b o e, fun q => ?_⟩) hoL ⟨_, rfl, ?_⟩) (args_list_sort _)))
  · rw [q, none₀] at e; cases e
  · refine wpAny_pure ⟨_, rfl, k h₁.objs.size _ tk₁ none₀ big ?_ ?_⟩
    · intro b o e
      have hne : b ≠ h₁.objs.size := fun q => by rw [q, none₀] at e; cases e
      unfold sortedHeap
      rw [Heap.get?_update_ne _ _ _ _ hne]
      refine Heap.get?_push_of_some _ (Heap.get?_push_of_some _ ?_)
      rw [Heap.get?_update_ne _ _ _ _ hne]
      exact keep₂ b o e
    · unfold sortedHeap
      have h1 : ((h₁.push (seqObj "list" acc.toArray 0)).update h₁.objs.size (Obj.mapSeq fun _ => (#[] : Array Value))).get? h₁.objs.size = some (seqObj "list" #[] _) := get?_update_seq hoL fun _ => #[]
      have h2 := Heap.get?_push_of_some (seqObj "tuple" acc.toArray 0) h1
      have h3 := Heap.get?_push_of_some (seqObj "list" #[] 0) h2
      exact ⟨_, get?_update_seq h3 fun _ => out.toArray⟩
end

section
variable {C : Cx} {n : Nat} {sc : Scope} {ρ : List (Str × AV)} {env : Env} {As : List Addr} {σ : List AO} {s : Shared} {A : Around} {E : Value → Shared → Prop} {recs : List DefRec}


noncomputable def ItemsOfAVS (σ : List AO) (a : AV) (m : List AV) : Prop := ItemsOfAV σ a m ∨ ∃ k, a = .ref k ∧ σ[k]? = some (.set m)

theorem RepL.perm {h : Heap} : ∀ {l : List AV} {vs ws : List Value}, RepL h As l vs → ws.Perm vs → ∃ m, m.Perm l ∧ RepL h As m ws := fun {l vs ws} r p => by
  induction p generalizing l with
  | nil => exact ⟨l, List.Perm.refl _, r⟩
  | cons x _ ih =>
    cases l with
    | nil => unfold RepL at r; cases r
    | cons a l =>
      unfold RepL at r
      obtain ⟨v, q, e, r1, r2⟩ := r
      cases e
      obtain ⟨m, hm, r3⟩ := ih r2
      exact ⟨a :: m, hm.cons a, RepL.cons r1 r3⟩
  | swap x y l' =>
    cases l with
    | nil => unfold RepL at r; cases r
    | cons a l =>
      unfold RepL at r
      obtain ⟨v, q, e, r1, r2⟩ := r
      cases e
      cases l with
      | nil => unfold RepL at r2; cases r2
      | cons b l =>
        unfold RepL at r2
        obtain ⟨v, q, e, r3, r4⟩ := r2
        cases e
        exact ⟨b :: a :: l, List.Perm.swap _ _ _, RepL.cons r3 (RepL.cons r1 r4)⟩
  | trans _ _ ih1 ih2 =>
    obtain ⟨m, hm, r1⟩ := ih2 r
    obtain ⟨k, hk, r2⟩ := ih1 r1
    exact ⟨k, hk.trans hm, r2⟩

theorem cv_sorted {a : AV} {m : List AV} {Q : AV → List AO → Prop} (z : ItemsOfAVS σ a m) (hlen : m.length ≤ 1000)
    (h : ∀ (m' : List AV), m'.Perm m → ∀ (h : Heap) (As : List Addr) (vs : List Value), RepL h As m' vs → ∃ out ys, SortsTo C h vs out ∧ RepL h As ys out ∧ Q (.ref σ.length) (σ ++ [.list ys])) : CallV C n (.builtin "sorted") [a] σ Q := ⟨fun A R As s E vs S r => by
  obtain ⟨v, rfl, r0⟩ := one r
  clear r
  have h3 : ∃ o, s.heap.get? 3 = some o := by obtain ⟨o, e⟩ := C.g3; exact ⟨o, S.base _ _ e⟩
  refine call_sorted (C := C) (P := fun acc => ∃ m', m'.Perm m ∧ RepL s.heap As m' acc) h3 (fun A' Q' E' hA' k => ?_) fun acc ⟨m', hm, r⟩ => ⟨by rw [r.length, hm.length_eq]; exact hlen, ?_⟩
  · rcases z with z | ⟨k', rfl, hk⟩
    · obtain ⟨l, T, items, c, rfl, hT, hl, r⟩ := src_at S z r0
      exact wpAny_collect_seq l hT hl rfl rfl (fun h' keep => k h' s.toks _ keep ⟨m, List.Perm.refl _, r⟩) (by rw [← Array.length_toList, r.length, sizeLine_eq]; (first | assumption | decide | exact le0 (by assumption) (by decide) | exact le1 (by assumption) (by decide) | exact le2 (by assumption) (by assumption) (by decide) | lia | omega))
    · unfold Rep at r0
      obtain ⟨D, rfl, e⟩ := r0
      obtain ⟨es, ep, t, ho, G, r⟩ := S.obj k' D _ e hk
      refine collect_set (hA'.trans R.hd) ho G.fits G.plain G.led G.walk (by have := G.few; (first | assumption | decide | exact le0 (by assumption) (by decide) | exact le1 (by assumption) (by decide) | exact le2 (by assumption) (by assumption) (by decide) | lia | omega)) fun h' tk acc keep hp => k h' tk acc keep ?_
      obtain ⟨m', hm', r'⟩ := r.perm hp
      exact ⟨m', hm', r'⟩
  · obtain ⟨out, ys, hs, ry, q⟩ := h m' hm s.heap As acc r
    refine ⟨out, hs, fun D h' tk hD h4 keep pl => ?_⟩
    have fresh : ∀ b vs, b ∉ As → TupAt s.heap b vs → b ∉ As ++ [D] ∧ TupAt h' b vs := fun b vs hb t => by
      obtain ⟨c, e⟩ := id t
      refine ⟨fun hm => ?_, c, keep _ _ e⟩
      rcases List.mem_append.mp hm with hm | hm
      · exact hb hm
      · rw [List.mem_singleton.mp hm] at e
        unfold IsT at e
        rw [hD] at e; cases e
    obtain ⟨S', X'⟩ := S.add (tk := tk) (o := .list ys) keep hD h4 ⟨out.toArray, pl, by simpa using RepL.imp (X := [D]) fresh ry⟩
    refine ⟨_, _, _, X', S', q, ?_⟩
    unfold Rep
    refine ⟨_, rfl, ?_⟩
    rw [← S.len]; simp⟩

theorem perm_ints : ∀ {xs : List Int} {m : List AV}, m.Perm (xs.map AV.int) → ∃ ys : List Int, m = ys.map AV.int ∧ ys.Perm xs := fun {xs m} p => by
  have : ∀ a ∈ m, ∃ i, a = AV.int i := fun a ha => by
    obtain ⟨i, _, e⟩ := List.mem_map.mp (p.mem_iff.mp ha)
    exact ⟨i, e.symm⟩
  let f : AV → Int := fun a => match a with | .int i => i | _ => 0
  have e1 : m = (m.map f).map AV.int := by
    rw [List.map_map]
    conv => lhs; rw [← List.map_id m]
    apply List.map_congr_left
    intro a ha
    obtain ⟨i, rfl⟩ := this a ha
    rfl
  refine ⟨m.map f, e1, ?_⟩
  have := p.map f
  rw [List.map_map] at this
  have e2 : (f ∘ AV.int) = id := rfl
  rw [e2, List.map_id] at this
  exact this


theorem cv_sorted_ints {a : AV} {xs : List Int} {Q : AV → List AO → Prop} (z : ItemsOfAVS σ a (xs.map AV.int)) (h5 : xs.length ≤ 5)
    (h : ∀ ys : List Int, ys.Perm xs → ys.Pairwise (· ≤ ·) → Q (.ref σ.length) (σ ++ [.list (ys.map AV.int)])) : CallV C n (.builtin "sorted") [a] σ Q :=
  cv_sorted z (by first | exact map_le (by assumption) (by decide) | (rw [List.length_map]; (first | assumption | decide | exact le0 (by assumption) (by decide) | exact le1 (by assumption) (by decide) | exact le2 (by assumption) (by assumption) (by decide) | lia | omega))) fun m' hm h'' As vs r => by
    obtain ⟨zs, rfl, hz⟩ := perm_ints hm
    obtain ⟨out, ys, hs, hp, pw, ry⟩ := sort_ints (C := C) r (by rw [hz.length_eq]; exact h5)
    exact ⟨out, _, hs, ry, h ys (hp.trans hz) (pw.imp fun {a b} q => by simpa using q)⟩

theorem perm_tups : ∀ {xs : List (List Int)} {m : List AV}, m.Perm (xs.map fun l => AV.tup (l.map .int)) → ∃ ys : List (List Int), m = ys.map (fun l => AV.tup (l.map .int)) ∧ ys.Perm xs := fun {xs m} p => by
  have : ∀ a ∈ m, ∃ l : List Int, a = AV.tup (l.map .int) := fun a ha => by
    obtain ⟨i, _, e⟩ := List.mem_map.mp (p.mem_iff.mp ha)
    exact ⟨i, e.symm⟩
  let f : AV → List Int := fun a => match a with | .tup l => l.map (fun a => match a with | .int i => i | _ => 0) | _ => []
  have hf : ∀ l : List Int, f (AV.tup (l.map .int)) = l := fun l => by
    show (l.map AV.int).map _ = l
    rw [List.map_map]
    conv => rhs; rw [← List.map_id l]
    apply List.map_congr_left
    intro a _
    rfl
  have e1 : m = (m.map f).map (fun l => AV.tup (l.map .int)) := by
    rw [List.map_map]
    conv => lhs; rw [← List.map_id m]
    apply List.map_congr_left
    intro a ha
    obtain ⟨l, rfl⟩ := this a ha
    simp only [Function.comp, hf, id]
  refine ⟨m.map f, e1, ?_⟩
  have := p.map f
  rw [List.map_map] at this
  have e2 : (f ∘ fun (l : List Int) => AV.tup (l.map .int)) = id := funext hf
  rw [e2, List.map_id] at this
  exact this


theorem cv_sorted_tups {a : AV} {xs : List (List Int)} {Q : AV → List AO → Prop} (z : ItemsOfAVS σ a (xs.map fun l => AV.tup (l.map .int))) (hne : ∀ l ∈ xs, l ≠ []) (h5 : xs.length ≤ 5)
    (h : ∀ ys : List (List Int), ys.Perm xs → ys.Pairwise (fun a b => ltI b a = false) → Q (.ref σ.length) (σ ++ [.list (ys.map fun l => AV.tup (l.map .int))])) : CallV C n (.builtin "sorted") [a] σ Q :=
  cv_sorted z (by first | exact map_le (by assumption) (by decide) | (rw [List.length_map]; (first | assumption | decide | exact le0 (by assumption) (by decide) | exact le1 (by assumption) (by decide) | exact le2 (by assumption) (by assumption) (by decide) | lia | omega))) fun m' hm h'' As vs r => by
    obtain ⟨zs, rfl, hz⟩ := perm_tups hm
    obtain ⟨out, ys, hs, hp, pw, ry⟩ := sort_tups (C := C) r (fun l hl => hne l (hz.mem_iff.mp hl)) (by rw [hz.length_eq]; exact h5)
    exact ⟨out, _, hs, ry, h ys (hp.trans hz) pw⟩

theorem perm_named : ∀ {xs : List (Str × List AV)} {m : List AV}, m.Perm (xs.map encN) → ∃ ys : List (Str × List AV), m = ys.map encN ∧ ys.Perm xs := fun {xs m} p => by
  have : ∀ a ∈ m, ∃ q : Str × List AV, a = encN q := fun a ha => by
    obtain ⟨i, _, e⟩ := List.mem_map.mp (p.mem_iff.mp ha)
    exact ⟨i, e.symm⟩
  let f : AV → Str × List AV := fun a => match a with | .tup (.str x :: l) => (x, l) | _ => (⟨#[]⟩, [])
  have hf : ∀ q, f (encN q) = q := fun q => rfl
  have e1 : m = (m.map f).map encN := by
    rw [List.map_map]
    conv => lhs; rw [← List.map_id m]
    apply List.map_congr_left
    intro a ha
    obtain ⟨l, rfl⟩ := this a ha
    rfl
  refine ⟨m.map f, e1, ?_⟩
  have := p.map f
  rw [List.map_map] at this
  have e2 : (f ∘ encN) = id := funext hf
  rw [e2, List.map_id] at this
  exact this


theorem cv_sorted_named {a : AV} {xs : List (Str × List AV)} {Q : AV → List AO → Prop} (z : ItemsOfAVS σ a (xs.map encN)) (hne : (xs.map (·.1)).Nodup) (h5 : xs.length ≤ 5)
    (h : ∀ ys : List (Str × List AV), ys.Perm xs → ys.Pairwise (fun a b => decide (b.1.cps.toList < a.1.cps.toList) = false) → Q (.ref σ.length) (σ ++ [.list (ys.map encN)])) : CallV C n (.builtin "sorted") [a] σ Q :=
  cv_sorted z (by first | exact map_le (by assumption) (by decide) | (rw [List.length_map]; (first | assumption | decide | exact le0 (by assumption) (by decide) | exact le1 (by assumption) (by decide) | exact le2 (by assumption) (by assumption) (by decide) | lia | omega))) fun m' hm h'' As vs r => by
    obtain ⟨zs, rfl, hz⟩ := perm_named hm
    obtain ⟨out, ys, hs, hp, pw, ry⟩ := sort_named (C := C) r ((hz.map (·.1)).nodup_iff.mpr hne) (by rw [hz.length_eq]; exact h5)
    exact ⟨out, _, hs, ry, h ys (hp.trans hz) pw⟩
end
end Mine

-- part L29
namespace Mine
open PySem PySem.W PySem.Calls PySem.SeqAt PyProof.Rows


noncomputable def addT (st : Array Int × SetTable) (h : Int) : Option (Array Int × SetTable) :=
  match st.2.probe (fun i => (st.1[i]?).getD 0) h (st.2.probeStart h) with
  | some (.empty j Option.none) =>
    let t' := (st.2.put j).1
    let hs' := SetTable.insertAt st.1 (st.2.put j).2 h
    if t'.tooFull || !t'.fits hs'.size || Nat.beq (st.2.mask % 2) 0 then Option.none else some (hs', t')
  | _ => Option.none
noncomputable def runT : Array Int × SetTable → List Int → Option (Array Int × SetTable)
  | st, [] => some st
  | st, h :: r => match addT st h with
    | some st' => runT st' r
    | Option.none => Option.none
noncomputable def hashL (ks : List Int) : Int := reduceHash (Builtin.Tuple.tupleHashOf (ks.map hashInt))
noncomputable def rowSeqs : List (List (List Int)) := (List.range 16).flatMap fun m => [[[1, 0], [0, 0], [1, 1], [0, 1]], [[0, 1], [0, 0], [1, 1], [1, 0]]].map fun (base : List (List Int)) =>
  (base.zipIdx.filter fun p => Nat.beq (m / 2 ^ p.2 % 2) 1).map (·.1)
theorem seqOk : ([true, false].all fun led => rowSeqs.all fun xs => match runT (#[], .fresh 0 0 led) (xs.map hashL) with
  | some st => walkOk st.2.place && st.2.fits xs.length && st.2.plain && (st.2.led == led) && Nat.ble xs.length 4
  | Option.none => false) = true := by decide +kernel

theorem runT_snoc {h : Int} : ∀ {l : List Int} {st : Array Int × SetTable}, runT st (l ++ [h]) = (runT st l).bind fun st' => addT st' h
  | [], st => by
    show (match addT st h with | some st' => runT st' [] | Option.none => Option.none) = addT st h
    cases addT st h <;> rfl
  | a :: l, st => by
    show (match addT st a with | some st' => runT st' (l ++ [h]) | Option.none => Option.none) = (match addT st a with | some st' => runT st' l | Option.none => Option.none).bind _
    cases addT st a with
    | none => rfl
    | some st' => exact runT_snoc
theorem runT_take {st : Array Int × SetTable} {l : List Int} {r} (h : runT st l = some r) : ∀ i, ∃ r', runT st (l.take i) = some r' := by
  intro i
  induction l generalizing st i with
  | nil => exact ⟨st, by simp [runT]⟩
  | cons a l ih =>
    cases i with
    | zero => exact ⟨st, rfl⟩
    | succ i =>
      unfold runT at h
      cases ha : addT st a with
      | none => rw [ha] at h; cases h
      | some st' =>
        rw [ha] at h
        obtain ⟨r', hr'⟩ := ih h i
        exact ⟨r', by rw [List.take_succ_cons]; unfold runT; rw [ha]; exact hr'⟩

section
variable {prog : Program} {w : World} {A : Around} {E : Value → Shared → Prop} {s : Shared}

theorem hashByValue_tup {a : Addr} {ks : List Int} {Q : Bool → Shared → Prop} (hk : IsTupleKey (intKind prog w) s.heap ks a) (h : Q true s) : wpAny (model prog w) A (hashByValue 8 (.ref a)) Q E s := by
  have hT := hk.typeIs
  obtain ⟨o, items, n, ho, hc, hd, hi⟩ := hk
  unfold hashByValue
  refine wpAny_bind (wpAny_specialOf hT PySem.F.slot_tuple_hash.lookup ?_)
  dsimp only
  refine wpAny_bind (wpAny_seqItems ho hd ?_)
  refine wpAny_bind ?_
  show wpAny _ _ (forIn items _ _) _ _ s
  rw [← Array.forIn_toList]
  refine wpAny_forIn_list _ (fun rest r s' => r.1 = Option.none ∧ s' = s ∧ ∃ l, ItemsAre (intKind prog w) l rest) _ ?_ ?_ _ _ ⟨rfl, rfl, ks, hi⟩
  · rintro v rest r s' ⟨hr, rfl, l, hl⟩
    cases hl with
    | @cons k _ ks' _ h1 hl' =>
      obtain ⟨t, rfl⟩ := Value.isInt_shape (show Value.isInt k v = true from h1)
      rw [hashByValue_scannable 7 (show Value.scannable (.int k t) = true from rfl)]
      refine wpAny_bind (wpAny_pure ?_)
      rw [if_neg (by simp [plainKind])]
      exact wpAny_pure ⟨rfl, rfl, _, hl'⟩
  · rintro ⟨r1, r2⟩ s' ⟨hr, rfl, _⟩
    simp only at hr
    subst hr
    exact wpAny_pure h

theorem add_tup {a x : Addr} {es : Array (Int × Value)} {ep : Nat} {t tF : SetTable} {ks : List Int} {hs : Array Int} {Q : Bool → Shared → Prop} (hu : A.units < cLine) (hk : IsTupleKey (intKind prog w) s.heap ks x) (ho : s.heap.get? a = some (setObj es ep t))
    (hf : t.fits es.size = true) (hp : t.plain = true) (hz : es.size ≤ 10) (hl : addT (es.map (·.1), t) (hashL ks) = some (hs, tF))
    (h : ∀ h' es' ep' tk, Heap.SameBut a s.heap h' → h'.get? a = some (setObj es' ep' tF) → es'.map (·.1) = hs → es'.toList.Perm (es.toList ++ [(hashL ks, .ref x)]) → tF.fits es'.size = true → tF.plain = true → Q true { s with heap := h', toks := tk }) :
    wpAny (model prog w) A (setAdd a (.ref x)) Q E s := by
  unfold setAdd
  refine wpAny_holding ?_
  refine wpAny_bind (wpAny_pyHash_tuple (knd := intKind prog w) hu hk ?_)
  show wpAny (model prog w) A (setAddHashed a (.ref x) (hashL ks)) Q E _
  unfold setAddHashed setAddHashedIn
  refine wpAny_holding (wpAny_bind (wpAny_setState_of ho rfl hf ?_))
  dsimp only
  have hb : byScan (.ref x) es = false := rfl
  rw [hb]
  simp only [Bool.false_eq_true, if_false]
  unfold addT at hl
  dsimp only at hl
  cases hpr : t.probe (fun i => ((es.map (fun (e : Int × Value) => e.1))[i]?).getD 0) (hashL ks) (t.probeStart (hashL ks)) with
  | none => rw [hpr] at hl; cases hl
  | some met =>
  rw [hpr] at hl
  cases met with
  | candidate j i next => cases hl
  | empty j dum =>
  cases dum with
  | some d => cases hl
  | none =>
  dsimp only at hl
  have hfun : (fun (i : Nat) => ((es.map (fun (e : Int × Value) => e.1))[i]?).getD 0) = fun (i : Nat) => (es[i]?.map (fun (e : Int × Value) => e.1)).getD 0 := by funext i; simp
  rw [hfun] at hpr
  by_cases hc : ((t.put j).1.tooFull || !(t.put j).1.fits (SetTable.insertAt (es.map (·.1)) (t.put j).2 (hashL ks)).size || Nat.beq (t.mask % 2) 0) = true
  · rw [if_pos hc] at hl; cases hl
  rw [if_neg hc] at hl
  simp only [Option.some.injEq, Prod.mk.injEq] at hl
  obtain ⟨e1, e2⟩ := hl
  simp only [Bool.or_eq_true, Bool.not_eq_true', not_or, Bool.not_eq_true, Bool.not_eq_false] at hc
  obtain ⟨⟨hfull, hfits⟩, hmask⟩ := hc
  have hgw : t.gaveWay = false := by
    unfold SetTable.gaveWay
    have : ¬ t.mask % 2 = 0 := fun q => by rw [q] at hmask; cases hmask
    simpa using this
  unfold setSearch setSearchFrom
  refine wpAny_bind ?_
  refine wpAny_bind (wpAny_setState_of ho rfl hf ?_)
  dsimp only
  rw [hgw]
  simp only [Bool.false_eq_true, if_false]
  generalize hg : t.probe _ _ _ = met
  have hmet : met = some (.empty j Option.none) := hg.symm.trans hpr
  subst hmet
  dsimp only
  refine wpAny_pure ?_
  dsimp only
  refine wpAny_bind (wpAny_setState_of ho rfl hf ?_)
  dsimp only
  have hp' : (t.put j).1.plain = true := hp
  rw [if_pos hp']
  refine wpAny_bind (hashByValue_tup (s := { s with toks := s.toks + (ks.length + 1) }) hk ?_)
  simp only [if_true]
  have hm : (SetTable.insertAt es (t.put j).2 (hashL ks, Value.ref x)).map (fun (e : Int × Value) => e.1) = SetTable.insertAt (es.map (fun (e : Int × Value) => e.1)) (t.put j).2 (hashL ks) := insertAt_map _ _ _ _
  have hsz : (SetTable.insertAt es (t.put j).2 (hashL ks, Value.ref x)).size = es.size + 1 := by
    rw [← Array.length_toList, (SetTable.insertAt_perm ..).length_eq, Array.length_toList, Array.size_push]
  have perm := SetTable.insertAt_perm es (t.put j).2 (hashL ks, Value.ref x)
  rw [Array.toList_push] at perm
  have hf1 : (t.put j).1.fits (SetTable.insertAt es (t.put j).2 (hashL ks, Value.ref x)).size = true := by
    rw [← hm, Array.size_map] at hfits; exact hfits
  refine wpAny_bind (store_at (s := { s with toks := s.toks + (ks.length + 1) }) ho (by rw [hsz]; (first | assumption | decide | exact le0 (by assumption) (by decide) | exact le1 (by assumption) (by decide) | exact le2 (by assumption) (by assumption) (by decide) | lia | omega)) fun h₁ ep₁ hs₁ ho₁ => ?_)
  rw [if_neg (by simp [hfull])]
  refine wpAny_pure ?_
  rw [e2] at ho₁ hp' hf1
  exact h h₁ _ ep₁ _ hs₁ ho₁ (hm.trans e1) perm hf1 hp'
end

theorem itemsAre {prog : Program} {w : World} : ∀ {vs : List Value} {ks : List Int}, IntsAre vs ks → ItemsAre (intKind prog w) ks vs
  | _, _, .nil => .nil
  | _, _, .cons n t r => .cons (intKind_is _ _ _ _) (itemsAre r)
theorem tupKey {C : Cx} {h : Heap} {As : List Addr} {ks : List Int} {v : Value} (r : Rep h As (.tup (ks.map .int)) v) : ∃ x, v = .ref x ∧ IsTupleKey (intKind C.prog C.w) h ks x := by
  unfold Rep at r
  obtain ⟨a, vs, rfl, _, ⟨k, e⟩, r⟩ := r
  refine ⟨a, rfl, _, vs, k, e, rfl, rfl, ?_⟩
  exact itemsAre (repl_ints r)

section
variable {C : Cx} {n : Nat} {sc : Scope} {ρ : List (Str × AV)} {env : Env} {As : List Addr} {σ : List AO} {s : Shared} {A : Around} {E : Value → Shared → Prop} {recs : List DefRec}

theorem cv_set_pairs {a : AV} {xs : List (List Int)} {Q : AV → List AO → Prop} (z : ItemsOfAV σ a (xs.map fun l => AV.tup (l.map .int))) (hx : xs ∈ rowSeqs)
    (h : ∀ m : List AV, m.Perm (xs.map fun l => AV.tup (l.map .int)) → Q (.ref σ.length) (σ ++ [.set m])) : CallV C n (.type "set") [a] σ Q := ⟨fun A R As s E vs S r => by
  obtain ⟨v, rfl, r0⟩ := one r
  clear r
  obtain ⟨l, T, items, c, rfl, hT, hl, r⟩ := src_at S z r0
  have hz : items.size = xs.length := by rw [← Array.length_toList, r.length, List.length_map]
  have ok := List.all_eq_true.mp (List.all_eq_true.mp seqOk (!C.w.params.followText "set-order") (bool_mem _)) xs hx
  cases hrun : runT (#[], .fresh 0 0 (!C.w.params.followText "set-order")) (xs.map hashL) with
  | none => rw [hrun] at ok; cases ok
  | some st =>
  rw [hrun] at ok
  simp only [Bool.and_eq_true, beq_iff_eq] at ok
  obtain ⟨⟨⟨⟨ok1, ok2⟩, ok3⟩, ok4⟩, ok5⟩ := ok
  have ok5 := Nat.le_of_ble_eq_true ok5
  refine call_set hT R.hd hl (fun i es t => runT (#[], .fresh 0 0 (!C.w.params.followText "set-order")) ((xs.take i).map hashL) = some (es.map (fun (e : Int × Value) => e.1), t) ∧ (es.toList.map (·.2)).Perm (items.toList.take i) ∧ t.fits es.size = true ∧ t.plain = true)
    ⟨by simp [runT], by simp, by generalize (!C.w.params.followText "set-order") = b; cases b <;> decide +kernel, rfl⟩ (fun A' i x es t s' D ep Q' E' hA' hx inv hg keep k => ?_) fun h' tk es ep t hg inv keep => ?_
  · obtain ⟨inv, hp, hf, hpl⟩ := inv
    have hi : i < xs.length := by rw [← hz]; exact (Array.getElem?_eq_some_iff.mp hx).1
    have hu : xs[i]? = some xs[i] := by simp [hi]
    obtain ⟨x', hx', rx⟩ := r.get (i := i) (a := .tup (xs[i].map .int)) (by simp [hi])
    have : x' = x := by
      rw [Array.getElem?_toList, hx] at hx'
      exact (Option.some.inj hx').symm
    subst this
    have hsz : es.size ≤ 4 := by
      have := hp.length_eq
      rw [List.length_map, Array.length_toList, List.length_take, Array.length_toList] at this
      (first | assumption | decide | exact le0 (by assumption) (by decide) | exact le1 (by assumption) (by decide) | exact le2 (by assumption) (by assumption) (by decide) | lia | omega)
    obtain ⟨y, rfl, hk⟩ := tupKey (C := C) (rx.same (h' := s'.heap) fun b vs _ ⟨k, e⟩ => ⟨k, keep _ _ e⟩)
    have h1 : (xs.take (i + 1)).map hashL = (xs.take i).map hashL ++ [hashL xs[i]] := by rw [List.take_add_one, hu, List.map_append]; rfl
    obtain ⟨r', hr'⟩ := runT_take hrun (i + 1)
    rw [← List.map_take, h1, runT_snoc, inv] at hr'
    have hadd : addT (es.map (fun (e : Int × Value) => e.1), t) (hashL xs[i]) = some r' := hr'
    refine add_tup (hs := r'.1) (tF := r'.2) (by have := R.un; (first | assumption | decide | exact le0 (by assumption) (by decide) | exact le1 (by assumption) (by decide) | exact le2 (by assumption) (by assumption) (by decide) | lia | omega)) hk hg hf hpl (by (first | assumption | decide | exact le0 (by assumption) (by decide) | exact le1 (by assumption) (by decide) | exact le2 (by assumption) (by assumption) (by decide) | lia | omega)) hadd fun h' es' ep' tk hs' ho' hm' hp' hf' hpl' => k true h' es' ep' _ tk hs' ho' ⟨?_, ?_, hf', hpl'⟩
    · rw [h1, runT_snoc, inv]
      show addT _ _ = _
      rw [hadd, hm']
    · have := hp'.map (·.2)
      rw [List.map_append] at this
      refine this.trans ?_
      have h2 : items.toList.take (i + 1) = items.toList.take i ++ [.ref y] := by
        rw [List.take_add_one, Array.getElem?_toList, hx]; rfl
      rw [h2]
      exact hp.append_right _
  · obtain ⟨inv, hp, hf, hpl⟩ := inv
    rw [hz, List.take_length, hrun] at inv
    have e : st = (es.map (fun (e : Int × Value) => e.1), t) := Option.some.inj inv
    subst e
    have hpi : (es.toList.map (·.2)).Perm items.toList := by
      rw [show items.size = items.toList.length from Array.length_toList.symm, List.take_length] at hp; exact hp
    obtain ⟨m, hm, rm⟩ := r.perm hpi
    have hes : es.size = xs.length := by rw [← Array.length_toList, ← List.length_map (·.2), hpi.length_eq, Array.length_toList, hz]
    obtain ⟨S', X'⟩ := S.add (tk := tk) (o := .set m) keep S.fresh.2.2 S.big ⟨es, ep, t, hg, ⟨hf, hpl, ok4, ok1, by (first | assumption | decide | exact le0 (by assumption) (by decide) | exact le1 (by assumption) (by decide) | exact le2 (by assumption) (by assumption) (by decide) | lia | omega)⟩, by
      have := RepL.imp (h' := h') (X := [s.heap.objs.size]) (fun b vs hb t => by
        obtain ⟨c, e⟩ := id t
        refine ⟨fun hm => ?_, c, keep _ _ e⟩
        rcases List.mem_append.mp hm with hm | hm
        · exact hb hm
        · rw [List.mem_singleton.mp hm] at e
          exact absurd (Heap.lt_size e) (Nat.lt_irrefl _)) rm
      exact this⟩
    refine ⟨_, _, _, X', S', h m hm, ?_⟩
    unfold Rep
    refine ⟨_, rfl, ?_⟩
    rw [← S.len]; simp⟩
end
end Mine

-- part L30
namespace Mine
open PySem PySem.W PySem.Calls PySem.SeqAt PyProof.Rows

section
variable {prog : Program} {w : World} {A : Around} {E : Value → Shared → Prop} {s : Shared}
theorem adjust_to (a b n : Nat) (ha : a ≤ b) (hb : b ≤ n) : Builtin.Slice.sliceAdjust (some (a : Int)) (some (b : Int)) 1 (n : Int) = ((a : Int), (b : Int)) := by
  unfold Builtin.Slice.sliceAdjust
  have h1 : ¬ ((1 : Int) < 0) := by (first | assumption | decide | exact le0 (by assumption) (by decide) | exact le1 (by assumption) (by decide) | exact le2 (by assumption) (by assumption) (by decide) | lia | omega)
  have h2 : ¬ ((a : Int) < 0) := by (first | assumption | decide | exact le0 (by assumption) (by decide) | exact le1 (by assumption) (by decide) | exact le2 (by assumption) (by assumption) (by decide) | lia | omega)
  have h3 : ¬ ((b : Int) < 0) := by (first | assumption | decide | exact le0 (by assumption) (by decide) | exact le1 (by assumption) (by decide) | exact le2 (by assumption) (by assumption) (by decide) | lia | omega)
  simp only [h1, h2, h3, if_false]
  congr 1
  · (first | assumption | decide | exact le0 (by assumption) (by decide) | exact le1 (by assumption) (by decide) | exact le2 (by assumption) (by assumption) (by decide) | lia | omega)
  · (first | assumption | decide | exact le0 (by assumption) (by decide) | exact le1 (by assumption) (by decide) | exact le2 (by assumption) (by assumption) (by decide) | lia | omega)

theorem applied {sl : Addr} {a n e : Nat} {u : Tok} {vu : Value} {ub : Option Nat} {Q : Int × Int × Nat → Shared → Prop} (hs : s.heap.IsSliceOf sl (.int a u) vu .none) (pu : IsPart vu (ub.map Int.ofNat)) (he : ub.getD n = e) (ha : a ≤ e) (hn : e ≤ n) (h : Q ((a : Int), 1, e - a) s) :
    wpAny (model prog w) A (Builtin.Slice.sliceApplied (.ref sl) (pure (n : Int))) Q E s := by
  cases ub with
  | none =>
    simp only [Option.getD_none] at he
    subst he
    simp only [Option.map_none] at pu
    cases pu
    exact sliceApplied_from hs ha h
  | some b =>
    simp only [Option.getD_some] at he
    subst he
    simp only [Option.map_some] at pu
    cases pu with
    | int _ u' =>
    obtain ⟨os, hos, hcs, hds⟩ := id hs
    unfold Builtin.Slice.sliceApplied Builtin.Slice.sliceFields
    refine wpAny_bind (wpAny_bind (wpAny_field hos hds (x := .int a u) rfl (wpAny_bind (wpAny_field hos hds (x := .int (Int.ofNat b) u') rfl (wpAny_bind (wpAny_field hos hds (x := .none) rfl (wpAny_pure ?_)))))))
    refine wpAny_bind (slicePart_none ?_)
    show wpAny _ _ (if ((1 : Int) == 0) = true then _ else _) _ _ s
    rw [if_neg (by decide)]
    refine wpAny_bind (slicePart_int (wpAny_bind (slicePart_int (wpAny_bind (wpAny_pure ?_)))))
    show wpAny _ _ (match Builtin.Slice.sliceAdjust (some (a : Int)) (some (b : Int)) 1 (n : Int) with | (lo, hi) => pure (lo, (1 : Int), Builtin.Slice.slicePlaces lo hi 1)) _ _ s
    rw [adjust_to a b n ha hn]
    show wpAny _ _ (pure ((a : Int), (1 : Int), Builtin.Slice.slicePlaces (a : Int) (b : Int) 1)) _ _ s
    rw [places_from a b ha]
    exact wpAny_pure h

theorem pick_to (xs : Array Value) (a e : Nat) (ha : a ≤ e) (he : e ≤ xs.size) : ((List.range (e - a)).filterMap fun (k : Nat) => xs[((a : Int) + (k : Int) * 1).toNat]?).toArray = ((xs.toList.drop a).take (e - a)).toArray := by
  have h : (fun (k : Nat) => xs[((a : Int) + (k : Int) * 1).toNat]?) = fun k => xs[a + k]? := by
    funext k
    have : ((a : Int) + (k : Int) * 1).toNat = a + k := by (first | assumption | decide | exact le0 (by assumption) (by decide) | exact le1 (by assumption) (by decide) | exact le2 (by assumption) (by assumption) (by decide) | lia | omega)
    rw [this]
  rw [h]
  have := pick_run xs a (e - a)
  rw [List.filterMap_map] at this
  have e2 : ((fun x => xs[x]?) ∘ fun x => a + x) = fun k => xs[a + k]? := rfl
  rw [e2] at this
  rw [this]

theorem getItem_tup_slice {t sl : Addr} {items : Array Value} {a e : Nat} {u : Tok} {vu : Value} {ub : Option Nat} {Q : Value → Shared → Prop} (ht : IsTup s.heap t items) (hs : s.heap.IsSliceOf sl (.int a u) vu .none) (pu : IsPart vu (ub.map Int.ofNat)) (he : ub.getD items.size = e)
    (h1 : 1 ≤ a) (ha : a ≤ e) (hn : e ≤ items.size) (hsz : items.size ≤ 1000) (h : Q (.ref s.heap.objs.size) { s with heap := s.heap.push { cls := .type "tuple", data := .seq ((items.toList.drop a).take (e - a)).toArray } }) :
    wpAny (model prog w) A (getItem (.ref t) (.ref sl)) Q E s := by
  have hdrop : sizeOk (.seq ((items.toList.drop a).take (e - a)).toArray) := by
    show ((items.toList.drop a).take (e - a)).toArray.size ≤ sizeLine
    rw [List.size_toArray, List.length_take, List.length_drop, Array.length_toList, sizeLine_eq]
    (first | assumption | decide | exact le0 (by assumption) (by decide) | exact le1 (by assumption) (by decide) | exact le2 (by assumption) (by assumption) (by decide) | lia | omega)
  obtain ⟨os, hos, hcs, hds⟩ := id hs
  have hTs : s.TypeIs (.ref sl) "slice" := ⟨os, hos, hcs⟩
  unfold getItem
  try with_reducible refine wpAny_holding ?_
  first | refine wpAny_bind (wpAny_pure ?_) | skip
  refine wpAny_bind (wpAny_sequenceKey ht.typeIs (by decide) ?_)
  refine wpAny_bind (wpAny_callSpecial?_slot (name := Str.ofString "__getitem__") ht.typeIs slot_tuple_getitem
    (wpAny_call_entry slot_tuple_getitem ht.typeIs entry_tuple_getitem ?_ (args_tuple_getitem _ _)))
  show wpAny _ _ (Builtin.Tuple.tupleItemsOf (.ref t) >>= _) _ _ s
  refine wpAny_bind (tupleItemsOf_ ht ?_)
  refine wpAny_bind (wpAny_typeOf hTs ?_)
  rw [if_pos (by decide)]
  refine wpAny_bind (applied hs pu he ha hn ?_)
  have hno : ¬ (((a : Int) == 0 && (1 : Int) == 1 && (e - a) == items.size) = true) := by
    have : ((a : Int) == 0) = false := by rw [beq_eq_false_iff_ne]; (first | assumption | decide | exact le0 (by assumption) (by decide) | exact le1 (by assumption) (by decide) | exact le2 (by assumption) (by assumption) (by decide) | lia | omega)
    rw [this]; simp
  show wpAny _ _ (if ((a : Int) == 0 && (1 : Int) == 1 && (e - a) == items.size) = true then _ else _) _ _ s
  rw [if_neg hno, pick_to items a e ha hn]
  first
    | exact wpAny_bind (m := Builtin.Tuple.tupleExact _) (wpAny_newObj_type (wpAny_pure ⟨_, rfl, wpAny_pure h⟩) hdrop)
    | exact wpAny_bind (m := Builtin.Tuple.tupleExact _) (wpAny_newObj_type (wpAny_bind (wpAny_pure (wpAny_pure ⟨_, rfl, wpAny_pure h⟩))) hdrop)
    | exact wpAny_bind (wpAny_bind (m := Builtin.Tuple.tupleExact _) (wpAny_newObj_type (wpAny_pure (wpAny_pure ⟨_, rfl, wpAny_pure h⟩)) hdrop))
    | exact wpAny_bind (wpAny_bind (m := Builtin.Tuple.tupleExact _) (wpAny_newObj_type (wpAny_pure ⟨_, rfl, wpAny_pure h⟩) hdrop))
end

section
variable {C : Cx} {n : Nat} {sc : Scope} {ρ : List (Str × AV)} {env : Env} {As As₁ : List Addr} {σ σ₁ : List AO} {s s₁ : Shared} {A : Around} {E : Value → Shared → Prop} {recs : List DefRec}


noncomputable def isPart : Option Expr → Option Nat → Bool
  | Option.none, Option.none => true
  | some (.Constant (.int i) _ _), some a => decide (i = Int.ofNat a)
  | _, _ => false
theorem part_use {e : Option Expr} {k : Option Nat} {K : Value → Shared → Prop} (h : isPart e k = true) (R : Room n A) (F : FrameOk C sc ρ env As s.heap) (S : Sim C As σ s.heap)
    (kk : ∀ v s' As', Ext [] As s As' s' → Sim C As' σ s'.heap → FrameOk C sc ρ env As' s'.heap → IsPart v (k.map Int.ofNat) → K v s') : wpAny (model C.prog C.w) A (evalPart e env) K E s := by
  cases e with
  | none =>
    cases k with
    | none => exact wpAny_pure (kk _ _ _ Ext.refl S F .none)
    | some a => exact absurd h Bool.false_ne_true
  | some e =>
    cases k with
    | none => cases e <;> first | exact absurd h Bool.false_ne_true | (rename_i c _ _; cases c <;> exact absurd h Bool.false_ne_true)
    | some a =>
      cases e <;> try exact absurd h Bool.false_ne_true
      rename_i c kd p
      cases c <;> try exact absurd h Bool.false_ne_true
      rename_i i
      have : i = Int.ofNat a := of_decide_eq_true h
      subst this
      refine EvE.use (Q := fun v σ' => v = .int (Int.ofNat a) ∧ σ' = σ) (ev_int ⟨rfl, rfl⟩) R F S fun v s' av σ' As' X S' F' q r => ?_
      obtain ⟨rfl, rfl⟩ := q
      unfold Rep at r
      obtain ⟨t, rfl⟩ := r
      exact kk _ _ _ X S' F' (.int _ _)

theorem ev_slice_tup {x : Expr} {lo hi : Option Expr} {p pos : Pos} {a : Nat} {ub : Option Nat} {Q : AV → List AO → Prop} (hlo : isPart lo (some a) = true) (hhi : isPart hi ub = true) (h1 : 1 ≤ a)
    (h : EvE C n sc ρ x σ fun v σ₁ => ∃ l, v = .tup l ∧ a ≤ ub.getD l.length ∧ ub.getD l.length ≤ l.length ∧ l.length ≤ 1000 ∧ Q (.tup ((l.drop a).take (ub.getD l.length - a))) σ₁) : EvE C n sc ρ (.Subscript x (.Slice lo hi Option.none p) pos) σ Q := ⟨fun A R env As s E F S => by
  refine Subscript_ (EvE.use h R F S fun u s₁ av σ₁ As₁ X₁ S₁ F₁ q r₁ => ?_)
  obtain ⟨l, rfl, ha, hn, hlen, q⟩ := q
  refine wpAny_Slice (part_use hlo R F₁ S₁ fun vl s₂ As₂ X₂ S₂ F₂ pl => part_use hhi R F₂ S₂ fun vu s₃ As₃ X₃ S₃ F₃ pu => ?_)
  rw [evalPart_none]
  refine wpAny_pure ?_
  have r₃ := (r₁.ext S₁ X₂).ext S₂ X₃
  simp only [Option.map_some] at pl
  cases pl with
  | int _ tl =>
  obtain ⟨S₄, X₄⟩ := S₃.push { cls := .type "slice", data := .fields #[.int (Int.ofNat a) tl, vu, .none] }
  have r₄ := r₃.ext S₃ X₄
  unfold Rep at r₄
  obtain ⟨t, vs, rfl, _, T, r₄⟩ := r₄
  have hz : vs.size = l.length := by rw [← Array.length_toList, r₄.length]
  refine subTail ⟨_, T.choose_spec, rfl⟩ slot_tuple_getitem.lookup (getItem_tup_slice (a := a) (ub := ub) T.isTup (Heap.IsSliceOf.new ..) pu (by rw [hz]) h1 ha (by rw [hz]; exact hn) (by rw [hz]; exact hlen) ?_)
  refine PostE.lift (((X₁.trans X₂).trans X₃).trans X₄) ?_
  have rr : RepL (s₃.heap.push { cls := .type "slice", data := .fields #[.int (Int.ofNat a) tl, vu, .none] }) As₃ ((l.drop a).take (ub.getD l.length - a)) ((vs.toList.drop a).take (ub.getD l.length - a)) :=
    RepL.of_get (by rw [List.length_take, List.length_take, List.length_drop, List.length_drop, r₄.length]) fun i b v e1 e2 => by
      rw [List.getElem?_take] at e1 e2
      split at e1
      · rename_i hi'
        rw [if_pos hi'] at e2
        rw [List.getElem?_drop] at e1 e2
        obtain ⟨v', hv', rv⟩ := r₄.get e1
        rw [hv'] at e2; cases e2
        exact rv
      · cases e1
  exact PostE.tuple S₄ rr q⟩

noncomputable def strCut (x : Str) (b : Nat) : Str := if (slicePicked x Option.none (some (Int.ofNat b, 0)) Option.none).length == x.length then x else ⟨((slicePicked x Option.none (some (Int.ofNat b, 0)) Option.none).filterMap (x.cps[·]?)).toArray⟩
theorem ev_slice_str {x : Expr} {hi : Option Expr} {p pos : Pos} {b : Nat} {Q : AV → List AO → Prop} (hhi : isPart hi (some b) = true)
    (h : EvE C n sc ρ x σ fun v σ₁ => ∃ y, v = .str y ∧ (strCut y b).length ≤ 1000 ∧ Q (.str (strCut y b)) σ₁) : EvE C n sc ρ (.Subscript x (.Slice Option.none hi Option.none p) pos) σ Q := ⟨fun A R env As s E F S => by
  refine Subscript_ (EvE.use h R F S fun u s₁ av σ₁ As₁ X₁ S₁ F₁ q r₁ => ?_)
  obtain ⟨y, rfl, hlen, q⟩ := q
  unfold Rep at r₁
  obtain ⟨t, rfl⟩ := r₁
  refine wpAny_Slice (part_use (k := Option.none) rfl R F₁ S₁ fun vl s₂ As₂ X₂ S₂ F₂ pl => part_use hhi R F₂ S₂ fun vu s₃ As₃ X₃ S₃ F₃ pu => ?_)
  rw [evalPart_none]
  refine wpAny_pure ?_
  simp only [Option.map_none] at pl
  simp only [Option.map_some] at pu
  cases pl
  cases pu with
  | int _ tu =>
  obtain ⟨S₄, X₄⟩ := S₃.push { cls := .type "slice", data := .fields #[.none, .int (Int.ofNat b) tu, .none] }
  refine subTail (typeIs_str _ y t) PySem.F.slot_str_getitem.lookup (wpAny_getItem_str_slice (l := Option.none) (u := some (Int.ofNat b, tu)) (st := Option.none) ⟨_, Heap.get?_push_size _ rfl, rfl, rfl⟩ rfl ?_)
  unfold sliceMade
  have e1 : slicePicked y Option.none (some (Int.ofNat b, tu)) Option.none = slicePicked y Option.none (some (Int.ofNat b, 0)) Option.none := rfl
  rw [e1]
  have X := ((X₁.trans X₂).trans X₃).trans X₄
  unfold strCut at q hlen
  by_cases hc : ((slicePicked y Option.none (some (Int.ofNat b, 0)) Option.none).length == y.length) = true
  · rw [if_pos hc] at q
    rw [if_pos (by simpa using hc)]
    exact PostE.lift X (PostE.now S₄ q ⟨_, rfl⟩)
  · rw [if_neg hc] at q hlen
    rw [if_neg (by simpa using hc)]
    exact ⟨Nat.le_trans hlen (by rw [sizeLine_eq]; decide), PostE.lift X (PostE.here (tk := s₃.toks + 1) S₄ q ⟨_, rfl⟩)⟩⟩
end
end Mine

-- part L31
namespace Mine
open PySem PySem.W PySem.Calls PySem.SeqAt PyProof.Rows

section
variable {C : Cx} {n : Nat} {sc : Scope} {ρ : List (Str × AV)} {env : Env} {As As₁ : List Addr} {σ σ₁ : List AO} {s s₁ : Shared} {A : Around} {E : Value → Shared → Prop} {recs : List DefRec}

theorem evi_enum {tgt e : Expr} {f : Str} {p pos : Pos} {Q : List AV → (List AO → Prop) → List AO → Prop} (hC : C.Ok recs) (hx : sc.names.lookup f = some .globalImplicit) (hf : f = "enumerate") (hs : ([e]).all (fun e => !isStarred e) = true) (ht : isTupT tgt = true)
    (h : EvE C n sc ρ e σ fun a σ' => ∃ m, a = .tup m ∧ Q (m.zipIdx.map fun p => AV.tup [.int p.2, p.1]) (fun _ => True) σ') : EvI C n sc ρ tgt (.Call (.Name f p) [e] [] pos) σ Q := ⟨fun A R env As s E F S => by
  subst hf
  have hl : EvL C n sc ρ [e] σ fun l σ' => ∃ m, l = [.tup m] ∧ Q (m.zipIdx.map fun p => AV.tup [.int p.2, p.1]) (fun _ => True) σ' := h.mono fun a σ' ⟨m, e, q⟩ => ⟨m, by rw [e], q⟩
  refine call_use hC hx (.inr ⟨hC.free _ (by decide +kernel), (hC.builtins _ (by decide +kernel)).trans (show bootBuiltins "enumerate" = some (.type "enumerate") by decide +kernel)⟩) (.inr (.inl ⟨_, rfl⟩)) hl hs (by decide +kernel) R F S fun vs s₁ avs σ₁ As₁ X₁ S₁ q r => ?_
  obtain ⟨m, rfl, q⟩ := q
  obtain ⟨v, rfl, r1⟩ := one r
  clear r
  have r0 := r1
  unfold Rep at r1
  obtain ⟨t, vs, rfl, htA, ⟨k, eT⟩, _⟩ := r1
  have M : Makes C.prog C.w (.ref t) { cls := .type "tuple_iterator", data := .fields #[.ref t, .int 0 0] } s₁.heap := fun A s Q E keep q => wpAny_pyIter_tuple (TupAt.isTuple ⟨k, keep _ _ eT⟩) q
  refine callType_newIn PySem.F.called_enumerate (by decide) (PySem.F.typeCall_enumerate_1 _) (PySem.F.newCall_enumerate_1 _) (fun obj => PySem.F.args_object_init_2 obj _) PySem.F.entry_enumerate_new (enum_new_in M) ⟨fun _ _ e => e, ?_⟩
  have hz : (s₁.heap.push { cls := .type "tuple_iterator", data := .fields #[.ref t, .int 0 0] }).objs.size = s₁.heap.objs.size + 1 := Heap.size_push ..
  have keep : ∀ b o, s₁.heap.get? b = some o → ((s₁.heap.push { cls := .type "tuple_iterator", data := .fields #[.ref t, .int 0 0] }).push { cls := .type "enumerate", data := .fields #[.none, .bool false, .ref s₁.heap.objs.size, rawInt 0, .none, .none] }).get? b = some o :=
    fun b o e => Heap.get?_push_of_some _ (Heap.get?_push_of_some _ e)
  have he := Heap.get?_push_size (s₁.heap.push { cls := .type "tuple_iterator", data := .fields #[.ref t, .int 0 0] }) (o := { cls := .type "enumerate", data := .fields #[.none, .bool false, .ref s₁.heap.objs.size, rawInt 0, .none, .none] }) rfl
  have hi : ((s₁.heap.push { cls := .type "tuple_iterator", data := .fields #[.ref t, .int 0 0] }).push { cls := .type "enumerate", data := .fields #[.none, .bool false, .ref s₁.heap.objs.size, rawInt 0, .none, .none] }).get? s₁.heap.objs.size = some _ :=
    Heap.get?_push_of_some _ (Heap.get?_push_size _ rfl)
  rw [hz] at he
  generalize hH : (s₁.heap.push { cls := .type "tuple_iterator", data := .fields #[.ref t, .int 0 0] }).push { cls := .type "enumerate", data := .fields #[.none, .bool false, .ref s₁.heap.objs.size, rawInt 0, .none, .none] } = H at *
  show _ ∧ _
  rw [hz]
  refine ⟨⟨_, he, rfl⟩, ?_⟩
  show wpAny _ _ _ _ _ { s₁ with heap := H }
  refine wpAny_pyIter_enum (i := 0) (old := .none) he ?_
  obtain ⟨S₂, X₂⟩ := S₁.grow (tk := s₁.toks) keep
  have none' : ∀ j, s₁.heap.get? (s₁.heap.objs.size + j) = Option.none := fun j => by
    cases e : s₁.heap.get? (s₁.heap.objs.size + j) with
    | none => rfl
    | some o => exact absurd (Heap.lt_size e) (Nat.not_lt_of_le (Nat.le_add_right _ _))
  have fr : ∀ j, s₁.heap.objs.size + j ∉ As₁ := fun j hm => by
    obtain ⟨i, o, _, _, ob⟩ := S₁.at hm
    obtain ⟨oo, e, _⟩ := ob.ex
    rw [none' j] at e; cases e
  have hB : ∀ j, C.B.get? (s₁.heap.objs.size + j) = Option.none := fun j => by
    cases e : C.B.get? (s₁.heap.objs.size + j) with
    | none => rfl
    | some o => have := S₁.base _ _ e; rw [none' j] at this; cases this
  have old : ∀ j, s.heap.get? (s₁.heap.objs.size + j) = Option.none := fun j => Ext.none (X := X₁) (fr j) (none' j)
  have ht' : t < s₁.heap.objs.size := Heap.lt_size eT
  have hne : s₁.heap.objs.size + 1 ≠ s₁.heap.objs.size := addr_ne (j := 0) (by decide)
  refine ⟨s₁.heap.objs.size + 1, _, _, _, _, _, _, _, _, σ₁, As₁, rfl, enumIt (C := C) (t := t) (items := m) R ht hne (Nat.ne_of_lt (Nat.lt_succ_of_lt ht')) (Nat.ne_of_lt ht') (fun a ha => ?_), X₁.trans X₂, S₂, RepL.cons (r0.grow keep) RepL.nil, ⟨⟨_, he⟩, ⟨_, hi, rfl, rfl⟩⟩, fun a ha => ?_, q⟩
  · simp at ha
    rcases ha with rfl | rfl
    · exact hB 1
    · exact hB 0
  · simp at ha
    rcases ha with rfl | rfl
    · exact ⟨fr 1, old 1, _, he⟩
    · exact ⟨fr 0, old 0, _, hi⟩⟩


theorem Sim.adoptO {h : Heap} {D : Addr} {o : AO} (S : Sim C As σ h) (hD : D ∉ As) (hB : C.B.get? D = Option.none) (h4 : 4 ≤ D) (ho : ObjAt C h As D o) (hT : ∀ vs, ¬ h.IsTuple D vs) : Sim C (As ++ [D]) (σ ++ [o]) h := by
  have rep : ∀ {l vs}, RepL h As l vs → RepL h (As ++ [D]) l vs := fun {l vs} r => RepL.imp (fun b vs hb t => by
    refine ⟨fun hm => ?_, t⟩
    rcases List.mem_append.mp hm with hm | hm
    · exact hb hm
    · simp at hm; subst hm
      exact hT _ t.isTuple) r
  refine ⟨S.base, by simp [S.len], ?_, ?_, ?_, fun i b ob h1 h2 => ?_⟩
  · rw [List.nodup_append]
    exact ⟨S.nodup, by simp, fun x hx y hy e => by simp at hy; subst hy; subst e; exact hD hx⟩
  · intro x hx
    rcases List.mem_append.mp hx with hx | hx
    · exact S.off x hx
    · simp at hx; subst hx; exact hB
  · intro x hx
    rcases List.mem_append.mp hx with hx | hx
    · exact S.hi x hx
    · simp at hx; subst hx; exact h4
  · by_cases hi : i < As.length
    · rw [List.getElem?_append_left hi] at h1
      rw [List.getElem?_append_left (S.len ▸ hi)] at h2
      exact (S.obj i b ob h1 h2).by rep fun _ e => e
    · have : i = As.length := by
        obtain ⟨hl, _⟩ := List.getElem?_eq_some_iff.mp h1
        simp at hl
        (first | assumption | decide | exact le0 (by assumption) (by decide) | exact le1 (by assumption) (by decide) | exact le2 (by assumption) (by assumption) (by decide) | lia | omega)
      subst this
      simp at h1
      rw [S.len] at h2
      simp at h2
      subst h1 h2
      exact ho.by rep fun _ e => e

theorem ev_dict0 {pos : Pos} {Q : AV → List AO → Prop} (h : Q (.ref σ.length) (σ ++ [.dictI [] 0])) : EvE C n sc ρ (.Dict [] [] pos) σ Q := ⟨fun A R env As s E F S => by
  refine wpAny_Dict_empty ?_
  have keep : ∀ b x, s.heap.get? b = some x → (s.heap.push { cls := .type "dict", data := .dict #[] }).get? b = some x := fun b x e => Heap.get?_push_of_some _ e
  obtain ⟨S', X⟩ := S.add (tk := s.toks) (o := .dictI [] 0) keep S.fresh.2.2 S.big ⟨[], ⟨_, #[], Heap.get?_push_size _ rfl, ⟨rfl, rfl, rfl⟩, rfl, fun _ he => by simp at he, Pairs.nil, List.nodup_nil⟩, RepK.nil⟩
  refine ⟨_, _, _, X, S', h, ?_⟩
  unfold Rep
  refine ⟨_, rfl, ?_⟩
  rw [← S.len]; simp⟩
end
end Mine

-- part L32
namespace Mine
open PySem PySem.W PySem.Calls PySem.SeqAt PyProof.Rows

section
variable {C : Cx} {n : Nat} {sc : Scope} {ρ : List (Str × AV)} {env : Env} {As As₁ As₂ : List Addr} {σ σ₁ : List AO} {s s₁ s₂ : Shared} {A : Around} {E : Value → Shared → Prop} {recs : List DefRec}

theorem Ext.adopt {D : Addr} (X : Ext [] As s As₂ s₂) (hD : D ∉ As) (h0 : s.heap.get? D = Option.none) : Ext [] As s (As₂ ++ [D]) s₂ := by
  obtain ⟨Y, rfl, hY⟩ := X.more
  refine ⟨X.same, X.keep, Y ++ [D], by simp, fun a ha => ?_⟩
  rcases List.mem_append.mp ha with ha | ha
  · exact hY a ha
  · rw [List.mem_singleton.mp ha]
    exact ⟨hD, by simp, h0⟩


theorem fill_dict {K : Type} [DecidableEq K] {knd : KeyKind C.prog C.w K} {kvs : List (K × Value)} {D : Addr} {h' : Heap} {tk : Nat} {o : AO} {Q : AV → List AO → Prop} (X : Ext [] As s As₁ s₁) (S : Sim C As₁ σ₁ s₁.heap) (hD : D ∉ As₁) (hB : C.B.get? D = Option.none) (h4 : 4 ≤ D) (h0 : s.heap.get? D = Option.none)
    (hd : s₁.heap.DictOf knd D []) (hd' : h'.DictOf knd D kvs) (hs : Heap.SameBut D s₁.heap h') (ho : (∀ {l vs}, RepL s₁.heap As₁ l vs → RepL h' As₁ l vs) → ObjAt C h' As₁ D o) (q : Q (.ref σ₁.length) (σ₁ ++ [o])) : PostE C As s Q (.ref D) { s₁ with heap := h', toks := tk } := by
  have hT : ∀ vs, ¬ s₁.heap.IsTuple D vs := fun vs t => by
    obtain ⟨o, es, ep, e, c, d⟩ := DictOf_cls hd
    obtain ⟨o', e', _, _, d'⟩ := t
    rw [e] at e'; cases e'; rw [d] at d'; cases d'
  obtain ⟨S', Y, tup⟩ := S.touch (tk := tk) hD hB hT hs
  have hDA : D ∉ As := fun hm => by
    obtain ⟨Z, e, _⟩ := X.more
    exact hD (e ▸ List.mem_append_left _ hm)
  have hob := ho fun {l vs} r => r.same tup
  have hT' : ∀ vs, ¬ h'.IsTuple D vs := fun vs t => by
    obtain ⟨o, es, ep, e, c, d⟩ := DictOf_cls hd'
    obtain ⟨o', e', _, _, d'⟩ := t
    rw [e] at e'; cases e'; rw [d] at d'; cases d'
  have X' : Ext [] As s As₁ { s₁ with heap := h', toks := tk } := ((X.addR (P := [D]) fun a ha => by rw [List.mem_singleton.mp ha]; exact hD).trans Y).drop fun a ha => by
    have ha : a ∈ [D] := by simpa using ha
    rw [List.mem_singleton.mp ha]; exact h0
  refine ⟨_, _, _, X'.adopt hDA h0, S'.adoptO hD hB h4 hob hT', q, ?_⟩
  unfold Rep
  refine ⟨_, rfl, ?_⟩
  rw [← S.len]; simp


theorem ev_dict2 {k₁ k₂ v₁ v₂ : Expr} {pos : Pos} {Q : AV → List AO → Prop}
    (h : EvE C n sc ρ k₁ σ fun a σ₁ => EvE C n sc ρ v₁ σ₁ fun b σ₂ => EvE C n sc ρ k₂ σ₂ fun c σ₃ => EvE C n sc ρ v₂ σ₃ fun d σ₄ => ∃ i j, a = .int i ∧ c = .int j ∧ ∀ ep, Q (.ref σ₄.length) (σ₄ ++ [.dictI (setI (setI [] i b) j d) ep])) :
    EvE C n sc ρ (.Dict [some k₁, some k₂] [v₁, v₂] pos) σ Q := ⟨fun A R env As s E F S => by
  refine wpAny_Dict_walk (knd := intKind C.prog C.w) rfl rfl (by first | exact nn | exact lb rfl | simp) (by first | exact nn | exact lb rfl | simp) ?_
  obtain ⟨S₀, X₀⟩ := S.push { cls := .type "dict", data := .dict #[] }
  have d₀ := Heap.DictOf.new (knd := intKind C.prog C.w) s.heap
  have fr := S.fresh
  generalize hH : s.heap.push { cls := .type "dict", data := .dict #[] } = H at *
  have F₀ := F.ext S X₀
  generalize hs₀ : ({ s with heap := H } : Shared) = s₀ at *
  have e₀ : s₀.heap = H := by rw [← hs₀]
  rw [← e₀] at S₀ d₀
  refine evalPairs_cons (EvE.use h R F₀ S₀ fun u₁ s₁ a σ₁ As₁ X₁ S₁ F₁ q₁ r₁ => ?_)
  refine wpAny_bind (EvE.use q₁ R F₁ S₁ fun w₁ s₂ b σ₂ As₂ X₂ S₂ F₂ q₂ r₂ => wpAny_bind (wpAny_standAt (wpAny_pure ?_)))
  refine evalPairs_cons (EvE.use q₂ R F₂ S₂ fun u₂ s₃ c σ₃ As₃ X₃ S₃ F₃ q₃ r₃ => ?_)
  refine wpAny_bind (EvE.use q₃ R F₃ S₃ fun w₂ s₄ d σ₄ As₄ X₄ S₄ F₄ q₄ r₄ => wpAny_bind (wpAny_standAt (wpAny_pure ?_)))
  refine evalPairs_nil ?_
  obtain ⟨i, j, rfl, rfl, q₅⟩ := q₄
  unfold Rep at r₁ r₃
  obtain ⟨t₁, rfl⟩ := r₁
  obtain ⟨t₃, rfl⟩ := r₃
  have X := ((X₁.trans X₂).trans X₃).trans X₄
  have X' := (X₀.trans X)
  have hD₄ : s.heap.objs.size ∉ As₄ := X.apart (P := [s.heap.objs.size]) (fun a ha => by
    rw [List.mem_singleton.mp ha]
    obtain ⟨o, _, _, e, _⟩ := id d₀
    exact ⟨fr.1, o, e⟩) _ (List.mem_singleton.mpr rfl)
  have d₄ : s₄.heap.DictOf (intKind C.prog C.w) s.heap.objs.size [] := by
    obtain ⟨o, es, ep, e, r⟩ := d₀
    exact ⟨o, es, ep, X.keep _ o fr.1 (by first | exact nn | exact lb rfl | simp) e, r⟩
  have rb := (r₂.ext S₂ X₃).ext S₃ X₄
  refine ⟨[(i, w₁), (j, w₂)], ⟨intKind_is _ _ _ _, rfl, intKind_is _ _ _ _, rfl, trivial⟩, d₄, fun h' d' hs' => ?_⟩
  have d'' := d'
  obtain ⟨ep', dA⟩ := d'.dictAt
  refine fill_dict (knd := intKind C.prog C.w) (o := .dictI (setI (setI [] i b) j d) ep') X' S₄ hD₄ fr.2.1 S.big fr.2.2 d₄ d'' hs' (fun up => ⟨_, dA, ?_⟩) (q₅ ep')
  have one : ∀ {l vs}, RepL h' As₄ l vs → RepL h' As₄ l vs := fun r => r
  have ub : Rep h' As₄ b w₁ := by have := up (RepL.cons rb RepL.nil); unfold RepL at this; obtain ⟨v, r, e, p, _⟩ := this; cases e; exact p
  have ud : Rep h' As₄ d w₂ := by have := up (RepL.cons r₄ RepL.nil); unfold RepL at this; obtain ⟨v, r, e, p, _⟩ := this; cases e; exact p
  exact RepK.set (RepK.set RepK.nil ub) ud⟩

noncomputable def setS {α : Type} (l : List (Str × α)) (k : Str) (v : α) : List (Str × α) := if l.any (fun kv => kv.1 = k) then l.map (fun kv => if kv.1 = k then (kv.1, v) else kv) else l ++ [(k, v)]
noncomputable def getS {α : Type} (l : List (Str × α)) (k : Str) : Option α := (l.find? fun kv => kv.1 = k).map (·.2)
theorem RepK.setS {h : Heap} {As : List Addr} {k : Str} {a : AV} {v : Value} {l : List (Str × AV)} {kvs : List (Str × Value)} (x : RepK h As l kvs) (hr : Rep h As a v) : RepK h As (setS l k a) (stored kvs k v) := by
  unfold Mine.setS stored
  have e := x.any (p := fun j => decide (j = k))
  rw [e]
  split
  · exact x.setMap hr
  · exact x.snoc hr
theorem isStr (x : Str) (t : Tok) : (strKind C.prog C.w).is x (.str x t) = true := by show Value.isStrOf x (.str x t) = true; simp [Value.isStrOf]


theorem ev_dictS2 {k₁ k₂ v₁ v₂ : Expr} {pos : Pos} {Q : AV → List AO → Prop}
    (h : EvE C n sc ρ k₁ σ fun a σ₁ => EvE C n sc ρ v₁ σ₁ fun b σ₂ => EvE C n sc ρ k₂ σ₂ fun c σ₃ => EvE C n sc ρ v₂ σ₃ fun d σ₄ => ∃ i j, a = .str i ∧ c = .str j ∧ Q (.ref σ₄.length) (σ₄ ++ [.dictS (setS (setS [] i b) j d)])) :
    EvE C n sc ρ (.Dict [some k₁, some k₂] [v₁, v₂] pos) σ Q := ⟨fun A R env As s E F S => by
  refine wpAny_Dict_walk (knd := strKind C.prog C.w) rfl rfl (by first | exact nn | exact lb rfl | simp) (by first | exact nn | exact lb rfl | simp) ?_
  obtain ⟨S₀, X₀⟩ := S.push { cls := .type "dict", data := .dict #[] }
  have d₀ := Heap.DictOf.new (knd := strKind C.prog C.w) s.heap
  have fr := S.fresh
  generalize hH : s.heap.push { cls := .type "dict", data := .dict #[] } = H at *
  have F₀ := F.ext S X₀
  generalize hs₀ : ({ s with heap := H } : Shared) = s₀ at *
  have e₀ : s₀.heap = H := by rw [← hs₀]
  rw [← e₀] at S₀ d₀
  refine evalPairs_cons (EvE.use h R F₀ S₀ fun u₁ s₁ a σ₁ As₁ X₁ S₁ F₁ q₁ r₁ => ?_)
  refine wpAny_bind (EvE.use q₁ R F₁ S₁ fun w₁ s₂ b σ₂ As₂ X₂ S₂ F₂ q₂ r₂ => wpAny_bind (wpAny_standAt (wpAny_pure ?_)))
  refine evalPairs_cons (EvE.use q₂ R F₂ S₂ fun u₂ s₃ c σ₃ As₃ X₃ S₃ F₃ q₃ r₃ => ?_)
  refine wpAny_bind (EvE.use q₃ R F₃ S₃ fun w₂ s₄ d σ₄ As₄ X₄ S₄ F₄ q₄ r₄ => wpAny_bind (wpAny_standAt (wpAny_pure ?_)))
  refine evalPairs_nil ?_
  obtain ⟨i, j, rfl, rfl, q₅⟩ := q₄
  unfold Rep at r₁ r₃
  obtain ⟨t₁, rfl⟩ := r₁
  obtain ⟨t₃, rfl⟩ := r₃
  have X := ((X₁.trans X₂).trans X₃).trans X₄
  have X' := (X₀.trans X)
  have hD₄ : s.heap.objs.size ∉ As₄ := X.apart (P := [s.heap.objs.size]) (fun a ha => by
    rw [List.mem_singleton.mp ha]
    obtain ⟨o, _, _, e, _⟩ := id d₀
    exact ⟨fr.1, o, e⟩) _ (List.mem_singleton.mpr rfl)
  have d₄ : s₄.heap.DictOf (strKind C.prog C.w) s.heap.objs.size [] := by
    obtain ⟨o, es, ep, e, r⟩ := d₀
    exact ⟨o, es, ep, X.keep _ o fr.1 (by first | exact nn | exact lb rfl | simp) e, r⟩
  have rb := (r₂.ext S₂ X₃).ext S₃ X₄
  refine ⟨[(i, w₁), (j, w₂)], ⟨isStr _ _, rfl, isStr _ _, rfl, trivial⟩, d₄, fun h' d' hs' => ?_⟩
  refine fill_dict (knd := strKind C.prog C.w) (o := .dictS (setS (setS [] i b) j d)) X' S₄ hD₄ fr.2.1 S.big fr.2.2 d₄ d' hs' (fun up => ⟨_, d', ?_⟩) q₅
  have ub : Rep h' As₄ b w₁ := by have := up (RepL.cons rb RepL.nil); unfold RepL at this; obtain ⟨v, r, e, p, _⟩ := this; cases e; exact p
  have ud : Rep h' As₄ d w₂ := by have := up (RepL.cons r₄ RepL.nil); unfold RepL at this; obtain ⟨v, r, e, p, _⟩ := this; cases e; exact p
  exact RepK.setS (RepK.setS RepK.nil ub) ud⟩

-- a dict keyed by strs: read, written
theorem sub_dictS {k : Nat} {l : List (Str × AV)} {i : Str} {a : AV} {Q : AV → List AO → Prop} (hk : σ[k]? = some (.dictS l)) (ha : getS l i = some a) (h : Q a σ) : SubR C n (.ref k) (.str i) σ Q := 
  ⟨fun A R As s E u v value slice S hu hv => by
    unfold Rep at hu hv
    obtain ⟨t, rfl, e⟩ := hu; obtain ⟨tk, rfl⟩ := hv
    obtain ⟨kvs, d, r⟩ := S.obj k t _ e hk
    obtain ⟨x, hx, rx⟩ := (r.get (k := i)).1 a ha
    exact subTail d.typeIs slot_dict_getitem.lookup (wpAny_getItem_of (isStr i tk) d.mapOf hx (PostE.here S h rx))⟩
theorem set_dictS {k : Nat} {l : List (Str × AV)} {i : Str} {a : AV} {u v x : Value} {K : Unit → Shared → Prop} (S : Sim C As σ s.heap) (hk : σ[k]? = some (.dictS l)) (hu : Rep s.heap As (.ref k) u) (hi : Rep s.heap As (.str i) v) (hx : Rep s.heap As a x)
    (hl : l.length ≤ 1000) (h : ∀ s', Ext [] As s As s' → Sim C As (σ.set k (.dictS (setS l i a))) s'.heap → K () s') : wpAny (model C.prog C.w) A (setItem u v x) K E s := by
  unfold Rep at hu hi
  obtain ⟨t, rfl, e⟩ := hu; obtain ⟨tk, rfl⟩ := hi
  obtain ⟨kvs, d, r⟩ := S.obj k t _ e hk
  have hlen : kvs.length = l.length := by have := congrArg List.length r.1; simpa using this
  refine wpAny_setItem_pairs (isStr i tk) d (fun h' d' hs => ?_) (by rw [hlen, sizeLine_eq]; (first | assumption | decide | exact le0 (by assumption) (by decide) | exact le1 (by assumption) (by decide) | exact le2 (by assumption) (by assumption) (by decide) | lia | omega))
  have hT := S.tupBut (List.mem_of_getElem? e) hs
  obtain ⟨S', X⟩ := S.put (tk := s.toks + 1) e hs (o := .dictS (setS l i a)) ⟨_, d', (RepK.setS ⟨r.1, RepL.same hT r.2⟩ (hx.same hT))⟩
  exact h _ X S'
theorem ex_setS {o i e : Expr} {p pos : Pos} {Q : Option AV → List (Str × AV) → List AO → Prop}
    (h : EvE C n sc ρ e σ fun a σ₁ => EvE C n sc ρ o σ₁ fun b σ₂ => EvE C n sc ρ i σ₂ fun c σ₃ => ∃ k j l, b = .ref k ∧ c = .str j ∧ σ₃[k]? = some (.dictS l) ∧ l.length ≤ 1000 ∧ Q Option.none ρ (σ₃.set k (.dictS (setS l j a))))
    (hs : ∀ env, swapsWith e (some (.Subscript o i p)) pos.line env = pure false := by intro _; rfl) : Ex1 C n sc ρ (.Assign [.Subscript o i p] e pos) σ Q := ⟨fun A R env As s E F S => by
  refine wpAny_Assign_Subscript (EvE.use h R F S fun v s₁ a σ₁ As₁ X₁ S₁ F₁ h₁ r₁ => EvE.use h₁ R F₁ S₁ fun u s₂ b σ₂ As₂ X₂ S₂ F₂ h₂ r₂ => EvE.use h₂ R F₂ S₂ fun w s₃ c σ₃ As₃ X₃ S₃ F₃ h₃ r₃ => ?_) (hs env)
  obtain ⟨k, j, l, rfl, rfl, hk, hl, q⟩ := h₃
  refine set_dictS S₃ hk (r₂.ext S₂ X₃) r₃ ((r₁.ext S₁ X₂).ext S₂ X₃) hl fun s₄ X₄ S₄ => ?_
  exact ⟨_, _, _, _, (F.wide ((X₁.trans X₂).trans X₃)).trans (F₃.wide X₄), S₄, F₃.ext S₃ X₄, q, trivial⟩⟩
end
end Mine

-- part L33
namespace Mine
open PySem PySem.W PySem.Calls PySem.SeqAt PyProof.Rows

noncomputable def bindT : List Str → List AV → List (Str × AV) → List (Str × AV)
  | x :: xs, a :: l, ρ => bindT xs l ((x, a) :: ρ)
  | _, _, ρ => ρ

section
variable {C : Cx} {n : Nat} {sc : Scope} {ρ : List (Str × AV)} {env : Env} {As As₁ As₂ : List Addr} {σ σ₁ : List AO} {s s₁ s₂ : Shared} {A : Around} {E : Value → Shared → Prop} {recs : List DefRec}

theorem ownX_mono {xs ys : List Str} (h : ∀ x ∈ xs, x ∈ ys) : ∀ a ∈ ownX env xs, a ∈ ownX env ys := fun a ha => by
  unfold ownX at ha ⊢
  rcases List.mem_cons.mp ha with rfl | ha
  · exact List.mem_cons_self ..
  · obtain ⟨p, hp, rfl⟩ := List.mem_map.mp ha
    rw [List.mem_filter] at hp
    refine List.mem_cons_of_mem _ (List.mem_map.mpr ⟨p, List.mem_filter.mpr ⟨hp.1, ?_⟩, rfl⟩)
    have h1 : p.1 ∈ xs := by simpa using hp.2
    simpa using h _ h1

theorem assignEach_names : ∀ {es : List Expr}, es.all isName = true → ∀ env, assignEach es env = es.map fun e => (false, assign e env)
  | [], _, env => rfl
  | e :: r, h, env => by
    simp only [List.all_cons, Bool.and_eq_true] at h
    have ih := assignEach_names h.2 env
    cases e <;> first | (simp only [isName] at h; exact absurd h.1 (by decide)) | (show _ :: assignEach r env = _; rw [ih]; rfl)

theorem assign_all : ∀ {es : List Expr} {l : List AV} {vs : List Value} {ρ : List (Str × AV)} {s : Shared} {K : Unit → Shared → Prop}, es.all isName = true → es.all (fun e => isOwn sc (nm e)) = true → es.length = l.length → FrameOk C sc ρ env As s.heap → Sim C As σ s.heap → RepL s.heap As l vs →
    (∀ s', Ext (ownX env (es.map nm)) As s As s' → Sim C As σ s'.heap → FrameOk C sc (bindT (es.map nm) l ρ) env As s'.heap → K () s') → wpAny (model C.prog C.w) A (assignInOrder (es.map fun e => assign e env) vs) K E s
  | [], [], vs, ρ, s, K, _, _, _, F, S, r, k => by
    unfold RepL at r; subst r
    exact wpAny_pure (k s Ext.refl S F)
  | [], _ :: _, _, _, _, _, _, _, hl, _, _, _, _ => by simp at hl
  | _ :: _, [], _, _, _, _, _, _, hl, _, _, _, _ => by simp at hl
  | e :: es, a :: l, vs, ρ, s, K, hn, ho, hl, F, S, r, k => by
    simp only [List.all_cons, Bool.and_eq_true] at hn ho
    unfold RepL at r
    obtain ⟨v, q, rfl, ra, r⟩ := r
    cases e <;> try exact absurd hn.1 Bool.false_ne_true
    rename_i x p
    show wpAny _ _ (do holding q (assign (.Name x p) env v); assignInOrder (es.map fun e => assign e env) q) _ _ _
    refine wpAny_bind (wpAny_holding (wpAny_assign_Name (F.store S ho.1 ra fun s₁ X S₁ F₁ => ?_)))
    refine assign_all hn.2 ho.2 (by simpa using hl) F₁ S₁ (r.ext S X fun a ha => F.ownTuple a (ownX_sub a ha)) fun s₂ Y S₂ F₂ => k s₂ ?_ S₂ F₂
    refine (X.sub (ownX_mono fun y hy => ?_) fun a ha => F.ownLive a (ownX_sub a ha)).trans (Y.sub (ownX_mono fun y hy => ?_) fun a ha => F₁.ownLive a (ownX_sub a ha))
    · exact (List.mem_singleton.mp hy) ▸ List.mem_cons_self ..
    · simp only [List.map_cons, List.mem_cons]; exact .inr hy

theorem as_tup {elts : List Expr} {k : Nat} {pos : Pos} {l : List AV} {Q : List (Str × AV) → List AO → Prop} (hn : elts.all isName = true) (ho : elts.all (fun e => isOwn sc (nm e)) = true) (hl : elts.length = l.length)
    (h : Q (bindT (elts.map nm) l ρ) σ) : AsT C n sc ρ (.Tuple elts k pos) (.tup l) σ Q := ⟨fun A R env As s E v F S r => by
  unfold Rep at r
  obtain ⟨t, vs, rfl, htA, T, r⟩ := r
  have hz : vs.size = l.length := by rw [← Array.length_toList, r.length]
  have hE := assignEach_names hn env
  refine wpAny_assign_Tuple R.hd T.isTuple (by rw [hE, List.length_map, hl, hz]) (by rw [hE]; exact List.findIdx?_eq_none_iff.mpr fun x hx => by obtain ⟨e, _, rfl⟩ := List.mem_map.mp hx; rfl) fun h' hs => ?_
  have keep : ∀ b o, s.heap.get? b = some o → h'.get? b = some o := fun b o e => hs b o (Nat.ne_of_lt (Heap.lt_size e)) e
  obtain ⟨S₁, X₁⟩ := S.grow (tk := s.toks) keep
  have F₁ := F.ext S X₁
  rw [hE, List.map_map]
  refine assign_all (s := { s with heap := h' }) hn ho hl F₁ S₁ (r.grow keep) fun s₂ Y S₂ F₂ => ⟨_, _, _, (X₁.wider fun a ha => F.ownLive a (ownX_sub a ha)).trans Y, S₂, F₂, h⟩⟩

theorem ex_unpack {elts : List Expr} {k : Nat} {tpos pos : Pos} {e : Expr} {Q : Option AV → List (Str × AV) → List AO → Prop} (hn : elts.all isName = true) (ho : elts.all (fun e => isOwn sc (nm e)) = true)
    (h : EvE C n sc ρ e σ fun v σ' => ∃ l, v = .tup l ∧ elts.length = l.length ∧ Q Option.none (bindT (elts.map nm) l ρ) σ')
    (hs : ∀ env, swapsWithSole [.Tuple elts k tpos] e pos.line env = pure false := by intro _; rfl) (hw : ∀ env : Env, env.scope = sc → swappedStores [.Tuple elts k tpos] e env = pure Option.none) : Ex1 C n sc ρ (.Assign [.Tuple elts k tpos] e pos) σ Q := ⟨fun A R env As s E F S => by
  refine Assign_Tuple (EvE.use h R F S fun v s₁ a σ₁ As₁ X₁ S₁ F₁ q r => ?_) (hs env) (hw env F.scope)
  obtain ⟨l, rfl, hl, q⟩ := q
  refine wpAny_mono ((as_tup (Q := fun ρ' σ' => ρ' = bindT (elts.map nm) l ρ ∧ σ' = σ₁) (k := k) (pos := tpos) hn ho hl ⟨rfl, rfl⟩).run A R env As₁ s₁ E v F₁ S₁ r) (fun _ s₂ p => ?_) fun _ _ p => p
  obtain ⟨ρ', σ', As₂, X₂, S₂, F₂, rfl, rfl⟩ := p
  exact ⟨_, _, _, _, (F.wide X₁).trans (F₁.wideX X₂), S₂, F₂, q, trivial⟩⟩
end
end Mine

-- part L34
namespace Mine
open PySem PySem.W PySem.Calls PySem.SeqAt PyProof.Rows

theorem noFill_tup_mul : fillsNumberSlot (.type "tuple") "mul" = pure false :=
  PySem.fillsNumberSlot_seq (id := "tuple.__mul__") (r := some (.builtin "tuple.__rmul__")) PySem.F.slot_tuple_mul.lookup (by decide +kernel) PySem.F.slot_tuple_rmul.lookup (by decide +kernel)
theorem repeat_tup : seqRepeat? (.type "tuple") = pure (some (.builtin "tuple.__mul__")) := by
  unfold seqRepeat?
  rw [PySem.seqSlot_of (T := "tuple") (name := "__mul__") (id := "tuple.__mul__") PySem.F.slot_tuple_mul.lookup (by decide +kernel), PySem.seqSlot_of (T := "tuple") (name := "__rmul__") (id := "tuple.__rmul__") PySem.F.slot_tuple_rmul.lookup (by decide +kernel)]
  rfl
theorem int_rmul_tup (a : Int) (t : Tok) (l : Addr) (items : Array Value) (n : Nat) (d : Option Addr) (sl : Array (Option Value)) :
    Meets (Builtin.«int.__rmul__» ⟨[.int a t, .ref l], []⟩) (fun _ R s => s.heap.get? l = some { cls := .type "tuple", dict := d, data := .seq items n, slots := sl } ∧ R (.ok (.ret Value.notImplemented)) s) :=
  .of_wp fun prog w A R s h => by obtain ⟨hp, g, d, tk, os⟩ := s; obtain ⟨hl, h⟩ := h; wp_walk; exact ⟨_, rfl, h⟩

theorem rep_fold (x : Value) : ∀ (k : Nat) (acc : Array Value), (List.replicate k #[x]).foldl (· ++ ·) acc = acc ++ (List.replicate k x).toArray
  | 0, acc => by simp
  | k + 1, acc => by
    rw [List.replicate_succ, List.foldl_cons, rep_fold x k, List.replicate_succ]
    apply Array.toList_inj.mp
    simp

theorem tup_mul {x : Value} {l : Addr} {n k : Nat} {u : Tok} (h2 : 2 ≤ k) (hk : k ≤ 1000) :
    Meets (Builtin.«tuple.__mul__» ⟨[.ref l, .int k u], []⟩) (fun _ R s => s.heap.get? l = some (seqObj "tuple" #[x] n) ∧ R (.ok (.ret (.ref s.heap.objs.size))) { s with heap := s.heap.push { cls := .type "tuple", data := .seq (List.replicate k x).toArray } }) :=
  .of_wp fun prog w A R s h => by
    obtain ⟨hl, h⟩ := h
    show wpAny _ _ (asIndex (.int k u) >>= _) _ _ s
    refine wpAny_bind (wpAny_of_eq (a := (k : Int)) rfl ?_)
    have c1 : (decide ((k : Int) < -(2 ^ 63)) || decide ((k : Int) ≥ 2 ^ 63)) = false := by simp; (first | assumption | decide | exact le0 (by assumption) (by decide) | exact le1 (by assumption) (by decide) | exact le2 (by assumption) (by assumption) (by decide) | lia | omega)
    show wpAny _ _ (if (decide ((k : Int) < -(2 ^ 63)) || decide ((k : Int) ≥ 2 ^ 63)) = true then _ else _) _ _ s
    rw [c1]
    simp only [Bool.false_eq_true, if_false]
    show wpAny _ _ (Builtin.Tuple.tupleItemsOf (.ref l) >>= _) _ _ s
    refine wpAny_bind (wpAny_tupleItemsOf hl rfl ?_)
    have c2 : ((#[x] : Array Value).isEmpty || ((k : Int) == 1)) = false := by
      have : ((k : Int) == 1) = false := by rw [beq_eq_false_iff_ne]; (first | assumption | decide | exact le0 (by assumption) (by decide) | exact le1 (by assumption) (by decide) | exact le2 (by assumption) (by assumption) (by decide) | lia | omega)
      rw [this]; rfl
    rw [c2]
    simp only [Bool.false_eq_true, if_false]
    have c3 : (decide ((k : Int) ≤ 0) || (#[x] : Array Value).isEmpty) = false := by
      have : decide ((k : Int) ≤ 0) = false := by simp; (first | assumption | decide | exact le0 (by assumption) (by decide) | exact le1 (by assumption) (by decide) | exact le2 (by assumption) (by assumption) (by decide) | lia | omega)
      rw [this]; rfl
    show wpAny _ _ (if (decide ((k : Int) ≤ 0) || (#[x] : Array Value).isEmpty) = true then _ else _) _ _ s
    rw [c3]
    simp only [Bool.false_eq_true, if_false]
    rw [if_neg (by simp; (first | assumption | decide | exact le0 (by assumption) (by decide) | exact le1 (by assumption) (by decide) | exact le2 (by assumption) (by assumption) (by decide) | lia | omega))]
    rw [if_neg (by
      have e : ((#[x] : Array Value).size : Int) * (k : Int) = (k : Int) := by simp
      rw [e]
      simp [Builtin.Tuple.tupleTooMany, sizeLine_eq]
      (first | assumption | decide | exact le0 (by assumption) (by decide) | exact le1 (by assumption) (by decide) | exact le2 (by assumption) (by assumption) (by decide) | lia | omega))]
    have e : (List.replicate ((k : Int).toNat) (#[x] : Array Value)).foldl (fun x1 x2 => x1 ++ x2) #[] = (List.replicate k x).toArray := by
      rw [Int.toNat_natCast, rep_fold]; simp
    rw [e]
    have hz : sizeOk (.seq (List.replicate k x).toArray) := by
      show (List.replicate k x).toArray.size ≤ sizeLine
      rw [List.size_toArray, List.length_replicate, sizeLine_eq]; (first | assumption | decide | exact le0 (by assumption) (by decide) | exact le1 (by assumption) (by decide) | exact le2 (by assumption) (by assumption) (by decide) | lia | omega)
    first
      | exact wpAny_bind (m := Builtin.Tuple.tupleExact _) (wpAny_newObj_type (wpAny_pure ⟨_, rfl, h⟩) hz)
      | exact wpAny_bind (m := Builtin.Tuple.tupleExact _) (wpAny_newObj_type (wpAny_bind (wpAny_pure (wpAny_pure ⟨_, rfl, h⟩))) hz)

section
variable {C : Cx} {n : Nat} {As : List Addr} {σ : List AO} {s : Shared} {A : Around} {E : Value → Shared → Prop}
theorem bin_rep {a : AV} {k : Nat} {Q : AV → List AO → Prop} (h2 : 2 ≤ k) (hk : k ≤ 1000) (h : Q (.tup (List.replicate k a)) σ) : BinR C n .Mult (.tup [a]) (.int k) σ Q := ⟨fun A R As s E u v S hu hv => by
  unfold Rep at hu hv
  obtain ⟨t, vs, rfl, _, ⟨c, T⟩, r⟩ := hu
  obtain ⟨tk, rfl⟩ := hv
  obtain ⟨x, e, rx⟩ := one r
  have evs : vs = #[x] := Array.toList_inj.mp (by rw [e])
  subst evs
  refine wpAny_binaryOp_repeat_ref (T := "tuple") (U := "int") (by decide) ⟨_, T, rfl⟩ (fun s' => typeIs_int s' _ tk) noFill_tup_mul PySem.F.fills_int_mul PySem.F.slot_int_rmul repeat_tup PySem.F.slot_int_index.lookup
    (call_meets PySem.F.slot_int_rmul (typeIs_int s _ tk) PySem.F.entry_int_rmul (PySem.F.args_int_rmul_2 _ _) (int_rmul_tup _ tk t #[x] c _ _)
      ⟨T, rfl, ⟨_, T, rfl⟩, call_meets PySem.F.slot_tuple_mul ⟨_, T, rfl⟩ PySem.F.entry_tuple_mul (PySem.F.args_tuple_mul_2 _ _) (tup_mul h2 hk) ⟨T, ?_⟩⟩)
  have rr : ∀ k, RepL s.heap As (List.replicate k a) (List.replicate k x) := fun k => by
    induction k with
    | zero => exact RepL.nil
    | succ k ih => exact RepL.cons rx ih
  exact PostE.tuple S (rr k) h⟩
end
end Mine

-- part L35
namespace Mine
open PySem PySem.W PySem.Calls PySem.SeqAt PyProof.Rows

section
variable {prog : Program} {w : World} {A : Around} {E : Value → Shared → Prop} {s : Shared}

theorem collect_range {r : Addr} {m : Nat} {t u v : Tok} {Q : List Value → Shared → Prop} (hh : A.handled = Option.none) (hr : IsRange s.heap r 0 m 1 t u v) (hm : m ≤ 1000)
    (hQ : ∀ h' tk (acc : Array Value), (∀ b o, s.heap.get? b = some o → h'.get? b = some o) → acc.size = m → (∀ (i : Nat) (x : Value), acc[i]? = some x → ∃ t : Tok, x = Value.int (i : Int) t) → Q acc.toList { s with heap := h', toks := tk }) : wpAny (model prog w) A (collect (.ref r)) Q E s := by
  unfold collect
  refine wpAny_bind (wpAny_runValue (codeAny_builtin PySem.F.entry_proto_collect ?_))
  rw [Around.under_plainId PySem.F.plain_proto_collect _]
  show wpAny _ A.in1 (newList [] >>= fun l => again (.builtin "list.__iadd__" ⟨[l, .ref r], []⟩)) _ _ s
  refine wpAny_bind (wpAny_newObj_type ?_)
  refine wpAny_pure ⟨plainId_quiet PySem.F.plain_list_iadd _, codeAny_builtin PySem.F.entry_list_iadd ?_⟩
  rw [Around.under_plainId PySem.F.plain_list_iadd _]
  show wpAny _ A.in1 (Builtin.List.listExtendWith (.ref s.heap.objs.size) (.ref r) (.ref s.heap.objs.size)) _ _ _
  have hn : Builtin.Range.rangeSize 0 m 1 = (m : Nat) := by rw [PyProof.Rows.rangeSize_nat]; (first | assumption | decide | exact le0 (by assumption) (by decide) | exact le1 (by assumption) (by decide) | exact le2 (by assumption) (by assumption) (by decide) | lia | omega)
  have hS : (s.heap.push { cls := .type "list", data := .seq ([] : List Value).toArray }).get? s.heap.objs.size = some { cls := .type "list", data := .seq #[] 0 } := Heap.get?_push_size _ rfl
  have fin' : ∀ (s' : Shared) (acc : Array Value) (c : Nat), s'.heap.get? s.heap.objs.size = some { cls := .type "list", dict := Option.none, data := .seq acc c, slots := #[] } → Q acc.toList s' → wpAny (model prog w) A (match Value.ref s.heap.objs.size with
      | Value.ref a => do
        match (← load a).data with
          | Data.seq xs _ => pure xs.toList
          | _ => unsupported "internal:collect"
      | _ => unsupported "internal:collect") Q E s' := fun s' acc c e q => by
    show wpAny _ A (load s.heap.objs.size >>= _) _ _ _
    exact wpAny_bind (wpAny_load e (wpAny_pure q))
  refine wpAny_mono (wpAny_extend_range (R := fun r s' => ∃ acc c, r = .ok (.ret (.ref s.heap.objs.size)) ∧ s'.heap.get? s.heap.objs.size = some { cls := .type "list", dict := Option.none, data := .seq acc c, slots := #[] } ∧ Q acc.toList s')
    (s := { s with heap := s.heap.push { cls := .type "list", data := .seq ([] : List Value).toArray } }) (n := m) hh (Heap.get?_push_of_some _ hr) (small_one (by decide) (by decide) (by (first | assumption | decide | exact le0 (by assumption) (by decide) | exact le1 (by assumption) (by decide) | exact le2 (by assumption) (by assumption) (by decide) | lia | omega)) (by (first | assumption | decide | exact le0 (by assumption) (by decide) | exact le1 (by assumption) (by decide) | exact le2 (by assumption) (by assumption) (by decide) | lia | omega))) hn (by (first | assumption | decide | exact le0 (by assumption) (by decide) | exact le1 (by assumption) (by decide) | exact le2 (by assumption) (by assumption) (by decide) | lia | omega)) s.heap.objs.size _ 0 hS
    fun h' tk acc' c' keep hS' hacc => ⟨acc', c', rfl, hS', hQ h' tk acc' (fun b o e => keep b o (Nat.ne_of_lt (Heap.lt_size e)) (Heap.get?_push_of_some _ e)) hacc.1 fun i x hx => ?_⟩) (fun fin s' h => ?_) (fun e s' h => ?_)
  · obtain ⟨t, e⟩ := hacc.2 i x hx
    exact ⟨t, by rw [e]; congr 1; (first | assumption | decide | exact le0 (by assumption) (by decide) | exact le1 (by assumption) (by decide) | exact le2 (by assumption) (by assumption) (by decide) | lia | omega)⟩
  · cases fin with
    | done f =>
      obtain ⟨acc, c, e, h1, h2⟩ := h
      cases e
      exact fin' s' acc c h1 h2
    | again c' => exact ⟨h.1, codeAny_mono h.2 fun r s'' hr => by obtain ⟨acc, c, rfl, h1, h2⟩ := hr; exact fin' s'' acc c h1 h2⟩
  · obtain ⟨_, _, e, _⟩ := h
    cases e


theorem tuple_new_in {l : Addr} {T : String} {o : Obj} {h : Heap} {P : List Value → Prop} (hT : T = "range") (ho : h.get? l = some o) (hc : o.cls = .type T)
    (hcol : ∀ (A : Around) (Q : List Value → Shared → Prop) (E : Value → Shared → Prop) (s : Shared), s.heap = h → A.handled = Option.none → (∀ h' tk acc, (∀ b o, h.get? b = some o → h'.get? b = some o) → P acc → Q acc { s with heap := h', toks := tk }) → wpAny (model prog w) A (collect (.ref l)) Q E s)
    (hP : ∀ acc, P acc → acc.length ≤ 1000) :
    MeetsIn prog w (Builtin.«tuple.__new__» ⟨[.type "tuple", .ref l], []⟩) (fun A R s => s.heap = h ∧ A.handled = Option.none ∧ ∀ (h' : Heap) tk acc, P acc → (∀ b o', h.get? b = some o' → h'.get? b = some o') →
      R (.ok (.ret (.ref h'.objs.size))) { s with heap := h'.push { cls := .type "tuple", data := .seq acc.toArray }, toks := tk }) :=
  .of_wp fun A R s q => by
    obtain ⟨hp, g, d, tk, os⟩ := s; obtain ⟨he, hh, q⟩ := q
    have he : hp = h := he
    subst he
    have hsub := sub_tuple_self
    have hinit := init_tuple_lookup
    have hmh := madeHere_tuple
    have hTT : Shared.TypeIs ⟨hp, g, d, tk, os⟩ (.ref l) T := ⟨o, ho, hc⟩
    have col : ∀ {A' : Around} {Q : List Value → Shared → Prop} {E : Value → Shared → Prop}, A'.handled = Option.none → (∀ h' tk acc, (∀ b o, hp.get? b = some o → h'.get? b = some o) → P acc → Q acc ⟨h', g, d, tk, os⟩) → wpAny (model prog w) A' (collect (.ref l)) Q E ⟨hp, g, d, tk, os⟩ :=
      fun hA k => hcol _ _ _ ⟨hp, g, d, tk, os⟩ rfl hA k
    clear hcol
    have hhA : A.in1.handled = Option.none := hh
    have ne : (Value.type T == Value.type "tuple") = false := by subst hT; decide
    have col' : ∀ {Q : List Value → Shared → Prop} {E : Value → Shared → Prop}, (∀ h' tk acc, (∀ b o, hp.get? b = some o → h'.get? b = some o) → P acc → Q acc ⟨h', g, d, tk, os⟩) → wpAny (model prog w) A.in1 (collect (.ref l)) Q E ⟨hp, g, d, tk, os⟩ := fun k => col hhA k
    clear col
    have fin : ∀ (h' : Heap) (tk' : Nat) (acc : List Value), (∀ b o, hp.get? b = some o → h'.get? b = some o) → P acc → wpAny (model prog w) A.in1 (Builtin.Tuple.tupleExact acc.toArray >>= fun v => ret v) (fun fin s' => ∃ v, fin = .done (.ret v) ∧ R (.ok (.ret v)) s') (fun e s' => R (.error e) s') ⟨h', g, d, tk', os⟩ := fun h' tk' acc keep hacc => by
      unfold Builtin.Tuple.tupleExact
      have hz : acc.toArray.size ≤ sizeLine := by rw [List.size_toArray, sizeLine_eq]; have := hP acc hacc; (first | assumption | decide | exact le0 (by assumption) (by decide) | exact le1 (by assumption) (by decide) | exact le2 (by assumption) (by assumption) (by decide) | lia | omega)
      refine wpAny_bind (wpAny_newObj_type ?_ hz)
      exact wpAny_pure ⟨_, rfl, q h' tk' acc hacc keep⟩
    subst hT
    wp_walk using wpAny_loadPart' ho, wpAny_typeOf hTT, col'
    exact fin
end

section
variable {C : Cx} {n : Nat} {sc : Scope} {ρ : List (Str × AV)} {env : Env} {As As₁ : List Addr} {σ σ₁ : List AO} {s s₁ : Shared} {A : Around} {E : Value → Shared → Prop} {recs : List DefRec}

theorem cv_tuple_range {k m : Nat} {Q : AV → List AO → Prop} (hk : σ[k]? = some (.range m)) (hm : m ≤ 1000) (h : Q (.tup ((List.range m).map fun (i : Nat) => AV.int (i : Int))) σ) : CallV C n (.type "tuple") [.ref k] σ Q := ⟨fun A R As s E vs S r => by
  obtain ⟨v, rfl, r0⟩ := one r
  clear r
  unfold Rep at r0
  obtain ⟨a, rfl, e⟩ := r0
  obtain ⟨t₁, t₂, t₃, hr⟩ := S.obj k a _ e hk
  refine callType_newIn PySem.F.called_tuple (by decide) (PySem.F.typeCall_tuple_1 _) (PySem.F.newCall_tuple_1 _) (fun obj => PySem.F.args_object_init_2 obj _) PySem.F.entry_tuple_new
    (tuple_new_in (h := s.heap) (P := fun acc => RepL s.heap As ((List.range m).map fun (i : Nat) => AV.int (i : Int)) acc) rfl hr rfl (fun A' Q' E' s' he hh k => ?_) fun acc r => by rw [r.length, List.length_map, List.length_range]; exact hm) ⟨rfl, R.hd, fun h' tk acc r keep => ⟨⟨_, Heap.get?_push_size _ rfl, rfl⟩, ?_⟩⟩
  · have hr' : IsRange s'.heap a 0 m 1 t₁ t₂ t₃ := by rw [he]; exact hr
    refine collect_range hh hr' hm fun h' tk acc keep hz hacc => k h' tk acc.toList (fun b o e => keep b o (by rw [he]; exact e)) (RepL.of_get (by simp [hz]) fun i a v e1 e2 => ?_)
    rw [Array.getElem?_toList] at e2
    obtain ⟨t, rfl⟩ := hacc i v e2
    rw [List.getElem?_map] at e1
    have hi : i < m := by
      have := (Array.getElem?_eq_some_iff.mp e2).1
      (first | assumption | decide | exact le0 (by assumption) (by decide) | exact le1 (by assumption) (by decide) | exact le2 (by assumption) (by assumption) (by decide) | lia | omega)
    simp [hi] at e1
    subst e1
    unfold Rep
    exact ⟨t, rfl⟩
  · obtain ⟨S₁, X₁⟩ := S.grow (tk := tk) keep
    have := PostE.tuple (s := { s with heap := h', toks := tk }) (Q := Q) S₁ (r.grow keep) h
    exact PostE.lift X₁ this⟩

theorem cv_range {m : Nat} {Q : AV → List AO → Prop} (hm : m ≤ 1000) (h : Q (.ref σ.length) (σ ++ [.range m])) : CallV C n (.type "range") [.int m] σ Q := ⟨fun A R As s E vs S r => by
  obtain ⟨v, rfl, r0⟩ := one r
  clear r
  unfold Rep at r0
  obtain ⟨t, rfl⟩ := r0
  refine call_range_1 ?_
  have keep : ∀ b x, s.heap.get? b = some x → (s.heap.push { cls := .type "range", data := .fields #[.int 0 s.toks, .int m t, .int 1 (s.toks + 1)] }).get? b = some x := fun b x e => Heap.get?_push_of_some _ e
  obtain ⟨S', X⟩ := S.add (tk := s.toks + 1 + 1) (o := .range m) keep S.fresh.2.2 S.big ⟨_, _, _, Heap.get?_push_size _ rfl⟩
  refine ⟨_, _, _, X, S', h, ?_⟩
  unfold Rep
  refine ⟨_, rfl, ?_⟩
  rw [← S.len]; simp⟩

theorem ex_swap {elts : List Expr} {k : Nat} {tpos pos : Pos} {e : Expr} {Q : Option AV → List (Str × AV) → List AO → Prop} (hn : elts.all isName = true) (ho : elts.all (fun e => isOwn sc (nm e)) = true)
    (h : EvE C n sc ρ e σ fun v σ' => ∃ l, v = .tup l ∧ elts.length = l.length ∧ Q Option.none (bindT (elts.map nm).reverse l.reverse ρ) σ')
    (hs : ∀ env, swapsWithSole [.Tuple elts k tpos] e pos.line env = pure false := by intro _; rfl) (hw : ∀ env : Env, env.scope = sc → swappedStores [.Tuple elts k tpos] e env = pure (some (elts.map nm))) : Ex1 C n sc ρ (.Assign [.Tuple elts k tpos] e pos) σ Q := ⟨fun A R env As s E F S => by
  refine Assign_Tuple_swapped (names := elts.map nm) (EvE.use h R F S fun v s₁ a σ₁ As₁ X₁ S₁ F₁ q r => ?_) (hs env) (hw env F.scope)
  obtain ⟨l, rfl, hl, q⟩ := q
  unfold Rep at r
  obtain ⟨t, vs, rfl, htA, T, r⟩ := r
  have hz : vs.size = l.length := by rw [← Array.length_toList, r.length]
  have hlen : (elts.map nm).length = vs.size := by rw [List.length_map, hl, hz]
  rw [hlen]
  refine PyProof.Rows.unpackItems_tuple R.hd T.isTup fun h' hs' => ?_
  have keep : ∀ b o, s₁.heap.get? b = some o → h'.get? b = some o := fun b o e => hs' b o (Nat.ne_of_lt (Heap.lt_size e)) e
  obtain ⟨S₂, X₂⟩ := S₁.grow (tk := s₁.toks) keep
  have F₂ := F₁.ext S₁ X₂
  have rr : RepL h' As₁ l.reverse vs.toList.reverse := RepL.of_get (by simp [r.length]) fun i b v e1 e2 => by
    have hi : i < l.length := by have := (List.getElem?_eq_some_iff.mp e1).1; simpa using this
    rw [List.getElem?_reverse hi] at e1
    rw [List.getElem?_reverse (by rw [r.length]; exact hi)] at e2
    rw [r.length] at e2
    obtain ⟨v', hv', rv⟩ := (r.grow keep).get e1
    rw [hv'] at e2; cases e2; exact rv
  -- the names, stored from the last to the first
  have go : ∀ (xs : List Str) (l : List AV) (vs : List Value) (ρ : List (Str × AV)) (s : Shared) (K : Unit → Shared → Prop), (∀ x ∈ xs, isOwn sc x = true) → xs.length = l.length → FrameOk C sc ρ env As₁ s.heap → Sim C As₁ σ₁ s.heap → RepL s.heap As₁ l vs →
      (∀ s', Ext (own env) As₁ s As₁ s' → Sim C As₁ σ₁ s'.heap → FrameOk C sc (bindT xs l ρ) env As₁ s'.heap → K () s') → wpAny (model C.prog C.w) A (assignInOrder (xs.map fun n => bindName env n) vs) K E s := by
    intro xs
    induction xs with
    | nil =>
      intro l vs ρ s K _ hl F S r k
      cases l with
      | cons _ _ => simp at hl
      | nil =>
        unfold RepL at r; subst r
        exact wpAny_pure (k s Ext.refl S F)
    | cons x xs ih =>
      intro l vs ρ s K ho hl F S r k
      cases l with
      | nil => simp at hl
      | cons a l =>
        unfold RepL at r
        obtain ⟨v, q, rfl, ra, r⟩ := r
        show wpAny _ _ (do holding q (bindName env x v); assignInOrder (xs.map fun n => bindName env n) q) _ _ _
        refine wpAny_bind (wpAny_holding (wpAny_bindName (F.store S (ho x (.head _)) ra fun s₁ X S₁ F₁ => ?_)))
        exact ih l q _ s₁ K (fun y hy => ho y (.tail _ hy)) (by simpa using hl) F₁ S₁ (r.ext S X fun a ha => F.ownTuple a (ownX_sub a ha)) fun s₂ Y S₂ F₂ => k s₂ ((F.wideX X).trans Y) S₂ F₂
  refine go (elts.map nm).reverse l.reverse vs.toList.reverse ρ _ _ (fun x hx => ?_) (by simp [hl]) F₂ S₂ rr fun s₃ Y S₃ F₃ => ⟨_, _, _, _, ((F.wide X₁).trans (F₁.wide X₂)).trans Y, S₃, F₃, q, trivial⟩
  rw [List.mem_reverse] at hx
  obtain ⟨e, he, rfl⟩ := List.mem_map.mp hx
  exact List.all_eq_true.mp ho e he⟩
end
end Mine

namespace Mine
open PySem PySem.W PySem.Calls PySem.SeqAt PyProof.Rows

-- part W0
theorem len1 {α : Type} : ∀ {l : List α}, l.length = 1 → ∃ a, l = [a]
  | [a], _ => ⟨a, rfl⟩
theorem len2 {α : Type} : ∀ {l : List α}, l.length = 2 → ∃ a b, l = [a, b]
  | [a, b], _ => ⟨a, b, rfl⟩
theorem len3 {α : Type} : ∀ {l : List α}, l.length = 3 → ∃ a b c, l = [a, b, c]
  | [a, b, c], _ => ⟨a, b, c, rfl⟩
noncomputable abbrev recs : List DefRec := recsOf PySem.Challenge.pw_qd0007_01
noncomputable def recAt (i : Nat) : {d : DefRec // recs[i]? = some d} → DefRec := Subtype.val

set_option maxHeartbeats 4000000 in
noncomputable def d0 : DefRec := recAt 0 ⟨⟨_, _, _, _, _⟩, rfl⟩
set_option maxHeartbeats 4000000 in
theorem d0_mem : d0 ∈ recs := List.mem_of_getElem? (i := 0) rfl
theorem d0_ok : DefOk d0 1 where
  bind := by
    intro pm code doc vals h
    obtain ⟨v0, rfl⟩ := len1 h
    rfl
  kinds := by decide
  args := by decide
  len := rfl
  cells := by decide
  free := by decide
  co := rfl
  gen := rfl
  kind := rfl

set_option maxHeartbeats 4000000 in
noncomputable def d1 : DefRec := recAt 1 ⟨⟨_, _, _, _, _⟩, rfl⟩
set_option maxHeartbeats 4000000 in
theorem d1_mem : d1 ∈ recs := List.mem_of_getElem? (i := 1) rfl
theorem d1_ok : DefOk d1 2 where
  bind := by
    intro pm code doc vals h
    obtain ⟨v0, v1, rfl⟩ := len2 h
    rfl
  kinds := by decide
  args := by decide
  len := rfl
  cells := by decide
  free := by decide
  co := rfl
  gen := rfl
  kind := rfl

set_option maxHeartbeats 4000000 in
noncomputable def d2 : DefRec := recAt 2 ⟨⟨_, _, _, _, _⟩, rfl⟩
set_option maxHeartbeats 4000000 in
theorem d2_mem : d2 ∈ recs := List.mem_of_getElem? (i := 2) rfl
theorem d2_ok : DefOk d2 1 where
  bind := by
    intro pm code doc vals h
    obtain ⟨v0, rfl⟩ := len1 h
    rfl
  kinds := by decide
  args := by decide
  len := rfl
  cells := by decide
  free := by decide
  co := rfl
  gen := rfl
  kind := rfl

set_option maxHeartbeats 4000000 in
noncomputable def d3 : DefRec := recAt 3 ⟨⟨_, _, _, _, _⟩, rfl⟩
set_option maxHeartbeats 4000000 in
theorem d3_mem : d3 ∈ recs := List.mem_of_getElem? (i := 3) rfl
theorem d3_ok : DefOk d3 1 where
  bind := by
    intro pm code doc vals h
    obtain ⟨v0, rfl⟩ := len1 h
    rfl
  kinds := by decide
  args := by decide
  len := rfl
  cells := by decide
  free := by decide
  co := rfl
  gen := rfl
  kind := rfl

set_option maxHeartbeats 4000000 in
noncomputable def d4 : DefRec := recAt 4 ⟨⟨_, _, _, _, _⟩, rfl⟩
set_option maxHeartbeats 4000000 in
theorem d4_mem : d4 ∈ recs := List.mem_of_getElem? (i := 4) rfl
theorem d4_ok : DefOk d4 1 where
  bind := by
    intro pm code doc vals h
    obtain ⟨v0, rfl⟩ := len1 h
    rfl
  kinds := by decide
  args := by decide
  len := rfl
  cells := by decide
  free := by decide
  co := rfl
  gen := rfl
  kind := rfl

set_option maxHeartbeats 4000000 in
noncomputable def d5 : DefRec := recAt 5 ⟨⟨_, _, _, _, _⟩, rfl⟩
set_option maxHeartbeats 4000000 in
theorem d5_mem : d5 ∈ recs := List.mem_of_getElem? (i := 5) rfl
theorem d5_ok : DefOk d5 1 where
  bind := by
    intro pm code doc vals h
    obtain ⟨v0, rfl⟩ := len1 h
    rfl
  kinds := by decide
  args := by decide
  len := rfl
  cells := by decide
  free := by decide
  co := rfl
  gen := rfl
  kind := rfl

set_option maxHeartbeats 4000000 in
noncomputable def d6 : DefRec := recAt 6 ⟨⟨_, _, _, _, _⟩, rfl⟩
set_option maxHeartbeats 4000000 in
theorem d6_mem : d6 ∈ recs := List.mem_of_getElem? (i := 6) rfl
theorem d6_ok : DefOk d6 1 where
  bind := by
    intro pm code doc vals h
    obtain ⟨v0, rfl⟩ := len1 h
    rfl
  kinds := by decide
  args := by decide
  len := rfl
  cells := by decide
  free := by decide
  co := rfl
  gen := rfl
  kind := rfl

set_option maxHeartbeats 4000000 in
noncomputable def d7 : DefRec := recAt 7 ⟨⟨_, _, _, _, _⟩, rfl⟩
set_option maxHeartbeats 4000000 in
theorem d7_mem : d7 ∈ recs := List.mem_of_getElem? (i := 7) rfl
theorem d7_ok : DefOk d7 1 where
  bind := by
    intro pm code doc vals h
    obtain ⟨v0, rfl⟩ := len1 h
    rfl
  kinds := by decide
  args := by decide
  len := rfl
  cells := by decide
  free := by decide
  co := rfl
  gen := rfl
  kind := rfl

set_option maxHeartbeats 4000000 in
noncomputable def d8 : DefRec := recAt 8 ⟨⟨_, _, _, _, _⟩, rfl⟩
set_option maxHeartbeats 4000000 in
theorem d8_mem : d8 ∈ recs := List.mem_of_getElem? (i := 8) rfl
theorem d8_ok : DefOk d8 1 where
  bind := by
    intro pm code doc vals h
    obtain ⟨v0, rfl⟩ := len1 h
    rfl
  kinds := by decide
  args := by decide
  len := rfl
  cells := by decide
  free := by decide
  co := rfl
  gen := rfl
  kind := rfl

set_option maxHeartbeats 4000000 in
noncomputable def d9 : DefRec := recAt 9 ⟨⟨_, _, _, _, _⟩, rfl⟩
set_option maxHeartbeats 4000000 in
theorem d9_mem : d9 ∈ recs := List.mem_of_getElem? (i := 9) rfl
theorem d9_ok : DefOk d9 2 where
  bind := by
    intro pm code doc vals h
    obtain ⟨v0, v1, rfl⟩ := len2 h
    rfl
  kinds := by decide
  args := by decide
  len := rfl
  cells := by decide
  free := by decide
  co := rfl
  gen := rfl
  kind := rfl

set_option maxHeartbeats 4000000 in
noncomputable def d10 : DefRec := recAt 10 ⟨⟨_, _, _, _, _⟩, rfl⟩
set_option maxHeartbeats 4000000 in
theorem d10_mem : d10 ∈ recs := List.mem_of_getElem? (i := 10) rfl
theorem d10_ok : DefOk d10 3 where
  bind := by
    intro pm code doc vals h
    obtain ⟨v0, v1, v2, rfl⟩ := len3 h
    rfl
  kinds := by decide
  args := by decide
  len := rfl
  cells := by decide
  free := by decide
  co := rfl
  gen := rfl
  kind := rfl

set_option maxHeartbeats 4000000 in
noncomputable def d11 : DefRec := recAt 11 ⟨⟨_, _, _, _, _⟩, rfl⟩
set_option maxHeartbeats 4000000 in
theorem d11_mem : d11 ∈ recs := List.mem_of_getElem? (i := 11) rfl
theorem d11_ok : DefOk d11 3 where
  bind := by
    intro pm code doc vals h
    obtain ⟨v0, v1, v2, rfl⟩ := len3 h
    rfl
  kinds := by decide
  args := by decide
  len := rfl
  cells := by decide
  free := by decide
  co := rfl
  gen := rfl
  kind := rfl

set_option maxHeartbeats 4000000 in
noncomputable def d12 : DefRec := recAt 12 ⟨⟨_, _, _, _, _⟩, rfl⟩
set_option maxHeartbeats 4000000 in
theorem d12_mem : d12 ∈ recs := List.mem_of_getElem? (i := 12) rfl
theorem d12_ok : DefOk d12 2 where
  bind := by
    intro pm code doc vals h
    obtain ⟨v0, v1, rfl⟩ := len2 h
    rfl
  kinds := by decide
  args := by decide
  len := rfl
  cells := by decide
  free := by decide
  co := rfl
  gen := rfl
  kind := rfl

set_option maxHeartbeats 4000000 in
noncomputable def d13 : DefRec := recAt 13 ⟨⟨_, _, _, _, _⟩, rfl⟩
set_option maxHeartbeats 4000000 in
theorem d13_mem : d13 ∈ recs := List.mem_of_getElem? (i := 13) rfl
theorem d13_ok : DefOk d13 2 where
  bind := by
    intro pm code doc vals h
    obtain ⟨v0, v1, rfl⟩ := len2 h
    rfl
  kinds := by decide
  args := by decide
  len := rfl
  cells := by decide
  free := by decide
  co := rfl
  gen := rfl
  kind := rfl

set_option maxHeartbeats 4000000 in
noncomputable def d14 : DefRec := recAt 14 ⟨⟨_, _, _, _, _⟩, rfl⟩
set_option maxHeartbeats 4000000 in
theorem d14_mem : d14 ∈ recs := List.mem_of_getElem? (i := 14) rfl
theorem d14_ok : DefOk d14 3 where
  bind := by
    intro pm code doc vals h
    obtain ⟨v0, v1, v2, rfl⟩ := len3 h
    rfl
  kinds := by decide
  args := by decide
  len := rfl
  cells := by decide
  free := by decide
  co := rfl
  gen := rfl
  kind := rfl

set_option maxHeartbeats 4000000 in
noncomputable def d15 : DefRec := recAt 15 ⟨⟨_, _, _, _, _⟩, rfl⟩
set_option maxHeartbeats 4000000 in
theorem d15_mem : d15 ∈ recs := List.mem_of_getElem? (i := 15) rfl
theorem d15_ok : DefOk d15 3 where
  bind := by
    intro pm code doc vals h
    obtain ⟨v0, v1, v2, rfl⟩ := len3 h
    rfl
  kinds := by decide
  args := by decide
  len := rfl
  cells := by decide
  free := by decide
  co := rfl
  gen := rfl
  kind := rfl

set_option maxHeartbeats 4000000 in
noncomputable def d16 : DefRec := recAt 16 ⟨⟨_, _, _, _, _⟩, rfl⟩
set_option maxHeartbeats 4000000 in
theorem d16_mem : d16 ∈ recs := List.mem_of_getElem? (i := 16) rfl
theorem d16_ok : DefOk d16 2 where
  bind := by
    intro pm code doc vals h
    obtain ⟨v0, v1, rfl⟩ := len2 h
    rfl
  kinds := by decide
  args := by decide
  len := rfl
  cells := by decide
  free := by decide
  co := rfl
  gen := rfl
  kind := rfl

set_option maxHeartbeats 4000000 in
noncomputable def d17 : DefRec := recAt 17 ⟨⟨_, _, _, _, _⟩, rfl⟩
set_option maxHeartbeats 4000000 in
theorem d17_mem : d17 ∈ recs := List.mem_of_getElem? (i := 17) rfl
theorem d17_ok : DefOk d17 2 where
  bind := by
    intro pm code doc vals h
    obtain ⟨v0, v1, rfl⟩ := len2 h
    rfl
  kinds := by decide
  args := by decide
  len := rfl
  cells := by decide
  free := by decide
  co := rfl
  gen := rfl
  kind := rfl

set_option maxHeartbeats 4000000 in
noncomputable def d18 : DefRec := recAt 18 ⟨⟨_, _, _, _, _⟩, rfl⟩
set_option maxHeartbeats 4000000 in
theorem d18_mem : d18 ∈ recs := List.mem_of_getElem? (i := 18) rfl
theorem d18_ok : DefOk d18 3 where
  bind := by
    intro pm code doc vals h
    obtain ⟨v0, v1, v2, rfl⟩ := len3 h
    rfl
  kinds := by decide
  args := by decide
  len := rfl
  cells := by decide
  free := by decide
  co := rfl
  gen := rfl
  kind := rfl

set_option maxHeartbeats 4000000 in
noncomputable def d19 : DefRec := recAt 19 ⟨⟨_, _, _, _, _⟩, rfl⟩
set_option maxHeartbeats 4000000 in
theorem d19_mem : d19 ∈ recs := List.mem_of_getElem? (i := 19) rfl
theorem d19_ok : DefOk d19 3 where
  bind := by
    intro pm code doc vals h
    obtain ⟨v0, v1, v2, rfl⟩ := len3 h
    rfl
  kinds := by decide
  args := by decide
  len := rfl
  cells := by decide
  free := by decide
  co := rfl
  gen := rfl
  kind := rfl

set_option maxHeartbeats 4000000 in
noncomputable def d20 : DefRec := recAt 20 ⟨⟨_, _, _, _, _⟩, rfl⟩
set_option maxHeartbeats 4000000 in
theorem d20_mem : d20 ∈ recs := List.mem_of_getElem? (i := 20) rfl
theorem d20_ok : DefOk d20 1 where
  bind := by
    intro pm code doc vals h
    obtain ⟨v0, rfl⟩ := len1 h
    rfl
  kinds := by decide
  args := by decide
  len := rfl
  cells := by decide
  free := by decide
  co := rfl
  gen := rfl
  kind := rfl
section
variable {C : Cx} {n : Nat} {sc : Scope} {ρ : List (Str × AV)} {σ : List AO}
theorem evB_len {p pos : Pos} {e : Expr} {es : List Expr} {Q : AV → List AO → Prop} (hC : C.Ok recs) (hx : sc.names.lookup ("len" : Str) = some NameKind.globalImplicit) (h : EvL C n sc ρ (e :: es) σ fun l σ' => CallV C n (.builtin "len") l σ' Q) (hs : (e :: es).all (fun e => !isStarred e) = true := by rfl) : EvE C n sc ρ (.Call (.Name "len" p) (e :: es) [] pos) σ Q :=
  ev_callB hC hx (by decide) (show bootBuiltins "len" = some (.builtin "len") by decide +kernel) (.inl ⟨_, rfl⟩) (by decide) h hs
theorem evB_tuple {p pos : Pos} {e : Expr} {es : List Expr} {Q : AV → List AO → Prop} (hC : C.Ok recs) (hx : sc.names.lookup ("tuple" : Str) = some NameKind.globalImplicit) (h : EvL C n sc ρ (e :: es) σ fun l σ' => CallV C n (.type "tuple") l σ' Q) (hs : (e :: es).all (fun e => !isStarred e) = true := by rfl) : EvE C n sc ρ (.Call (.Name "tuple" p) (e :: es) [] pos) σ Q :=
  ev_callB hC hx (by decide) (show bootBuiltins "tuple" = some (.type "tuple") by decide +kernel) (.inr ⟨_, rfl⟩) (by decide) h hs
theorem evB_sorted {p pos : Pos} {e : Expr} {es : List Expr} {Q : AV → List AO → Prop} (hC : C.Ok recs) (hx : sc.names.lookup ("sorted" : Str) = some NameKind.globalImplicit) (h : EvL C n sc ρ (e :: es) σ fun l σ' => CallV C n (.builtin "sorted") l σ' Q) (hs : (e :: es).all (fun e => !isStarred e) = true := by rfl) : EvE C n sc ρ (.Call (.Name "sorted" p) (e :: es) [] pos) σ Q :=
  ev_callB hC hx (by decide) (show bootBuiltins "sorted" = some (.builtin "sorted") by decide +kernel) (.inl ⟨_, rfl⟩) (by decide) h hs
theorem evB_int {p pos : Pos} {e : Expr} {es : List Expr} {Q : AV → List AO → Prop} (hC : C.Ok recs) (hx : sc.names.lookup ("int" : Str) = some NameKind.globalImplicit) (h : EvL C n sc ρ (e :: es) σ fun l σ' => CallV C n (.type "int") l σ' Q) (hs : (e :: es).all (fun e => !isStarred e) = true := by rfl) : EvE C n sc ρ (.Call (.Name "int" p) (e :: es) [] pos) σ Q :=
  ev_callB hC hx (by decide) (show bootBuiltins "int" = some (.type "int") by decide +kernel) (.inr ⟨_, rfl⟩) (by decide) h hs
theorem evB_min {p pos : Pos} {e : Expr} {es : List Expr} {Q : AV → List AO → Prop} (hC : C.Ok recs) (hx : sc.names.lookup ("min" : Str) = some NameKind.globalImplicit) (h : EvL C n sc ρ (e :: es) σ fun l σ' => CallV C n (.builtin "min") l σ' Q) (hs : (e :: es).all (fun e => !isStarred e) = true := by rfl) : EvE C n sc ρ (.Call (.Name "min" p) (e :: es) [] pos) σ Q :=
  ev_callB hC hx (by decide) (show bootBuiltins "min" = some (.builtin "min") by decide +kernel) (.inl ⟨_, rfl⟩) (by decide) h hs
theorem evB_max {p pos : Pos} {e : Expr} {es : List Expr} {Q : AV → List AO → Prop} (hC : C.Ok recs) (hx : sc.names.lookup ("max" : Str) = some NameKind.globalImplicit) (h : EvL C n sc ρ (e :: es) σ fun l σ' => CallV C n (.builtin "max") l σ' Q) (hs : (e :: es).all (fun e => !isStarred e) = true := by rfl) : EvE C n sc ρ (.Call (.Name "max" p) (e :: es) [] pos) σ Q :=
  ev_callB hC hx (by decide) (show bootBuiltins "max" = some (.builtin "max") by decide +kernel) (.inl ⟨_, rfl⟩) (by decide) h hs
theorem evB_range {p pos : Pos} {e : Expr} {es : List Expr} {Q : AV → List AO → Prop} (hC : C.Ok recs) (hx : sc.names.lookup ("range" : Str) = some NameKind.globalImplicit) (h : EvL C n sc ρ (e :: es) σ fun l σ' => CallV C n (.type "range") l σ' Q) (hs : (e :: es).all (fun e => !isStarred e) = true := by rfl) : EvE C n sc ρ (.Call (.Name "range" p) (e :: es) [] pos) σ Q :=
  ev_callB hC hx (by decide) (show bootBuiltins "range" = some (.type "range") by decide +kernel) (.inr ⟨_, rfl⟩) (by decide) h hs
theorem evB_set {p pos : Pos} {e : Expr} {es : List Expr} {Q : AV → List AO → Prop} (hC : C.Ok recs) (hx : sc.names.lookup ("set" : Str) = some NameKind.globalImplicit) (h : EvL C n sc ρ (e :: es) σ fun l σ' => CallV C n (.type "set") l σ' Q) (hs : (e :: es).all (fun e => !isStarred e) = true := by rfl) : EvE C n sc ρ (.Call (.Name "set" p) (e :: es) [] pos) σ Q :=
  ev_callB hC hx (by decide) (show bootBuiltins "set" = some (.type "set") by decide +kernel) (.inr ⟨_, rfl⟩) (by decide) h hs
end

-- part W1

structure Keep (X : List Nat) (σ σ' : List AO) : Prop where
  len : σ.length ≤ σ'.length
  at' : ∀ i, i < σ.length → i ∉ X → σ'[i]? = σ[i]?
theorem Keep.refl {X : List Nat} {σ : List AO} : Keep X σ σ := ⟨Nat.le_refl _, fun _ _ _ => rfl⟩
theorem Keep.trans {X : List Nat} {σ σ₁ σ₂ : List AO} (a : Keep X σ σ₁) (b : Keep X σ₁ σ₂) : Keep X σ σ₂ := ⟨Nat.le_trans a.len b.len, fun i h hx => (b.at' i (Nat.lt_of_lt_of_le h a.len) hx).trans (a.at' i h hx)⟩
theorem Keep.wide {X Y : List Nat} {σ σ' : List AO} (a : Keep X σ σ') (h : ∀ i ∈ X, i < σ.length → i ∈ Y) : Keep Y σ σ' := ⟨a.len, fun i hi hy => a.at' i hi fun hx => hy (h i hx hi)⟩
theorem Keep.app {X : List Nat} {σ σ' : List AO} {o : AO} (a : Keep X σ σ') : Keep X σ (σ' ++ [o]) :=
  ⟨Nat.le_trans a.len (by first | exact nn | exact lb rfl | simp), fun i h hx => by rw [List.getElem?_append_left (Nat.lt_of_lt_of_le h a.len)]; exact a.at' i h hx⟩
theorem Keep.set {X : List Nat} {σ σ' : List AO} {k : Nat} {o : AO} (a : Keep X σ σ') (hk : σ.length ≤ k ∨ k ∈ X) : Keep X σ (σ'.set k o) :=
  ⟨by simpa using a.len, fun i h hx => by
    have : i ≠ k := fun e => by
      subst e
      rcases hk with hk | hk
      · (first | assumption | decide | exact le0 (by assumption) (by decide) | exact le1 (by assumption) (by decide) | exact le2 (by assumption) (by assumption) (by decide) | lia | omega)
      · exact hx hk
    rw [List.getElem?_set_ne (Ne.symm this)]; exact a.at' i h hx⟩
theorem Keep.get {X : List Nat} {σ σ' : List AO} {k : Nat} {o : AO} (a : Keep X σ σ') (h : σ[k]? = some o) (hx : k ∉ X) : σ'[k]? = some o := by
  have hk : k < σ.length := (List.getElem?_eq_some_iff.mp h).1
  rw [a.at' k hk hx]; exact h
theorem get_app {σ : List AO} {o : AO} : (σ ++ [o])[σ.length]? = some o := by simp
theorem get_set {σ : List AO} {k : Nat} {o o' : AO} (h : σ[k]? = some o) : (σ.set k o')[k]? = some o' := by
  have hk : k < σ.length := (List.getElem?_eq_some_iff.mp h).1
  simp [hk]
theorem get_lt {σ : List AO} {k : Nat} {o : AO} (h : σ[k]? = some o) : k < σ.length := (List.getElem?_eq_some_iff.mp h).1
theorem keep_of {X Y : List Nat} {σ σ₁ σ₂ : List AO} (a : Keep Y σ σ₁) (b : Keep X σ₁ σ₂) (h : ∀ i ∈ X, σ.length ≤ i ∨ i ∈ Y) : Keep Y σ σ₂ :=
  ⟨Nat.le_trans a.len b.len, fun i hi hy => (b.at' i (Nat.lt_of_lt_of_le hi a.len) fun hx => by
    rcases h i hx with q | q
    · (first | assumption | decide | exact le0 (by assumption) (by decide) | exact le1 (by assumption) (by decide) | exact le2 (by assumption) (by assumption) (by decide) | lia | omega)
    · exact hy q).trans (a.at' i hi hy)⟩

noncomputable def avI (l : List Int) : List AV := l.map .int
noncomputable def avN (l : List Nat) : List AV := l.map fun (x : Nat) => .int (x : Int)


structure Lin where
  name : Str
  coefs : List Int
  vars : List Nat
  c : Int
noncomputable def Lin.enc (l : Lin) : AV := .tup [.str l.name, .tup (avI l.coefs), .tup (avN l.vars), .int l.c]


inductive Part where
  | v (x : Nat)
  | V (r : List Nat)
  | n (a : AV)
  | t (l : Lin)
noncomputable def Part.enc : Part → AV
  | .v x => .int x
  | .V r => .tup (avN r)
  | .n a => a
  | .t l => l.enc
noncomputable def Part.letter : Part → Str
  | .v _ => "v"
  | .V _ => "V"
  | .n _ => "n"
  | .t _ => "t"

inductive Told where
  | lin (l : Lin)
  | times (a b c : Nat)
  | xor (a b c : Nat)
  | mx (r : List Nat) (x : Nat)
  | nvalue (r : List Nat) (x : Nat)
  | count (r : List Nat) (x : Nat)
  | cumul (r : List Nat) (a b : List Int)
  | clause (r q : List Nat)
  | element (i : Nat) (r : List Nat) (x : Nat)
  | table (p q : Nat) (rows : List (List Int))
  | reif (x : Nat) (l : Lin)
  | incr (r : List Nat)
  | alldiff (r : List Nat)

noncomputable def Told.name : Told → Str
  | .lin l => l.name
  | .times .. => "times"
  | .xor .. => "xor"
  | .mx .. => "max"
  | .nvalue .. => "nvalue"
  | .count .. => "count"
  | .cumul .. => "cumulative"
  | .clause .. => "clause"
  | .element .. => "element"
  | .table .. => "table"
  | .reif .. => "reif"
  | .incr .. => "increasing"
  | .alldiff .. => "all_different"
noncomputable def Lin.parts (l : Lin) : List Part := [.n (.tup (avI l.coefs)), .V l.vars, .n (.int l.c)]
noncomputable def Told.parts : Told → List Part
  | .lin l => l.parts
  | .times a b c => [.v a, .v b, .v c]
  | .xor a b c => [.v a, .v b, .v c]
  | .mx r x => [.V r, .v x]
  | .nvalue r x => [.V r, .v x]
  | .count r x => [.V r, .n (.int 1), .v x]
  | .cumul r a b => [.V r, .n (.tup (avI a)), .n (.tup (avI b)), .n (.int 2)]
  | .clause r q => [.V r, .V q]
  | .element i r x => [.v i, .V r, .v x]
  | .table p q rows => [.V [p, q], .n (.tup (rows.map fun l => .tup (avI l)))]
  | .reif x l => [.v x, .t l]
  | .incr r => [.V r]
  | .alldiff r => [.V r, .n (.str "values")]
noncomputable def Told.enc (t : Told) : AV := .tup (.str t.name :: t.parts.map Part.enc)
noncomputable def linNames : List Str := ["linear_le", "linear_eq", "linear_ne"]


noncomputable def shapeOf (x : Str) : Str :=
  if x ∈ (["times", "div", "mod", "xor"] : List Str) then "vvv"
  else if x ∈ linNames then "nVn"
  else if x ∈ (["all_different", "table", "disjunctive"] : List Str) then "Vn"
  else if x ∈ (["max", "min", "nvalue", "and", "or"] : List Str) then "Vv"
  else if x ∈ (["inverse", "lex_le", "lex_lt", "clause"] : List Str) then "VV"
  else if x ∈ (["circuit", "increasing"] : List Str) then "V"
  else if x ∈ (["cardinality", "cumulative"] : List Str) then "Vnnn"
  else if x ∈ (["reif", "imp"] : List Str) then "vt"
  else if x = "abs" then "vv"
  else if x = "element" then "vVv"
  else if x = "element_of" then "vnv"
  else "Vnv"
noncomputable def names : List Str := ["linear_le", "linear_eq", "linear_ne", "times", "xor", "max", "nvalue", "count", "cumulative", "clause", "element", "table", "reif", "increasing", "all_different"]
theorem avN_le {l : List Nat} {a b : Nat} (h : l.length ≤ a) (hb : a ≤ b) : (avN l).length ≤ b := map_le h hb

-- part W1b
section
variable {C : Cx} {n : Nat} {sc : Scope} {ρ : List (Str × AV)} {σ : List AO}
theorem sub_at {l : List AV} {i : Int} {a : AV} {Q : AV → List AO → Prop} (hi : 0 ≤ i) (hhi : i < 2 ^ 63) (ha : l[i.toNat]? = some a) (h : Q a σ) : SubR C n (.tup l) (.int i) σ Q := by
  have hlt : i.toNat < l.length := (List.getElem?_eq_some_iff.mp ha).1
  refine sub_tup (j := i.toNat) ?_ ha h (by (first | assumption | decide | exact le0 (by assumption) (by decide) | exact le1 (by assumption) (by decide) | exact le2 (by assumption) (by assumption) (by decide) | lia | omega)) hhi
  unfold seqIndex?
  simp
  (first | assumption | decide | exact le0 (by assumption) (by decide) | exact le1 (by assumption) (by decide) | exact le2 (by assumption) (by assumption) (by decide) | lia | omega)
theorem sub_last {l : List AV} {a : AV} {Q : AV → List AO → Prop} (h : Q a σ) : SubR C n (.tup (l ++ [a])) (.int (-1)) σ Q := by
  refine sub_tup (j := l.length) ?_ (by first | exact nn | exact lb rfl | simp) h
  unfold seqIndex?
  simp
  (first | assumption | decide | exact le0 (by assumption) (by decide) | exact le1 (by assumption) (by decide) | exact le2 (by assumption) (by assumption) (by decide) | lia | omega)


theorem comp_pure {α : Type} {scope : Scope} {tgt elt : Expr} {ifs : List Expr} {items : List AV} {G : List AO → Prop} {X : List Nat} {xs : List α} {enc g : α → AV} {p : α → Bool} {Q : AV → List AO → Prop} (he : items = xs.map enc) (hlen : xs.length ≤ 1000)
    (hG : ∀ σi, Keep X σ σi → G σi)
    (hstep : ∀ x ∈ xs, ∀ σi, Keep X σ σi → AsT C n (relS scope sc) (freeIn scope ρ) tgt (enc x) σi fun ρ' σ1 => EvIfs C n (relS scope sc) ρ' ifs σ1 fun ok σ2 => match ok with
      | true => EvE C n (relS scope sc) ρ' elt σ2 fun v σ3 => p x = true ∧ v = g x ∧ Keep X σ σ3
      | false => p x = false ∧ Keep X σ σ2)
    (hend : ∀ σf, Keep X σ σf → Q (.ref σf.length) (σf ++ [.list ((xs.filter p).map g)])) : CompStep C n scope sc ρ tgt elt ifs items G σ Q := by
  subst he
  refine ⟨by rw [List.length_map]; exact hlen, fun i out σi => Keep X σ σi ∧ out = ((xs.take i).filter p).map g, ⟨Keep.refl, by simp⟩, fun i out σi h => hG σi h.1, fun i av out σi hav hi => ?_, fun out σf h => ?_⟩
  · rw [List.getElem?_map] at hav
    cases hx : xs[i]? with
    | none => rw [hx] at hav; cases hav
    | some x =>
      rw [hx] at hav
      simp only [Option.map_some, Option.some.injEq] at hav
      subst hav
      have tk : xs.take (i + 1) = xs.take i ++ [x] := by rw [List.take_add_one, hx]; rfl
      have hs := hstep x (List.mem_of_getElem? hx) σi hi.1
      refine ⟨fun A R env As s E v F S r => wpAny_mono (hs.run A R env As s E v F S r) (fun _ s' ⟨ρ', σ', As₂, X₁, S₁, F₁, q⟩ => ⟨ρ', σ', As₂, X₁, S₁, F₁, ?_⟩) fun _ _ e => e⟩
      have ifsMono : ∀ {ifs : List Expr} {σ : List AO} {K K' : Bool → List AO → Prop}, (∀ b σ', K b σ' → K' b σ') → EvIfs C n (relS scope sc) ρ' ifs σ K → EvIfs C n (relS scope sc) ρ' ifs σ K' := by
        intro ifs
        match ifs with
        | [] => intro σ K K' hk h; exact hk _ _ h
        | [t] => intro σ K K' hk h; exact EvB.mono h hk
        | _ :: _ :: _ => intro σ K K' hk h; exact h.elim
      refine ifsMono (fun ok σ2 h2 => ?_) q
      cases ok with
      | true =>
        refine EvE.mono h2 fun v σ3 ⟨h3, h4, h5⟩ => ⟨h5, ?_⟩
        rw [tk, List.filter_append, List.map_append, hi.2, h4]
        simp [h3]
      | false =>
        refine ⟨h2.2, ?_⟩
        rw [tk, List.filter_append, List.map_append, hi.2]
        simp [h2.1]
  · have : ((xs.map enc).length) = xs.length := by simp
    rw [this, List.take_length] at h
    rw [h.2]
    exact hend σf h.1
end
section
variable {C : Cx} {n : Nat} {σ : List AO}
theorem cmp_lt_t {i j : Int} {Q : Bool → List AO → Prop} (hb : decide (i < j) = true) (h : Q true σ) : CmpR C n .Lt (.int i) (.int j) σ Q := cmp_lt_int (hb ▸ h)
theorem cmp_lt_f {i j : Int} {Q : Bool → List AO → Prop} (hb : decide (i < j) = false) (h : Q false σ) : CmpR C n .Lt (.int i) (.int j) σ Q := cmp_lt_int (hb ▸ h)
theorem cmp_eqi_t {i j : Int} {Q : Bool → List AO → Prop} (hb : (i == j) = true) (h : Q true σ) : CmpR C n .Eq (.int i) (.int j) σ Q := cmp_eq_int (hb ▸ h)
theorem cmp_eqi_f {i j : Int} {Q : Bool → List AO → Prop} (hb : (i == j) = false) (h : Q false σ) : CmpR C n .Eq (.int i) (.int j) σ Q := cmp_eq_int (hb ▸ h)
end
local macro_rules | `(tactic| ktr_rel) => `(tactic| first
  | with_reducible first | refine' evl_nil ?_ | refine' evl_cons ?_ | refine' ev_int ?_ | refine' ev_str ?_ | refine' ev_bool ?_ | refine' ev_bin ?_ | refine' ev_ifexp ?_ | refine' ev_neg ?_ | refine' ev_sub ?_ | refine' ex_nil ?_ | refine' ex_cons ?_ | refine' ex_return ?_ | refine' ex_if ?_
  | ((with_reducible refine' ev_name (hd := ?k1) (hc := ?k2) ?k3 ?k4 ?h); (case k1 => exact rfl); (case k2 => exact rfl); (case k3 => exact rfl); (case k4 => exact rfl))
  | ((with_reducible first | refine' ev_tuple (hs := ?k1) ?h | refine' ev_list (hs := ?k1) ?h | refine' ev_cmp (hm := ?k1) ?h | refine' eb_cmp (hm := ?k1) ?h); (case k1 => with_unfolding_all rfl))
  | ((with_reducible refine' sub_at ?k1 ?k2 ?k3 ?h); (case k1 => decide); (case k2 => decide); (case k3 => exact rfl))
  | ((with_reducible refine' ex_assign (hs := ?k1) ?k2 ?h); (case k1 => (intro _; rfl)); (case k2 => exact rfl))
  | ((with_reducible refine' ex_expr (hs := ?k1) ?h); (case k1 => (intro _; rfl)))
  | ((with_reducible refine' cmp_in_strs_t ?k1 ?k2 ?h); (case k1 => repeat constructor); (case k2 => decide +kernel))
  | ((with_reducible refine' cmp_in_strs_f ?k1 ?k2 ?h); (case k1 => repeat constructor); (case k2 => decide +kernel))
  | with_reducible first | refine' cmp_eq_str_t (by decide +kernel) ?_ | refine' cmp_eq_str_f (by decide +kernel) ?_ | refine' cmp_ne_str_t (by decide +kernel) ?_ | refine' cmp_ne_str_f (by decide +kernel) ?_ | refine' And.intro (by decide) ?_ | refine' cmp_lt_t (by decide +kernel) ?_ | refine' cmp_lt_f (by decide +kernel) ?_ | refine' cmp_eqi_t (by decide +kernel) ?_ | refine' cmp_eqi_f (by decide +kernel) ?_
  )


-- part W2
theorem any_mem {x : Str} {l : List Str} : l.any (· == x) = decide (x ∈ l) := by
  induction l with
  | nil => rfl
  | cons y l ih =>
    rw [List.any_cons, ih]
    by_cases h : x = y
    · subst h; simp
    · have : (y == x) = false := beq_eq_false_iff_ne.mpr fun e => h e.symm
      rw [this]
      exact decide_eq_decide.mpr ⟨fun q => .tail _ q, fun q => by cases q with | head => exact absurd rfl h | tail _ q => exact q⟩
section
variable {C : Cx} {n : Nat} {σ : List AO} {Q : AV → List AO → Prop}
theorem c_shape {x : Str} (hC : C.Ok recs) (hx : x ∈ names) (h : Q (.str (shapeOf x)) σ) : CallF C (n + 1) "shape_of" [.str x] σ Q := by
  refine callF hC d0_mem d0_ok rfl ?_
  unfold shapeOf at h
  refine ex_cons (ex_if (eb_cmp ?_))
  repeat ktr_rel
  refine cmp_in_strs (xs := (["times", "div", "mod", "xor"] : List Str)) (by repeat constructor) ?_
  rw [any_mem]
  by_cases h1 : x ∈ (["times", "div", "mod", "xor"] : List Str)
  · rw [decide_eq_true h1]
    rw [if_pos h1] at h
    exact ex_cons (ex_return (ev_str h))
  rw [decide_eq_false h1]
  rw [if_neg h1] at h
  refine ex_nil ?_
  refine ex_cons (ex_if (eb_cmp ?_))
  repeat ktr_rel
  refine cmp_in_strs (xs := linNames) (by repeat constructor) ?_
  rw [any_mem]
  by_cases h2 : x ∈ linNames
  · rw [decide_eq_true h2]
    rw [if_pos h2] at h
    exact ex_cons (ex_return (ev_str h))
  rw [decide_eq_false h2]
  rw [if_neg h2] at h
  refine ex_nil ?_
  refine ex_cons (ex_if (eb_cmp ?_))
  repeat ktr_rel
  refine cmp_in_strs (xs := (["all_different", "table", "disjunctive"] : List Str)) (by repeat constructor) ?_
  rw [any_mem]
  by_cases h3 : x ∈ (["all_different", "table", "disjunctive"] : List Str)
  · rw [decide_eq_true h3]
    rw [if_pos h3] at h
    exact ex_cons (ex_return (ev_str h))
  rw [decide_eq_false h3]
  rw [if_neg h3] at h
  refine ex_nil ?_
  refine ex_cons (ex_if (eb_cmp ?_))
  repeat ktr_rel
  refine cmp_in_strs (xs := (["max", "min", "nvalue", "and", "or"] : List Str)) (by repeat constructor) ?_
  rw [any_mem]
  by_cases h4 : x ∈ (["max", "min", "nvalue", "and", "or"] : List Str)
  · rw [decide_eq_true h4]
    rw [if_pos h4] at h
    exact ex_cons (ex_return (ev_str h))
  rw [decide_eq_false h4]
  rw [if_neg h4] at h
  refine ex_nil ?_
  refine ex_cons (ex_if (eb_cmp ?_))
  repeat ktr_rel
  refine cmp_in_strs (xs := (["inverse", "lex_le", "lex_lt", "clause"] : List Str)) (by repeat constructor) ?_
  rw [any_mem]
  by_cases h5 : x ∈ (["inverse", "lex_le", "lex_lt", "clause"] : List Str)
  · rw [decide_eq_true h5]
    rw [if_pos h5] at h
    exact ex_cons (ex_return (ev_str h))
  rw [decide_eq_false h5]
  rw [if_neg h5] at h
  refine ex_nil ?_
  refine ex_cons (ex_if (eb_cmp ?_))
  repeat ktr_rel
  refine cmp_in_strs (xs := (["circuit", "increasing"] : List Str)) (by repeat constructor) ?_
  rw [any_mem]
  by_cases h6 : x ∈ (["circuit", "increasing"] : List Str)
  · rw [decide_eq_true h6]
    rw [if_pos h6] at h
    exact ex_cons (ex_return (ev_str h))
  rw [decide_eq_false h6]
  rw [if_neg h6] at h
  refine ex_nil ?_
  refine ex_cons (ex_if (eb_cmp ?_))
  repeat ktr_rel
  refine cmp_in_strs (xs := (["cardinality", "cumulative"] : List Str)) (by repeat constructor) ?_
  rw [any_mem]
  by_cases h7 : x ∈ (["cardinality", "cumulative"] : List Str)
  · rw [decide_eq_true h7]
    rw [if_pos h7] at h
    exact ex_cons (ex_return (ev_str h))
  rw [decide_eq_false h7]
  rw [if_neg h7] at h
  refine ex_nil ?_
  refine ex_cons (ex_if (eb_cmp ?_))
  repeat ktr_rel
  refine cmp_in_strs (xs := (["reif", "imp"] : List Str)) (by repeat constructor) ?_
  rw [any_mem]
  by_cases h8 : x ∈ (["reif", "imp"] : List Str)
  · rw [decide_eq_true h8]
    rw [if_pos h8] at h
    exact ex_cons (ex_return (ev_str h))
  rw [decide_eq_false h8]
  rw [if_neg h8] at h
  refine ex_nil ?_
  refine ex_cons (ex_if (eb_cmp ?_))
  repeat ktr_rel
  refine cmp_eq_str ?_
  by_cases h9 : x = "abs"
  · rw [beq_iff_eq.mpr h9]
    rw [if_pos h9] at h
    exact ex_cons (ex_return (ev_str h))
  rw [beq_eq_false_iff_ne.mpr h9]
  rw [if_neg h9] at h
  refine ex_nil ?_
  refine ex_cons (ex_if (eb_cmp ?_))
  repeat ktr_rel
  refine cmp_eq_str ?_
  by_cases h10 : x = "element"
  · rw [beq_iff_eq.mpr h10]
    rw [if_pos h10] at h
    exact ex_cons (ex_return (ev_str h))
  rw [beq_eq_false_iff_ne.mpr h10]
  rw [if_neg h10] at h
  refine ex_nil ?_
  refine ex_cons (ex_if (eb_cmp ?_))
  repeat ktr_rel
  refine cmp_eq_str ?_
  by_cases h11 : x = "element_of"
  · rw [beq_iff_eq.mpr h11]
    rw [if_pos h11] at h
    exact ex_cons (ex_return (ev_str h))
  rw [beq_eq_false_iff_ne.mpr h11]
  rw [if_neg h11] at h
  refine ex_nil ?_
  have h12 : x = "count" := by
    have hn : ∀ y ∈ names, y ∈ (["times", "div", "mod", "xor"] : List Str) ∨ y ∈ linNames ∨ y ∈ (["all_different", "table", "disjunctive"] : List Str) ∨ y ∈ (["max", "min", "nvalue", "and", "or"] : List Str) ∨ y ∈ (["inverse", "lex_le", "lex_lt", "clause"] : List Str) ∨ y ∈ (["circuit", "increasing"] : List Str) ∨ y ∈ (["cardinality", "cumulative"] : List Str) ∨ y ∈ (["reif", "imp"] : List Str) ∨ y = "element" ∨ y = "count" := by decide +kernel
    rcases hn x hx with q | q | q | q | q | q | q | q | q | q
    · exact absurd q h1
    · exact absurd q h2
    · exact absurd q h3
    · exact absurd q h4
    · exact absurd q h5
    · exact absurd q h6
    · exact absurd q h7
    · exact absurd q h8
    · exact absurd q h10
    · exact q
  refine ex_cons (ex_if (eb_cmp ?_))
  repeat ktr_rel
  refine cmp_eq_str ?_
  rw [beq_iff_eq.mpr h12]
  exact ex_cons (ex_return (ev_str h))
end

-- part W3
noncomputable def Lin.ren (f : Nat → Nat) (l : Lin) : Lin := { l with vars := l.vars.map f }
noncomputable def Part.ren (f : Nat → Nat) : Part → Part
  | .v x => .v (f x)
  | .V r => .V (r.map f)
  | .n a => .n a
  | .t l => .t (l.ren f)
noncomputable def Part.vars : Part → List Nat
  | .v x => [x]
  | .V r => r
  | .n _ => []
  | .t l => l.vars

section
variable {C : Cx} {n : Nat} {σ : List AO} {Q : AV → List AO → Prop}
theorem skip_name {ρ ρ' : List (Str × AV)} {y : Str} {a : AV} (hy : ρ.lookup y = Option.none) (h : ∀ x v, ρ.lookup x = some v → ρ'.lookup x = some v) : ∀ x v, ρ.lookup x = some v → ((y, a) :: ρ').lookup x = some v := fun x v q => by
  have hne : x ≠ y := fun e => by rw [e, hy] at q; cases q
  rw [List.lookup_cons, beq_eq_false_iff_ne.mpr hne]
  exact h x v q
theorem zip_letters (ps : List Part) : List.zipWith (fun a b => AV.tup [a, b]) (ps.map fun p => AV.str p.letter) (ps.map Part.enc) = ps.map fun p => .tup [.str p.letter, p.enc] := by
  induction ps with
  | nil => rfl
  | cons p ps ih => simp [ih]

theorem ren_core {x : Str} {ps : List Part} {f : Nat → Nat} {k ep : Nat} {tb : List (Int × AV)} (hC : C.Ok recs) (hx : x ∈ names) (hs : signs (shapeOf x) = ps.map fun p => AV.str p.letter) (hk : σ[k]? = some (.dictI tb ep))
    (hf : ∀ y : Nat, y < 5 → (getI tb (y : Int)).getD (.int y) = .int (f y)) (h5 : ∀ p ∈ ps, ∀ y ∈ p.vars, y < 5) (hl : ∀ p ∈ ps, p.vars.length ≤ 10) (hz : ps.length ≤ 10)
    (H : ∀ l, Part.t l ∈ ps → ∀ σ' (Q' : AV → List AO → Prop), σ'[k]? = some (.dictI tb ep) → (∀ σ'', Keep [] σ' σ'' → Q' (l.ren f).enc σ'') → CallF C (n + 1) "renamed" [l.enc, .ref k] σ' Q')
    (h : ∀ σ', Keep [] σ σ' → Q (.tup (.str x :: ps.map fun p => (p.ren f).enc)) σ') : CallF C (n + 2) "renamed" [.tup (.str x :: ps.map Part.enc), .ref k] σ Q := by
  have asc7 : (shapeOf x).cps.all (· < 128) = true := List.all_eq_true.mp (show (names.all fun x => (shapeOf x).cps.all (· < 128)) = true by decide +kernel) x hx
  refine callF hC d1_mem d1_ok rfl ?_
  refine ex_cons ?_
  repeat ktr_rel
  refine ⟨by first | exact lb rfl | simp, ?_⟩
  refine ex_cons (ex_for ?_ (fun _ _ => rfl))
  refine evi_zip hC rfl rfl rfl rfl ?_
  refine evl_cons (ev_callF hC d0_mem rfl rfl ?_)
  repeat ktr_rel
  refine c_shape hC hx ?_
  refine evl_cons (ev_slice_tup (a := 1) (ub := Option.none) rfl rfl (by decide) ?_)
  repeat ktr_rel
  refine ⟨_, rfl, by simp, by simp, by simp; (first | assumption | decide | exact le0 (by assumption) (by decide) | exact le1 (by assumption) (by decide) | exact le2 (by assumption) (by assumption) (by decide) | lia | omega), ?_⟩
  refine evl_nil ?_
  refine ⟨_, _, _, _, rfl, .inr ⟨_, rfl, asc7, rfl⟩, .inl rfl, ?_⟩
  rw [hs]
  have e1 : (List.drop 1 (AV.str x :: List.map Part.enc ps)).take ((Option.none.getD (AV.str x :: List.map Part.enc ps).length) - 1) = ps.map Part.enc := by
    show (ps.map Part.enc).take ((ps.map Part.enc).length + 1 - 1) = _
    rw [Nat.add_sub_cancel, List.take_length]
  rw [e1, zip_letters]
  have hkl := get_lt hk
  refine ⟨fun i σi => Keep [σ.length] (σ ++ [AO.list [AV.str x]] ++ [.pair]) σi ∧ σi[σ.length]? = some (.list (.str x :: ((ps.take i).map fun p => (p.ren f).enc))), ⟨Keep.refl, by simp⟩, fun i σi h => h.1.get (by first | exact nn | exact lb rfl | simp) (by first | exact nn | exact lb rfl | simp), fun i av σi hav hi => ?_, fun σf hf' => ?_⟩
  · rw [List.getElem?_map] at hav
    cases hp : ps[i]? with
    | none => rw [hp] at hav; cases hav
    | some p =>
    rw [hp] at hav
    simp only [Option.map_some, Option.some.injEq] at hav
    subst hav
    obtain ⟨hK, hfound⟩ := hi
    have hpm := List.mem_of_getElem? hp
    have tk : (ps.take (i + 1)).map (fun p => (p.ren f).enc) = (ps.take i).map (fun p => (p.ren f).enc) ++ [(p.ren f).enc] := by rw [List.take_add_one, hp]; simp
    have hki : σi[k]? = some (.dictI tb ep) := hK.get (by rw [List.getElem?_append_left (by simp; (first | assumption | decide | exact le0 (by assumption) (by decide) | exact le1 (by assumption) (by decide) | exact le2 (by assumption) (by assumption) (by decide) | lia | omega)), List.getElem?_append_left hkl]; exact hk) (by simp; (first | assumption | decide | exact le0 (by assumption) (by decide) | exact le1 (by assumption) (by decide) | exact le2 (by assumption) (by assumption) (by decide) | lia | omega))
    have hlen : ((AV.str x :: ((ps.take i).map fun p => (p.ren f).enc))).length ≤ 1000 := by simp; (first | assumption | decide | exact le0 (by assumption) (by decide) | exact le1 (by assumption) (by decide) | exact le2 (by assumption) (by assumption) (by decide) | lia | omega)
    have fin : ∀ σj : List AO, Keep [σ.length] σi σj → Keep [σ.length] (σ ++ [AO.list [AV.str x]] ++ [.pair]) (σj.set σ.length (.list ((.str x :: ((ps.take i).map fun p => (p.ren f).enc)) ++ [(p.ren f).enc]))) ∧
        (σj[σ.length]? = some (.list (.str x :: ((ps.take i).map fun p => (p.ren f).enc))) → (σj.set σ.length (.list ((.str x :: ((ps.take i).map fun p => (p.ren f).enc)) ++ [(p.ren f).enc])))[σ.length]? = some (.list (.str x :: ((ps.take (i + 1)).map fun p => (p.ren f).enc)))) := fun σj hj =>
      ⟨(hK.trans hj).set (.inr (by first | exact nn | exact lb rfl | simp)), fun hg => by rw [get_set hg, tk]; rfl⟩
    refine as_tup rfl rfl rfl ?_
    have skip : ∀ {ρ ρ' : List (Str × AV)} {y : Str} {a : AV}, ρ.lookup y = Option.none → (∀ x v, ρ.lookup x = some v → ρ'.lookup x = some v) → ∀ x v, ρ.lookup x = some v → ((y, a) :: ρ').lookup x = some v := skip_name
    refine ex_cons ?_
    cases p with
    | v y =>
      have hy := hf y (h5 _ hpm y (by simp [Part.vars]))
      dsimp only [Part.letter, Part.enc]
      repeat ktr_rel
      refine ev_get2 rfl rfl rfl rfl ?_
      repeat ktr_rel
      refine ⟨_, _, _, rfl, hki, ?_⟩
      repeat ktr_rel
      refine ⟨_, rfl, ?_⟩
      repeat ktr_rel
      refine ⟨_, _, hki, ?_⟩
      rw [hy]
      repeat ktr_rel
      refine ev_append rfl rfl rfl ?_
      repeat ktr_rel
      refine ⟨_, _, rfl, hfound, ?_⟩
      repeat ktr_rel
      refine ⟨_, hfound, hlen, ?_⟩
      obtain ⟨f1, f2⟩ := fin σi Keep.refl
      refine ex_nil ⟨rfl, skip rfl (skip rfl (skip rfl fun _ _ h => h)), f1, f2 hfound⟩
    | V r =>
      dsimp only [Part.letter, Part.enc]
      repeat ktr_rel
      refine evB_tuple hC rfl ?_
      refine evl_cons (ev_comp ⟨rfl, by decide, rfl, rfl⟩ (fun _ _ => rfl) ?_)
      refine evi_tup rfl ?_
      repeat ktr_rel
      refine ⟨_, rfl, ?_⟩
      have hr := hl _ hpm
      simp only [Part.vars] at hr
      refine comp_pure (X := []) (xs := r) (enc := fun (y : Nat) => .int (y : Int)) (g := fun y => .int (f y : Int)) (p := fun _ => true) rfl (by (first | assumption | decide | exact le0 (by assumption) (by decide) | exact le1 (by assumption) (by decide) | exact le2 (by assumption) (by assumption) (by decide) | lia | omega)) (fun _ _ => trivial) (fun y hy σj hj => ?_) (fun σj hj => ?_)
      · refine as_name rfl ?_
        show EvE _ _ _ _ _ _ _
        have hkj : σj[k]? = some (.dictI tb ep) := hj.get hki (by first | exact nn | exact lb rfl | simp)
        refine ev_get2 rfl rfl rfl rfl ?_
        repeat ktr_rel
        refine ⟨_, _, _, rfl, hkj, ?_⟩
        repeat ktr_rel
        refine ⟨_, rfl, ?_⟩
        repeat ktr_rel
        refine ⟨_, _, hkj, ?_⟩
        exact ⟨rfl, hf y (h5 _ hpm y hy), hj⟩
      · refine evl_nil ?_
        have e2 : (r.filter fun _ => true).map (fun y => AV.int (f y : Int)) = avN (r.map f) := by rw [List.filter_eq_self.mpr (fun _ _ => rfl)]; simp [avN, Function.comp_def]
        rw [e2]
        refine cv_tuple_list get_app (by first | exact avN_le (by assumption) (by decide) | (simp [avN]; (first | assumption | decide | exact le0 (by assumption) (by decide) | exact le1 (by assumption) (by decide) | exact le2 (by assumption) (by assumption) (by decide) | lia | omega))) ?_
        have hj' : Keep [] σi (σj ++ [.list (avN (r.map f))]) := hj.app
        have hfj := hj'.get hfound (by first | exact nn | exact lb rfl | simp)
        repeat ktr_rel
        refine ev_append rfl rfl rfl ?_
        repeat ktr_rel
        refine ⟨_, _, rfl, hfj, ?_⟩
        repeat ktr_rel
        refine ⟨_, hfj, hlen, ?_⟩
        obtain ⟨f1, f2⟩ := fin _ (hj'.wide fun i hi => by simp at hi)
        refine ex_nil ⟨rfl, skip rfl (skip rfl (skip rfl fun _ _ h => h)), f1, f2 hfj⟩
    | n a =>
      dsimp only [Part.letter, Part.enc]
      repeat ktr_rel
      refine ev_append rfl rfl rfl ?_
      repeat ktr_rel
      refine ⟨_, _, rfl, hfound, ?_⟩
      repeat ktr_rel
      refine ⟨_, hfound, hlen, ?_⟩
      obtain ⟨f1, f2⟩ := fin σi Keep.refl
      refine ex_nil ⟨rfl, skip rfl (skip rfl fun _ _ h => h), f1, f2 hfound⟩
    | t l =>
      dsimp only [Part.letter, Part.enc]
      repeat ktr_rel
      refine ev_callF hC d1_mem rfl rfl ?_
      repeat ktr_rel
      refine H l hpm σi _ hki fun σj hj => ?_
      have hfj := hj.get hfound (by first | exact nn | exact lb rfl | simp)
      repeat ktr_rel
      refine ev_append rfl rfl rfl ?_
      repeat ktr_rel
      refine ⟨_, _, rfl, hfj, ?_⟩
      repeat ktr_rel
      refine ⟨_, hfj, hlen, ?_⟩
      obtain ⟨f1, f2⟩ := fin _ (hj.wide fun i hi => by simp at hi)
      refine ex_nil ⟨rfl, skip rfl (skip rfl (skip rfl fun _ _ h => h)), f1, f2 hfj⟩
  · rw [List.length_map, List.take_length] at hf'
    refine ex_cons (ex_return ?_)
    refine evB_tuple hC rfl ?_
    repeat ktr_rel
    refine cv_tuple_list hf'.2 (by simp; (first | assumption | decide | exact le0 (by assumption) (by decide) | exact le1 (by assumption) (by decide) | exact le2 (by assumption) (by assumption) (by decide) | lia | omega)) ?_
    exact h σf (keep_of (Y := []) (Keep.refl.app.app) hf'.1 fun i hi => .inl (by simp at hi; (first | assumption | decide | exact le0 (by assumption) (by decide) | exact le1 (by assumption) (by decide) | exact le2 (by assumption) (by assumption) (by decide) | lia | omega)))

noncomputable def Told.ren (f : Nat → Nat) : Told → Told
  | .lin l => .lin (l.ren f)
  | .times a b c => .times (f a) (f b) (f c)
  | .xor a b c => .xor (f a) (f b) (f c)
  | .mx r x => .mx (r.map f) (f x)
  | .nvalue r x => .nvalue (r.map f) (f x)
  | .count r x => .count (r.map f) (f x)
  | .cumul r a b => .cumul (r.map f) a b
  | .clause r q => .clause (r.map f) (q.map f)
  | .element i r x => .element (f i) (r.map f) (f x)
  | .table p q rows => .table (f p) (f q) rows
  | .reif x l => .reif (f x) (l.ren f)
  | .incr r => .incr (r.map f)
  | .alldiff r => .alldiff (r.map f)
theorem ren_parts (f : Nat → Nat) (t : Told) : (t.ren f).parts = t.parts.map (Part.ren f) := by cases t <;> rfl
theorem ren_name (f : Nat → Nat) (t : Told) : (t.ren f).name = t.name := by cases t <;> rfl

structure Told.Ok (t : Told) : Prop where
  lin : ∀ l, (t = .lin l ∨ ∃ x, t = .reif x l) → l.name ∈ linNames
  vars : ∀ p ∈ t.parts, ∀ y ∈ p.vars, y < 5
  few : ∀ p ∈ t.parts, p.vars.length ≤ 5
theorem lin_names {x : Str} (h : x ∈ linNames) : x ∈ names := by
  simp only [linNames, List.mem_cons, List.mem_nil_iff, or_false] at h
  rcases h with rfl | rfl | rfl <;> decide +kernel
theorem lin_shape {x : Str} (h : x ∈ linNames) : shapeOf x = "nVn" := by
  simp only [linNames, List.mem_cons, List.mem_nil_iff, or_false] at h
  rcases h with rfl | rfl | rfl <;> decide +kernel
theorem Told.Ok.name {t : Told} (h : t.Ok) : t.name ∈ names := by
  cases t with
  | lin l => exact lin_names (h.lin l (.inl rfl))
  | times a b c => exact (by decide +kernel : ("times" : Str) ∈ names)
  | xor a b c => exact (by decide +kernel : ("xor" : Str) ∈ names)
  | mx r x => exact (by decide +kernel : ("max" : Str) ∈ names)
  | nvalue r x => exact (by decide +kernel : ("nvalue" : Str) ∈ names)
  | count r x => exact (by decide +kernel : ("count" : Str) ∈ names)
  | cumul r a b => exact (by decide +kernel : ("cumulative" : Str) ∈ names)
  | clause r q => exact (by decide +kernel : ("clause" : Str) ∈ names)
  | element i r x => exact (by decide +kernel : ("element" : Str) ∈ names)
  | table p q rows => exact (by decide +kernel : ("table" : Str) ∈ names)
  | reif x l => exact (by decide +kernel : ("reif" : Str) ∈ names)
  | incr r => exact (by decide +kernel : ("increasing" : Str) ∈ names)
  | alldiff r => exact (by decide +kernel : ("all_different" : Str) ∈ names)
theorem Told.Ok.shape {t : Told} (h : t.Ok) : signs (shapeOf t.name) = t.parts.map fun p => AV.str p.letter := by
  cases t with
  | lin l =>
    show signs (shapeOf l.name) = _
    rw [lin_shape (h.lin l (.inl rfl))]
    rfl
  | _ => rfl
theorem c_ren {t : Told} {f : Nat → Nat} {k ep : Nat} {tb : List (Int × AV)} (hC : C.Ok recs) (ht : t.Ok) (hk : σ[k]? = some (.dictI tb ep))
    (hf : ∀ y : Nat, y < 5 → (getI tb (y : Int)).getD (.int y) = .int (f y)) (h : ∀ σ', Keep [] σ σ' → Q (t.ren f).enc σ') : CallF C (n + 3) "renamed" [t.enc, .ref k] σ Q := by
  refine ren_core (n := n + 1) hC ht.name ht.shape hk hf ht.vars (fun p hp => by have := ht.few p hp; (first | assumption | decide | exact le0 (by assumption) (by decide) | exact le1 (by assumption) (by decide) | exact le2 (by assumption) (by assumption) (by decide) | lia | omega)) (by cases t <;> (simp [Told.parts, Lin.parts])) (fun l hl σ' Q' hk' h' => ?_) fun σ' hK => ?_
  · have hn : l.name ∈ linNames := by
      cases t with
      | reif x l' => simp [Told.parts] at hl; subst hl; exact ht.lin _ (.inr ⟨_, rfl⟩)
      | lin l' => simp [Told.parts, Lin.parts] at hl
      | _ => simp [Told.parts] at hl
    have hv : ∀ y ∈ l.vars, y < 5 := fun y hy => ht.vars _ hl y hy
    have hw : l.vars.length ≤ 5 := ht.few _ hl
    refine ren_core (n := n) (x := l.name) (ps := l.parts) (f := f) hC (lin_names hn) (by rw [lin_shape hn]; rfl) hk' hf (fun p hp y hy => ?_) (fun p hp => ?_) (by simp [Lin.parts]) (fun l' hl' => by simp [Lin.parts] at hl') fun σ'' hK => h' σ'' hK
    · simp [Lin.parts] at hp
      rcases hp with rfl | rfl | rfl <;> simp [Part.vars] at hy
      exact hv y hy
    · simp [Lin.parts] at hp
      rcases hp with rfl | rfl | rfl <;> simp [Part.vars]
      (first | assumption | decide | exact le0 (by assumption) (by decide) | exact le1 (by assumption) (by decide) | exact le2 (by assumption) (by assumption) (by decide) | lia | omega)
  · have := h σ' hK
    unfold Told.enc at this
    rw [ren_parts, ren_name, List.map_map] at this
    exact this
end

-- part W4

noncomputable def sset (l : List Nat) : List Nat := (List.range 5).filter fun v => l.contains v
theorem sset_eq {l xs : List Nat} (ha : asc l = true) (hn : l.Nodup) (hm : ∀ v, v ∈ l ↔ v ∈ xs) (h5 : ∀ v ∈ xs, v < 5) : l = sset xs := by
  have e : (l.map Int.ofNat) = ((sset xs).map Int.ofNat) := by
    refine lks_uniq (List.Perm.map _ ?_) ?_ ?_
    · refine (List.perm_ext_iff_of_nodup hn ?_).mpr fun v => ?_
      · exact List.Pairwise.filter _ List.nodup_range
      · rw [hm v]
        simp only [sset, List.mem_filter, List.mem_range, List.contains_eq_mem, decide_eq_true_eq]
        exact ⟨fun h => ⟨h5 v h, h⟩, fun h => h.2⟩
    · rw [List.pairwise_map]
      exact (asc_pw ha).imp fun {a b} h => Int.ofNat_le.mpr h
    · rw [List.pairwise_map]
      refine List.Pairwise.imp (R := fun a b => a < b) (fun {a b} h => Int.ofNat_le.mpr (Nat.le_of_lt h)) ?_
      exact List.Pairwise.filter _ List.pairwise_lt_range
  exact List.map_inj_right (fun a b h => Int.ofNat.inj h) |>.mp e
theorem sset_lt {l : List Nat} : ∀ v ∈ sset l, v < 5 := fun v hv => by
  simp only [sset, List.mem_filter, List.mem_range] at hv
  exact hv.1
theorem sset_len (l : List Nat) : (sset l).length ≤ 5 := by
  have := List.length_filter_le (fun v => l.contains v) (List.range 5)
  unfold sset; simpa using this

section
variable {C : Cx} {n : Nat} {sc : Scope} {ρ : List (Str × AV)} {σ : List AO} {Q : AV → List AO → Prop}
theorem ev_sset {e : Expr} {p p' pos pos' : Pos} {f g : Str} (hC : C.Ok recs) (hf : f = "sorted") (hg : g = "set") (hx : sc.names.lookup f = some .globalImplicit) (hy : sc.names.lookup g = some .globalImplicit) (he : isStarred e = false)
    (h : EvE C n sc ρ e σ fun a σ' => ∃ xs : List Nat, ItemsOfAV σ' a (avN xs) ∧ (∀ v ∈ xs, v < 5) ∧ ∀ σ'' k, Keep [] σ' σ'' → σ''[k]? = some (.list (avN (sset xs))) → Q (.ref k) σ'') :
    EvE C n sc ρ (.Call (.Name f p) [.Call (.Name g p') [e] [] pos'] [] pos) σ Q := by
  subst hf hg
  refine ev_callB hC hx (by decide +kernel) (show bootBuiltins "sorted" = some (.builtin "sorted") by decide +kernel) (.inl ⟨_, rfl⟩) (by decide +kernel) ?_
  refine evl_cons (ev_callB hC hy (by decide +kernel) (show bootBuiltins "set" = some (.type "set") by decide +kernel) (.inr ⟨_, rfl⟩) (by decide +kernel) ?_ (by simp [he]))
  refine evl_cons (h.mono fun a σ' ⟨xs, z, h5, q⟩ => ?_)
  refine evl_nil (cv_set_ints z h5 fun l ha hn hm hl => evl_nil ?_)
  have el := sset_eq ha hn hm h5
  subst el
  refine cv_sorted_ints (xs := (sset xs).map Int.ofNat) (.inr ⟨_, rfl, by rw [get_app, List.map_map]; rfl⟩) (by rw [List.length_map]; exact hl) fun ys hp hs => ?_
  have e : ys = (sset xs).map Int.ofNat := lks_uniq hp hs (by
    rw [List.pairwise_map]
    exact (asc_pw ha).imp fun {a b} h => Int.ofNat_le.mpr h)
  subst e
  refine q _ _ (Keep.refl.app.app) ?_
  rw [get_app, List.map_map]
  rfl
end

-- part W5
noncomputable def Part.vs : Part → List Nat
  | .v x => [x]
  | .V r => r
  | .n _ => []
  | .t l => sset l.vars

section
variable {C : Cx} {n : Nat} {σ : List AO} {Q : AV → List AO → Prop}
theorem vs_len {ps : List Part} (hl : ∀ p ∈ ps, p.vars.length ≤ 10) : ∀ p ∈ ps, p.vs.length ≤ 10 := fun p hp => by
  have := hl p hp
  cases p with
  | t l => have := sset_len l.vars; simp only [Part.vs]; (first | assumption | decide | exact le0 (by assumption) (by decide) | exact le1 (by assumption) (by decide) | exact le2 (by assumption) (by assumption) (by decide) | lia | omega)
  | _ => simp only [Part.vs, Part.vars] at *; (first | assumption | decide | exact le0 (by assumption) (by decide) | exact le1 (by assumption) (by decide) | exact le2 (by assumption) (by assumption) (by decide) | lia | omega)
theorem flat_len {ps : List Part} (hl : ∀ p ∈ ps, p.vars.length ≤ 10) : (ps.flatMap Part.vs).length ≤ 10 * ps.length := by
  have h := vs_len hl
  clear hl
  induction ps with
  | nil => simp
  | cons p ps ih =>
    have := h p (.head _)
    have := ih fun q hq => h q (.tail _ hq)
    simp only [List.flatMap_cons, List.length_append, List.length_cons]
    (first | assumption | decide | exact le0 (by assumption) (by decide) | exact le1 (by assumption) (by decide) | exact le2 (by assumption) (by assumption) (by decide) | lia | omega)
theorem vars_core {x : Str} {ps : List Part} (hC : C.Ok recs) (hx : x ∈ names) (hs : signs (shapeOf x) = ps.map fun p => AV.str p.letter)
    (h5 : ∀ p ∈ ps, ∀ y ∈ p.vars, y < 5) (hl : ∀ p ∈ ps, p.vars.length ≤ 10) (hz : ps.length ≤ 10)
    (H : ∀ l, Part.t l ∈ ps → ∀ σ' (Q' : AV → List AO → Prop), (∀ σ'' k, Keep [] σ' σ'' → σ''[k]? = some (.list (avN (sset l.vars))) → Q' (.ref k) σ'') → CallF C (n + 1) "vars_of" [l.enc] σ' Q')
    (h : ∀ σ' k, Keep [] σ σ' → σ'[k]? = some (.list (avN (sset (ps.flatMap Part.vs)))) → Q (.ref k) σ') : CallF C (n + 2) "vars_of" [.tup (.str x :: ps.map Part.enc)] σ Q := by
  have asc7 : (shapeOf x).cps.all (· < 128) = true := List.all_eq_true.mp (show (names.all fun x => (shapeOf x).cps.all (· < 128)) = true by decide +kernel) x hx
  refine callF hC d2_mem d2_ok rfl ?_
  refine ex_cons ?_
  repeat ktr_rel
  refine ex_for ?_ (fun _ _ => rfl)
  refine evi_zip hC rfl rfl rfl rfl ?_
  refine evl_cons (ev_callF hC d0_mem rfl rfl ?_)
  repeat ktr_rel
  refine c_shape hC hx ?_
  refine evl_cons (ev_slice_tup (a := 1) (ub := Option.none) rfl rfl (by decide) ?_)
  repeat ktr_rel
  refine ⟨_, rfl, by simp, by simp, by simp; (first | assumption | decide | exact le0 (by assumption) (by decide) | exact le1 (by assumption) (by decide) | exact le2 (by assumption) (by assumption) (by decide) | lia | omega), ?_⟩
  refine evl_nil ?_
  refine ⟨_, _, _, _, rfl, .inr ⟨_, rfl, asc7, rfl⟩, .inl rfl, ?_⟩
  rw [hs]
  have e1 : (List.drop 1 (AV.str x :: List.map Part.enc ps)).take ((Option.none.getD (AV.str x :: List.map Part.enc ps).length) - 1) = ps.map Part.enc := by
    show (ps.map Part.enc).take ((ps.map Part.enc).length + 1 - 1) = _
    rw [Nat.add_sub_cancel, List.take_length]
  rw [e1, zip_letters]
  have total := flat_len hl
  refine ⟨fun i σi => Keep [σ.length] (σ ++ [AO.list []] ++ [.pair]) σi ∧ σi[σ.length]? = some (.list (avN ((ps.take i).flatMap Part.vs))), ⟨Keep.refl, by simp [avN]⟩, fun i σi h => h.1.get (by first | exact nn | exact lb rfl | simp) (by first | exact nn | exact lb rfl | simp), fun i av σi hav hi => ?_, fun σf hf' => ?_⟩
  · rw [List.getElem?_map] at hav
    cases hp : ps[i]? with
    | none => rw [hp] at hav; cases hav
    | some p =>
    rw [hp] at hav
    simp only [Option.map_some, Option.some.injEq] at hav
    subst hav
    obtain ⟨hK, hfound⟩ := hi
    have hpm := List.mem_of_getElem? hp
    have tk : avN ((ps.take (i + 1)).flatMap Part.vs) = avN ((ps.take i).flatMap Part.vs) ++ avN p.vs := by rw [List.take_add_one, hp]; simp [avN, List.flatMap_append]
    have hlen : (avN ((ps.take i).flatMap Part.vs)).length ≤ 100 := by
      have := flat_len (ps := ps.take i) fun p hp => hl p (List.mem_of_mem_take hp)
      have h2 : (ps.take i).length ≤ ps.length := by simp; (first | assumption | decide | exact le0 (by assumption) (by decide) | exact le1 (by assumption) (by decide) | exact le2 (by assumption) (by assumption) (by decide) | lia | omega)
      simp only [avN, List.length_map]
      (first | assumption | decide | exact le0 (by assumption) (by decide) | exact le1 (by assumption) (by decide) | exact le2 (by assumption) (by assumption) (by decide) | lia | omega)
    have hvs := vs_len hl p hpm
    have fin : ∀ σj : List AO, Keep [σ.length] σi σj → Keep [σ.length] (σ ++ [AO.list []] ++ [.pair]) (σj.set σ.length (.list (avN ((ps.take i).flatMap Part.vs) ++ avN p.vs))) ∧
        (σj[σ.length]? = some (.list (avN ((ps.take i).flatMap Part.vs))) → (σj.set σ.length (.list (avN ((ps.take i).flatMap Part.vs) ++ avN p.vs)))[σ.length]? = some (.list (avN ((ps.take (i + 1)).flatMap Part.vs)))) := fun σj hj =>
      ⟨(hK.trans hj).set (.inr (by first | exact nn | exact lb rfl | simp)), fun hg => by rw [get_set hg, tk]⟩
    have skip : ∀ {ρ ρ' : List (Str × AV)} {y : Str} {a : AV}, ρ.lookup y = Option.none → (∀ x v, ρ.lookup x = some v → ρ'.lookup x = some v) → ∀ x v, ρ.lookup x = some v → ((y, a) :: ρ').lookup x = some v := skip_name
    refine as_tup rfl rfl rfl ?_
    refine ex_cons ?_
    cases p with
    | v y =>
      dsimp only [Part.letter, Part.enc]
      repeat ktr_rel
      refine ev_append rfl rfl rfl ?_
      repeat ktr_rel
      refine ⟨_, _, rfl, hfound, ?_⟩
      repeat ktr_rel
      refine ⟨_, hfound, by (first | assumption | decide | exact le0 (by assumption) (by decide) | exact le1 (by assumption) (by decide) | exact le2 (by assumption) (by assumption) (by decide) | lia | omega), ?_⟩
      obtain ⟨f1, f2⟩ := fin σi Keep.refl
      (repeat refine ex_nil ?_)
      exact ⟨rfl, skip rfl (skip rfl fun _ _ h => h), f1, f2 hfound⟩
    | V r =>
      dsimp only [Part.letter, Part.enc]
      repeat ktr_rel
      refine ev_extend rfl rfl rfl ?_
      repeat ktr_rel
      refine ⟨_, _, rfl, hfound, ?_⟩
      repeat ktr_rel
      have hr := hl _ hpm
      simp only [Part.vars] at hr
      refine ⟨_, _, hfound, .inl rfl, by simp only [avN, List.length_map] at hlen ⊢; (first | assumption | decide | exact le0 (by assumption) (by decide) | exact le1 (by assumption) (by decide) | exact le2 (by assumption) (by assumption) (by decide) | lia | omega), ?_⟩
      obtain ⟨f1, f2⟩ := fin σi Keep.refl
      (repeat refine ex_nil ?_)
      exact ⟨rfl, skip rfl (skip rfl fun _ _ h => h), f1, f2 hfound⟩
    | n a =>
      dsimp only [Part.letter, Part.enc]
      repeat ktr_rel
      have e : avN ((ps.take (i + 1)).flatMap Part.vs) = avN ((ps.take i).flatMap Part.vs) := by rw [tk]; simp [Part.vs, avN]
      exact ⟨skip rfl (skip rfl fun _ _ h => h), hK, by rw [e]; exact hfound⟩
    | t l =>
      dsimp only [Part.letter, Part.enc]
      repeat ktr_rel
      refine ev_extend rfl rfl rfl ?_
      repeat ktr_rel
      refine ⟨_, _, rfl, hfound, ?_⟩
      refine ev_callF hC d2_mem rfl rfl ?_
      repeat ktr_rel
      refine H l hpm σi _ fun σj kk hj hkk => ?_
      have hfj := hj.get hfound (by first | exact nn | exact lb rfl | simp)
      have := sset_len l.vars
      refine ⟨_, _, hfj, .inr ⟨_, rfl, hkk⟩, by simp only [avN, List.length_map] at hlen ⊢; (first | assumption | decide | exact le0 (by assumption) (by decide) | exact le1 (by assumption) (by decide) | exact le2 (by assumption) (by assumption) (by decide) | lia | omega), ?_⟩
      obtain ⟨f1, f2⟩ := fin _ (hj.wide fun i hi => by simp at hi)
      (repeat refine ex_nil ?_)
      exact ⟨rfl, skip rfl (skip rfl fun _ _ h => h), f1, f2 hfj⟩
  · rw [List.length_map, List.take_length] at hf'
    refine ex_cons (ex_return ?_)
    refine ev_sset hC rfl rfl rfl rfl rfl ?_
    repeat ktr_rel
    refine ⟨_, .inr ⟨_, rfl, hf'.2⟩, fun v hv => ?_, fun σ'' kk hK hkk => h σ'' kk ?_ hkk⟩
    · obtain ⟨p, hp, hv⟩ := List.mem_flatMap.mp hv
      cases p with
      | t l => exact sset_lt v hv
      | n a => simp [Part.vs] at hv
      | v y => exact h5 _ hp v hv
      | V r => exact h5 _ hp v hv
    · exact (keep_of (Y := []) (Keep.refl.app.app) hf'.1 fun i hi => .inl (by simp at hi; (first | assumption | decide | exact le0 (by assumption) (by decide) | exact le1 (by assumption) (by decide) | exact le2 (by assumption) (by assumption) (by decide) | lia | omega))).trans hK

noncomputable def Told.vs (t : Told) : List Nat := sset (t.parts.flatMap Part.vs)
theorem c_vars {t : Told} (hC : C.Ok recs) (ht : t.Ok) (h : ∀ σ' k, Keep [] σ σ' → σ'[k]? = some (.list (avN t.vs)) → Q (.ref k) σ') : CallF C (n + 3) "vars_of" [t.enc] σ Q := by
  refine vars_core (n := n + 1) hC ht.name ht.shape ht.vars (fun p hp => by have := ht.few p hp; (first | assumption | decide | exact le0 (by assumption) (by decide) | exact le1 (by assumption) (by decide) | exact le2 (by assumption) (by assumption) (by decide) | lia | omega)) (by cases t <;> (simp [Told.parts, Lin.parts])) (fun l hl σ' Q' h' => ?_) h
  have hn : l.name ∈ linNames := by
    cases t with
    | reif x l' => simp [Told.parts] at hl; subst hl; exact ht.lin _ (.inr ⟨_, rfl⟩)
    | lin l' => simp [Told.parts, Lin.parts] at hl
    | _ => simp [Told.parts] at hl
  have hv : ∀ y ∈ l.vars, y < 5 := fun y hy => ht.vars _ hl y hy
  have hw : l.vars.length ≤ 5 := ht.few _ hl
  refine vars_core (n := n) (x := l.name) (ps := l.parts) hC (lin_names hn) (by rw [lin_shape hn]; rfl) (fun p hp y hy => ?_) (fun p hp => ?_) (by simp [Lin.parts]) (fun l' hl' => by simp [Lin.parts] at hl') fun σ'' k hK hk => h' σ'' k hK ?_
  · simp [Lin.parts] at hp
    rcases hp with rfl | rfl | rfl <;> simp [Part.vars] at hy
    exact hv y hy
  · simp [Lin.parts] at hp
    rcases hp with rfl | rfl | rfl <;> simp [Part.vars]
    (first | assumption | decide | exact le0 (by assumption) (by decide) | exact le1 (by assumption) (by decide) | exact le2 (by assumption) (by assumption) (by decide) | lia | omega)
  · rw [hk]
    simp [Lin.parts, Part.vs]
end

-- part W6

noncomputable def dOf (ks : List Nat) (F : Nat → Int) : List (Int × AV) := ks.map fun (v : Nat) => ((v : Int), .int (F v))
theorem find_dOf {ks : List Nat} {F : Nat → Int} {v : Nat} : getI (dOf ks F) (v : Int) = if v ∈ ks then some (.int (F v)) else Option.none := by
  unfold getI dOf
  induction ks with
  | nil => rfl
  | cons k ks ih =>
    simp only [List.map_cons]
    by_cases h : k = v
    · subst h; simp
    · have h' : ¬ ((k : Int) = (v : Int)) := fun e => h (Int.ofNat.inj e)
      rw [List.find?_cons_of_neg (by simpa using h'), ih]
      have : v ∈ k :: ks ↔ v ∈ ks := by simp [Ne.symm h]
      simp only [this]
theorem set_dOf {ks : List Nat} {F : Nat → Int} {v : Nat} {w : Int} : setI (dOf ks F) (v : Int) (.int w) = dOf (if v ∈ ks then ks else ks ++ [v]) (fun u => if u = v then w else F u) := by
  unfold setI
  have ha : (dOf ks F).any (fun kv => decide (kv.1 = (v : Int))) = decide (v ∈ ks) := by
    unfold dOf
    rw [List.any_map]
    induction ks with
    | nil => rfl
    | cons k ks ih =>
      rw [List.any_cons, ih]
      by_cases h : k = v
      · subst h; simp
      · have h' : ¬ ((k : Int) = (v : Int)) := fun e => h (Int.ofNat.inj e)
        simp [h', Ne.symm h]
  rw [ha]
  by_cases hv : v ∈ ks
  · simp only [hv, decide_true, if_true]
    unfold dOf
    rw [List.map_map]
    apply List.map_congr_left
    intro (k : Nat) _
    show (if ((k : Int) = (v : Int)) then ((k : Int), AV.int w) else ((k : Int), AV.int (F k))) = _
    by_cases h : k = v
    · subst h; simp
    · have h' : ¬ ((k : Int) = (v : Int)) := fun e => h (Int.ofNat.inj e)
      simp [h, h']
  · simp only [hv, decide_false, if_false, Bool.false_eq_true]
    unfold dOf
    rw [List.map_append]
    congr 1
    · apply List.map_congr_left
      intro k hk
      have : k ≠ v := fun e => hv (e ▸ hk)
      simp [this]
    · simp


noncomputable def wt (cs : List Int) (vs : List Nat) (v : Nat) : Int := ((cs.zip vs).map fun p => if p.2 = v then p.1 else 0).sum
theorem wt_snoc (l : List (Int × Nat)) (c : Int) (x v : Nat) : ((l ++ [(c, x)]).map fun p => if p.2 = v then p.1 else 0).sum = (l.map fun p => if p.2 = v then p.1 else 0).sum + (if x = v then c else 0) := by
  rw [List.map_append, List.sum_append]; simp
theorem wt_zero {l : List (Int × Nat)} {v : Nat} (h : v ∉ l.map (·.2)) : (l.map fun p => if p.2 = v then p.1 else 0).sum = 0 := by
  induction l with
  | nil => rfl
  | cons p l ih =>
    simp only [List.map_cons, List.mem_cons, not_or] at h
    simp only [List.map_cons, List.sum_cons]
    rw [ih h.2, if_neg (fun e => h.1 e.symm)]
    rfl

theorem sorted_nats {xs : List Nat} (hn : xs.Nodup) (h5 : ∀ v ∈ xs, v < 5) {ys : List Int} (hp : ys.Perm (xs.map Int.ofNat)) (hs : ys.Pairwise (· ≤ ·)) : ys = (sset xs).map Int.ofNat := by
  refine lks_uniq (hp.trans (List.Perm.map _ ?_)) hs ?_
  · refine (List.perm_ext_iff_of_nodup hn (List.Pairwise.filter _ List.nodup_range)).mpr fun v => ?_
    simp only [List.mem_filter, List.mem_range, List.contains_eq_mem, decide_eq_true_eq]
    exact ⟨fun h => ⟨h5 v h, h⟩, fun h => h.2⟩
  · rw [List.pairwise_map]
    refine List.Pairwise.imp (R := fun a b => a < b) (fun {a b} h => Int.ofNat_le.mpr (Nat.le_of_lt h)) ?_
    exact List.Pairwise.filter _ List.pairwise_lt_range


noncomputable def keysOf : List (Int × Nat) → List Nat := fun l => l.foldl (fun ks p => if p.2 ∈ ks then ks else ks ++ [p.2]) []
theorem keysOf_snoc (l : List (Int × Nat)) (c : Int) (x : Nat) : keysOf (l ++ [(c, x)]) = if x ∈ keysOf l then keysOf l else keysOf l ++ [x] := by
  unfold keysOf; rw [List.foldl_append]; rfl
theorem snoc_ind {α : Type} {P : List α → Prop} (h0 : P []) (h1 : ∀ l a, P l → P (l ++ [a])) (l : List α) : P l := by
  have : ∀ r : List α, P r.reverse := fun r => by
    induction r with
    | nil => exact h0
    | cons a r ih => rw [List.reverse_cons]; exact h1 _ _ ih
  have := this l.reverse
  rwa [List.reverse_reverse] at this
theorem mem_keysOf {v : Nat} (l : List (Int × Nat)) : v ∈ keysOf l ↔ v ∈ l.map (·.2) := by
  refine snoc_ind (P := fun l => v ∈ keysOf l ↔ v ∈ l.map (·.2)) (by simp [keysOf]) (fun l p ih => ?_) l
  · rw [keysOf_snoc]
    split
    · rename_i h
      simp only [List.map_append, List.mem_append, ← ih]
      constructor
      · exact .inl
      · rintro (h' | h')
        · exact h'
        · simp at h'; subst h'; exact h
    · simp only [List.map_append, List.mem_append, ← ih]
      simp
theorem keysOf_nodup (l : List (Int × Nat)) : (keysOf l).Nodup := by
  refine snoc_ind (P := fun l => (keysOf l).Nodup) (by simp [keysOf]) (fun l p ih => ?_) l
  · rw [keysOf_snoc]
    split
    · exact ih
    · rename_i h
      rw [List.nodup_append]
      exact ⟨ih, by simp, fun a ha b hb e => by simp at hb; subst hb; subst e; exact h ha⟩
theorem keysOf_len (l : List (Int × Nat)) : (keysOf l).length ≤ l.length := by
  refine snoc_ind (P := fun l => (keysOf l).length ≤ l.length) (by simp [keysOf]) (fun l p ih => ?_) l
  rw [keysOf_snoc]
  split
  · simp; (first | assumption | decide | exact le0 (by assumption) (by decide) | exact le1 (by assumption) (by decide) | exact le2 (by assumption) (by assumption) (by decide) | lia | omega)
  · simp; exact ih
noncomputable def wtL (l : List (Int × Nat)) (v : Nat) : Int := (l.map fun p => if p.2 = v then p.1 else 0).sum
theorem dOf_step (l : List (Int × Nat)) (c : Int) (x : Nat) : setI (dOf (keysOf l) (wtL l)) (x : Int) (.int (wtL l x + c)) = dOf (keysOf (l ++ [(c, x)])) (wtL (l ++ [(c, x)])) := by
  rw [set_dOf, keysOf_snoc]
  congr 1
  funext u
  unfold wtL
  rw [wt_snoc]
  by_cases h : u = x
  · subst h; simp
  · simp [h, Ne.symm h]
theorem dOf_get (l : List (Int × Nat)) (x : Nat) : (getI (dOf (keysOf l) (wtL l)) (x : Int)).getD (.int 0) = .int (wtL l x) := by
  rw [find_dOf]
  split
  · rfl
  · rename_i h
    rw [mem_keysOf] at h
    unfold wtL
    rw [wt_zero h]; rfl

-- part W7
theorem zip_pairs (cs : List Int) (vs : List Nat) : List.zipWith (fun a b => AV.tup [a, b]) (avI cs) (avN vs) = (cs.zip vs).map fun p => .tup [.int p.1, .int (p.2 : Int)] := by
  unfold avI avN
  induction cs generalizing vs with
  | nil => rfl
  | cons c cs ih => cases vs with
    | nil => rfl
    | cons v vs => simp only [List.map_cons, List.zipWith_cons_cons, List.zip_cons_cons]; rw [ih vs]


noncomputable def Lin.kept (l : Lin) : List Nat := (List.range 5).filter fun v => wtL (l.coefs.zip l.vars) v != 0
noncomputable def Lin.sign (l : Lin) : Int := if l.name ≠ "linear_le" ∧ 0 < l.kept.length ∧ wtL (l.coefs.zip l.vars) (l.kept.headD 0) < 0 then -1 else 1
noncomputable def Lin.plain (l : Lin) : Lin := { name := l.name, coefs := l.kept.map fun v => l.sign * wtL (l.coefs.zip l.vars) v, vars := l.kept, c := l.sign * l.c }

theorem kept_eq {l : Lin} : sset ((keysOf (l.coefs.zip l.vars)).filter fun v => wtL (l.coefs.zip l.vars) v != 0) = l.kept := by
  unfold sset Lin.kept
  apply List.filter_congr
  intro v _
  simp only [List.contains_eq_mem, List.mem_filter]
  by_cases h : v ∈ keysOf (l.coefs.zip l.vars)
  · by_cases hw : wtL (l.coefs.zip l.vars) v = 0
    · simp [h, hw]
    · simp [h, hw]
  · have h' := h
    rw [mem_keysOf] at h'
    have : wtL (l.coefs.zip l.vars) v = 0 := wt_zero h'
    simp [h, this]

section
variable {C : Cx} {n : Nat} {σ : List AO} {Q : AV → List AO → Prop}
theorem c_plain_linear {l : Lin} (hC : C.Ok recs) (hn : l.name ∈ linNames) (h5 : ∀ v ∈ l.vars, v < 5) (hz : l.vars.length ≤ 5) (h : ∀ σ', Keep [] σ σ' → Q l.plain.enc σ') : CallF C (n + 1) "plain_linear" [l.enc] σ Q := by
  refine callF hC d3_mem d3_ok rfl ?_
  refine ex_cons (ex_unpack rfl rfl ?_ (by intro _; rfl) (by intro env h; obtain ⟨⟩ := env; cases h; rfl))
  unfold Lin.enc
  repeat ktr_rel
  refine ⟨_, rfl, rfl, ?_⟩
  repeat ktr_rel
  refine ev_dict0 ?_
  repeat ktr_rel
  refine ex_for ?_ (fun _ _ => rfl)
  refine evi_zip hC rfl rfl rfl rfl ?_
  repeat ktr_rel
  refine ⟨_, _, _, _, rfl, .inl rfl, .inl rfl, ?_⟩
  rw [zip_pairs]
  have hzl : (l.coefs.zip l.vars).length ≤ 5 := by rw [List.length_zip]; (first | assumption | decide | exact le0 (by assumption) (by decide) | exact le1 (by assumption) (by decide) | exact le2 (by assumption) (by assumption) (by decide) | lia | omega)
  refine ⟨fun i σi => Keep [σ.length] (σ ++ [AO.dictI [] 0] ++ [.pair]) σi ∧ ∃ ep, σi[σ.length]? = some (.dictI (dOf (keysOf ((l.coefs.zip l.vars).take i)) (wtL ((l.coefs.zip l.vars).take i))) ep), ⟨Keep.refl, 0, by simp [keysOf, dOf]⟩, fun i σi h => h.1.get (by first | exact nn | exact lb rfl | simp) (by first | exact nn | exact lb rfl | simp), fun i av σi hav hi => ?_, fun σf hf' => ?_⟩
  · rw [List.getElem?_map] at hav
    cases hp : (l.coefs.zip l.vars)[i]? with
    | none => rw [hp] at hav; cases hav
    | some p =>
    obtain ⟨c, x⟩ := p
    rw [hp] at hav
    simp only [Option.map_some, Option.some.injEq] at hav
    subst hav
    obtain ⟨hK, ep, hd⟩ := hi
    have tk : (l.coefs.zip l.vars).take (i + 1) = (l.coefs.zip l.vars).take i ++ [(c, x)] := by rw [List.take_add_one, hp]; rfl
    refine as_tup rfl rfl rfl ?_
    refine ex_cons (ex_setI (k := 0) (l := []) ?_ (by intro _; rfl))
    repeat ktr_rel
    refine ev_get2 rfl rfl rfl rfl ?_
    repeat ktr_rel
    refine ⟨_, _, _, rfl, hd, ?_⟩
    repeat ktr_rel
    refine ⟨_, rfl, ?_⟩
    repeat ktr_rel
    refine ⟨_, _, hd, ?_⟩
    rw [dOf_get]
    repeat ktr_rel
    refine bin_add ?_
    repeat ktr_rel
    refine ⟨_, _, _, _, rfl, rfl, hd, ?_, fun ep' => ?_⟩
    · have := keysOf_len ((l.coefs.zip l.vars).take i)
      have h2 : ((l.coefs.zip l.vars).take i).length ≤ 5 := by rw [List.length_take]; (first | assumption | decide | exact le0 (by assumption) (by decide) | exact le1 (by assumption) (by decide) | exact le2 (by assumption) (by assumption) (by decide) | lia | omega)
      simp only [dOf, List.length_map]; (first | assumption | decide | exact le0 (by assumption) (by decide) | exact le1 (by assumption) (by decide) | exact le2 (by assumption) (by assumption) (by decide) | lia | omega)
    · refine ex_nil ⟨rfl, skip_name rfl (skip_name rfl fun _ _ h => h), hK.set (.inr (by first | exact nn | exact lb rfl | simp)), ep', ?_⟩
      rw [get_set hd, dOf_step, tk]
  · rw [List.length_map, List.take_length] at hf'
    obtain ⟨hK, ep, hd⟩ := hf'
    have hK0 : Keep [] σ σf := keep_of (Y := []) (Keep.refl.app.app) hK fun i hi => .inl (by simp at hi; (first | assumption | decide | exact le0 (by assumption) (by decide) | exact le1 (by assumption) (by decide) | exact le2 (by assumption) (by assumption) (by decide) | lia | omega))
    have hk5 : ∀ v ∈ keysOf (l.coefs.zip l.vars), v < 5 := fun v hv => by
      rw [mem_keysOf] at hv
      obtain ⟨p, hp, rfl⟩ := List.mem_map.mp hv
      exact h5 _ (List.of_mem_zip hp).2
    have hget : ∀ v ∈ keysOf (l.coefs.zip l.vars), getI (dOf (keysOf (l.coefs.zip l.vars)) (wtL (l.coefs.zip l.vars))) (v : Int) = some (.int (wtL (l.coefs.zip l.vars) v)) := fun v hv => by rw [find_dOf, if_pos hv]
    have hkl := keysOf_len (l.coefs.zip l.vars)
    refine ex_cons ?_
    repeat ktr_rel
    refine evB_sorted hC rfl ?_
    refine evl_cons (ev_comp ⟨rfl, by decide, rfl, rfl⟩ (fun _ _ => rfl) ?_)
    refine evi_dictI rfl ?_
    repeat ktr_rel
    refine ⟨_, _, _, rfl, hd, ?_⟩
    refine comp_pure (X := []) (xs := keysOf (l.coefs.zip l.vars)) (enc := fun (v : Nat) => .int (v : Int)) (g := fun (v : Nat) => .int (v : Int)) (p := fun v => wtL (l.coefs.zip l.vars) v != 0) (by simp [dOf, Function.comp_def]) (by (first | assumption | decide | exact le0 (by assumption) (by decide) | exact le1 (by assumption) (by decide) | exact le2 (by assumption) (by assumption) (by decide) | lia | omega)) (fun σi hi => hi.get hd (by first | exact nn | exact lb rfl | simp)) (fun v hv σj hj => ?_) (fun σj hj => ?_)
    · have hdj := hj.get hd (by first | exact nn | exact lb rfl | simp)
      refine as_name rfl ?_
      show EvB _ _ _ _ _ _ _
      repeat ktr_rel
      refine sub_dictI hdj (hget v hv) ?_
      repeat ktr_rel
      refine cmp_ne_int ?_
      cases hb : wtL (l.coefs.zip l.vars) v != 0 with
      | true =>
        show EvE _ _ _ _ _ _ _
        repeat ktr_rel
        first | exact ⟨rfl, rfl, hj⟩ | exact ⟨rfl, hj⟩ | exact hj
      | false => first | exact hj | exact ⟨rfl, hj⟩
    · refine evl_nil ?_
      have hkept : sset ((keysOf (l.coefs.zip l.vars)).filter fun v => wtL (l.coefs.zip l.vars) v != 0) = l.kept := kept_eq
      have hfl : ((keysOf (l.coefs.zip l.vars)).filter fun v => wtL (l.coefs.zip l.vars) v != 0).length ≤ 5 := by
        have := List.length_filter_le (fun v => wtL (l.coefs.zip l.vars) v != 0) (keysOf (l.coefs.zip l.vars)); (first | assumption | decide | exact le0 (by assumption) (by decide) | exact le1 (by assumption) (by decide) | exact le2 (by assumption) (by assumption) (by decide) | lia | omega)
      have hj1 : Keep [] σf (σj ++ [.list (((keysOf (l.coefs.zip l.vars)).filter fun v => wtL (l.coefs.zip l.vars) v != 0).map fun (v : Nat) => .int (v : Int))]) := hj.app
      refine cv_sorted_ints (xs := ((keysOf (l.coefs.zip l.vars)).filter fun v => wtL (l.coefs.zip l.vars) v != 0).map Int.ofNat) (.inl (.inr ⟨_, rfl, by rw [get_app, List.map_map]; rfl⟩)) (by rw [List.length_map]; exact hfl) fun ys hp hs => ?_
      have e := sorted_nats (List.Pairwise.filter _ (keysOf_nodup _)) (fun v hv => hk5 v (List.mem_filter.mp hv).1) hp hs
      rw [hkept] at e
      subst e
      generalize hσg : (σj ++ [AO.list (((keysOf (l.coefs.zip l.vars)).filter fun v => wtL (l.coefs.zip l.vars) v != 0).map fun (v : Nat) => AV.int (v : Int))]) = σg at *
      have e3 : (l.kept.map Int.ofNat).map AV.int = avN l.kept := by rw [List.map_map]; rfl
      rw [e3]
      have hg : (σg ++ [AO.list (avN l.kept)])[σg.length]? = some (.list (avN l.kept)) := get_app
      have hj2 : Keep [] σf (σg ++ [.list (avN l.kept)]) := hj1.app
      have hd2 := hj2.get hd (by first | exact nn | exact lb rfl | simp)
      generalize hσh : (σg ++ [AO.list (avN l.kept)]) = σh at *
      have hK1 : Keep [] σ σh := hK0.trans hj2
      have hkl5 : l.kept.length ≤ 5 := by rw [← hkept]; exact sset_len _
      have hkeptK : ∀ v ∈ l.kept, v ∈ keysOf (l.coefs.zip l.vars) := fun v hv => by
        rw [← hkept] at hv
        simp only [sset, List.mem_filter, List.contains_eq_mem, decide_eq_true_eq] at hv
        exact hv.2.1
      -- what stands at the end, whatever the sign
      have fin : ∀ g : Int, Builtin.Int.intBits g ≤ 64 → g = l.sign → ExS C n d3.scope (("sign", .int g) :: ("kept", .ref σg.length) :: ("sums", .ref σ.length) :: bindT ["name", "coefs", "some", "c"] [.str l.name, .tup (avI l.coefs), .tup (avN l.vars), .int l.c] [("told", .tup [.str l.name, .tup (avI l.coefs), .tup (avN l.vars), .int l.c])])
          (d3.body.drop 5) σh fun o _ σ' => Q (o.getD .none) σ' := fun g hg64 hgs => by
        refine ex_cons ?_
        repeat ktr_rel
        refine evB_tuple hC rfl ?_
        refine evl_cons (ev_comp ⟨rfl, by decide, rfl, rfl⟩ (fun _ _ => rfl) ?_)
        refine evi_list rfl ?_
        repeat ktr_rel
        refine ⟨_, _, rfl, hg, ?_⟩
        refine comp_pure (X := []) (xs := l.kept) (enc := fun (v : Nat) => .int (v : Int)) (g := fun (v : Nat) => .int (g * wtL (l.coefs.zip l.vars) v)) (p := fun _ => true) rfl (by (first | assumption | decide | exact le0 (by assumption) (by decide) | exact le1 (by assumption) (by decide) | exact le2 (by assumption) (by assumption) (by decide) | lia | omega)) (fun σi hi => hi.get hg (by first | exact nn | exact lb rfl | simp)) (fun v hv σk hk => ?_) (fun σk hk => ?_)
        · have hdk := hk.get hd2 (by first | exact nn | exact lb rfl | simp)
          refine as_name rfl ?_
          show EvE _ _ _ _ _ _ _
          repeat ktr_rel
          refine sub_dictI hdk (hget v (hkeptK v hv)) ?_
          refine bin_mul (IntMulOk.of_left hg64) ?_
          exact ⟨rfl, rfl, hk⟩
        · refine evl_nil ?_
          have ef : (l.kept.filter fun _ => true) = l.kept := List.filter_eq_self.mpr fun _ _ => rfl
          rw [ef]
          refine cv_tuple_list get_app (by first | exact map_le (by assumption) (by decide) | (rw [List.length_map]; (first | assumption | decide | exact le0 (by assumption) (by decide) | exact le1 (by assumption) (by decide) | exact le2 (by assumption) (by assumption) (by decide) | lia | omega))) ?_
          have hk1 : Keep [] σh (σk ++ [.list (l.kept.map fun (v : Nat) => .int (g * wtL (l.coefs.zip l.vars) v))]) := hk.app
          repeat ktr_rel
          refine evB_tuple hC rfl ?_
          repeat ktr_rel
          refine cv_tuple_list (hk1.get hg (by first | exact nn | exact lb rfl | simp)) (by first | exact avN_le (by assumption) (by decide) | (simp [avN]; (first | assumption | decide | exact le0 (by assumption) (by decide) | exact le1 (by assumption) (by decide) | exact le2 (by assumption) (by assumption) (by decide) | lia | omega))) ?_
          repeat ktr_rel
          refine bin_mul (IntMulOk.of_left hg64) ?_
          repeat ktr_rel
          have := h _ (hK1.trans hk1)
          unfold Lin.enc Lin.plain at this
          rw [← hgs] at this
          simpa [avI, Function.comp_def] using this
      refine ex_cons (ex_assign rfl (ev_ifexp (eb_bool (eva_and ?_))) (by intro _; rfl))
      repeat ktr_rel
      refine cmp_ne_str ?_
      cases hb : (l.name != ("linear_le" : Str)) with
      | false =>
        refine ev_int ?_
        exact fin 1 (by decide +kernel) (by unfold Lin.sign; rw [if_neg (fun q => by simp at hb; exact q.1 hb)])
      | true =>
        refine eva_and ?_
        repeat ktr_rel
        refine evB_len hC rfl ?_
        repeat ktr_rel
        refine cv_len_list hg (by first | exact avN_le (by assumption) (by decide) | (simp [avN]; (first | assumption | decide | exact le0 (by assumption) (by decide) | exact le1 (by assumption) (by decide) | exact le2 (by assumption) (by assumption) (by decide) | lia | omega))) ?_
        repeat ktr_rel
        refine cmp_gt_int ?_
        have e4 : (avN l.kept).length = l.kept.length := by simp [avN]
        rw [e4]
        have hne : l.name ≠ "linear_le" := by simpa using hb
        cases hlen : l.kept with
        | nil =>
          refine ev_int ?_
          exact fin 1 (by decide +kernel) (by unfold Lin.sign; rw [if_neg (fun q => by rw [hlen] at q; simp at q)])
        | cons v0 rest =>
          have hv0 : v0 ∈ l.kept := by rw [hlen]; exact .head _
          have hdec : decide (0 < (((v0 :: rest).length : Nat) : Int)) = true := by simp
          rw [hdec]
          refine eva_and ?_
          repeat ktr_rel
          refine sub_list (a := .int (v0 : Int)) hg (by decide) (by rw [hlen]; rfl) ?_
          refine sub_dictI hd2 (hget v0 (hkeptK v0 hv0)) ?_
          repeat ktr_rel
          refine cmp_lt_int ?_
          cases hneg : decide (wtL (l.coefs.zip l.vars) v0 < 0) with
          | true =>
            refine ev_neg ?_
            refine ev_int ⟨_, rfl, ?_⟩
            exact fin (-1) (by decide +kernel) (by unfold Lin.sign; rw [if_pos ⟨hne, by rw [hlen]; simp, by rw [hlen]; simpa using hneg⟩])
          | false =>
            refine ev_int ?_
            exact fin 1 (by decide +kernel) (by unfold Lin.sign; rw [if_neg (fun q => by rw [hlen] at q; simp at hneg; have := q.2.2; simp at this; (first | assumption | decide | exact le0 (by assumption) (by decide) | exact le1 (by assumption) (by decide) | exact le2 (by assumption) (by assumption) (by decide) | lia | omega))])
end

-- part W8
-- one order of the rows
theorem ltI_antisymm : ∀ {a b : List Int}, ltI a b = false → ltI b a = false → a = b
  | [], [], _, _ => rfl
  | [], _ :: _, h, _ => by simp [ltI] at h
  | _ :: _, [], _, h => by simp [ltI] at h
  | a :: l, b :: m, h1, h2 => by
    simp only [ltI] at h1 h2
    by_cases h : a = b
    · subst h
      simp only [if_true] at h1 h2
      rw [ltI_antisymm h1 h2]
    · have h' : b ≠ a := fun e => h e.symm
      simp only [h, h', if_false, decide_eq_false_iff_not] at h1 h2
      (first | assumption | decide | exact le0 (by assumption) (by decide) | exact le1 (by assumption) (by decide) | exact le2 (by assumption) (by assumption) (by decide) | lia | omega)
noncomputable def sortT (xs : List (List Int)) : List (List Int) := xs.mergeSort fun a b => !ltI b a
theorem uniqT : ∀ {a b : List (List Int)}, a.Perm b → a.Pairwise (fun x y => ltI y x = false) → b.Pairwise (fun x y => ltI y x = false) → a = b
  | [], _, p, _, _ => p.nil_eq
  | x :: r, b, p, ha, hb => by
    cases b with
    | nil => exact absurd p.length_eq (by first | exact nn | exact lb rfl | simp)
    | cons y t =>
      have hx : x ∈ y :: t := p.mem_iff.mp (.head _)
      have hy : y ∈ x :: r := p.mem_iff.mpr (.head _)
      have e : x = y := by
        rcases List.mem_cons.mp hx with h | h
        · exact h
        · rcases List.mem_cons.mp hy with h' | h'
          · exact h'.symm
          · exact ltI_antisymm ((List.pairwise_cons.mp hb).1 x h) ((List.pairwise_cons.mp ha).1 y h')
      subst e
      rw [uniqT (List.Perm.cons_inv p) (List.pairwise_cons.mp ha).2 (List.pairwise_cons.mp hb).2]
theorem sortT_perm (xs : List (List Int)) : (sortT xs).Perm xs := List.mergeSort_perm _ _
theorem sortT_pw (xs : List (List Int)) : (sortT xs).Pairwise (fun x y => ltI y x = false) := by
  have := List.pairwise_mergeSort (le := fun a b => !ltI b a) (fun a b c h1 h2 => by
    simp only [Bool.not_eq_true'] at h1 h2 ⊢
    cases h : ltI c a with
    | false => rfl
    | true =>
      have := ordL.neg c a b h
      cases hb : ltI c b with
      | true => rw [hb] at h2; cases h2
      | false => rw [this hb] at h1; cases h1) (fun a b => by
    cases h : ltI b a with
    | false => simp
    | true =>
      have : ltI a b = false := by
        cases h' : ltI a b with
        | false => rfl
        | true => have := ordL.trans a b a h' h; rw [ordL.irr] at this; cases this
      simp [this]) xs
  exact this.imp fun {a b} h => by simpa using h
theorem sortT_of {xs ys : List (List Int)} (hp : ys.Perm xs) (hs : ys.Pairwise (fun a b => ltI b a = false)) : ys = sortT xs := uniqT (hp.trans (sortT_perm xs).symm) hs (sortT_pw xs)

noncomputable def tupI (l : List Int) : AV := .tup (l.map .int)

noncomputable def rowsOf (cols : List (List Int)) (m : Nat) : List (List Int) := (List.range m).map fun k => cols.map fun c => c.getD k 0
noncomputable def colsOf (rows : List (List Int)) (w : Nat) : List (List Int) := (List.range w).map fun j => rows.map fun r => r.getD j 0
noncomputable def sortCols (cols : List (List Int)) (m : Nat) : List (List Int) := colsOf (sortT (rowsOf cols m)) cols.length

section
variable {C : Cx} {n : Nat} {σ : List AO} {Q : AV → List AO → Prop}
theorem c_rows_sorted {cols : List (List Int)} {m : Nat} (hC : C.Ok recs) (h0 : 0 < cols.length) (hw : cols.length ≤ 5) (hm : m ≤ 5) (hl : ∀ c ∈ cols, c.length = m) (h : ∀ σ', Keep [] σ σ' → Q (.tup ((sortCols cols m).map tupI)) σ') :
    CallF C (n + 1) "rows_sorted" [.tup (cols.map tupI)] σ Q := by
  refine callF hC d4_mem d4_ok rfl ?_
  refine ex_cons ?_
  repeat ktr_rel
  refine evB_sorted hC rfl ?_
  refine evl_cons (ev_comp ⟨rfl, by decide, rfl, rfl⟩ (fun _ _ => rfl) ?_)
  refine evi_range hC rfl rfl rfl rfl ?_
  refine evB_len hC rfl ?_
  repeat ktr_rel
  cases hcols : cols with
  | nil => rw [hcols] at h0; simp at h0
  | cons c0 crest =>
  have hc0 : c0.length = m := hl c0 (by rw [hcols]; exact .head _)
  refine sub_at (a := tupI c0) (by decide) (by decide) rfl ?_
  repeat ktr_rel
  refine cv_len_tup (by simp; (first | assumption | decide | exact le0 (by assumption) (by decide) | exact le1 (by assumption) (by decide) | exact le2 (by assumption) (by assumption) (by decide) | lia | omega)) ?_
  refine ⟨m, by simp [hc0], by (first | assumption | decide | exact le0 (by assumption) (by decide) | exact le1 (by assumption) (by decide) | exact le2 (by assumption) (by assumption) (by decide) | lia | omega), ?_⟩
  rw [← hcols]
  refine comp_pure (X := []) (xs := List.range m) (enc := fun (k : Nat) => .int (k : Int)) (g := fun k => tupI (cols.map fun c => c.getD k 0)) (p := fun _ => true) rfl (by simp; (first | assumption | decide | exact le0 (by assumption) (by decide) | exact le1 (by assumption) (by decide) | exact le2 (by assumption) (by assumption) (by decide) | lia | omega)) (fun _ _ => trivial) (fun k hk σj hj => ?_) (fun σj hj => ?_)
  · have hk : k < m := List.mem_range.mp hk
    refine as_name rfl ?_
    show EvE _ _ _ _ _ _ _
    refine evB_tuple hC rfl ?_
    refine evl_cons (ev_comp ⟨rfl, by decide, rfl, rfl⟩ (fun _ _ => rfl) ?_)
    refine evi_tup rfl ?_
    repeat ktr_rel
    refine ⟨_, rfl, ?_⟩
    refine comp_pure (X := []) (xs := cols) (enc := tupI) (g := fun c => .int (c.getD k 0)) (p := fun _ => true) rfl (by (first | assumption | decide | exact le0 (by assumption) (by decide) | exact le1 (by assumption) (by decide) | exact le2 (by assumption) (by assumption) (by decide) | lia | omega)) (fun _ _ => trivial) (fun c hc σk hk' => ?_) (fun σk hk' => ?_)
    · refine as_name rfl ?_
      show EvE _ _ _ _ _ _ _
      repeat ktr_rel
      have hck : k < c.length := by rw [hl c hc]; exact hk
      refine sub_at (a := .int (c.getD k 0)) (by (first | assumption | decide | exact le0 (by assumption) (by decide) | exact le1 (by assumption) (by decide) | exact le2 (by assumption) (by assumption) (by decide) | lia | omega)) (by (first | assumption | decide | exact le0 (by assumption) (by decide) | exact le1 (by assumption) (by decide) | exact le2 (by assumption) (by assumption) (by decide) | lia | omega)) (by simp [hck]) ?_
      exact ⟨rfl, rfl, hk'⟩
    · refine evl_nil ?_
      have ef : (cols.filter fun _ => true) = cols := List.filter_eq_self.mpr fun _ _ => rfl
      rw [ef]
      refine cv_tuple_list get_app (by first | exact map_le (by assumption) (by decide) | (rw [List.length_map]; (first | assumption | decide | exact le0 (by assumption) (by decide) | exact le1 (by assumption) (by decide) | exact le2 (by assumption) (by assumption) (by decide) | lia | omega))) ?_
      refine ⟨rfl, ?_, hj.trans hk'.app⟩
      simp [tupI, Function.comp_def]
  · refine evl_nil ?_
    have ef : ((List.range m).filter fun _ => true) = List.range m := List.filter_eq_self.mpr fun _ _ => rfl
    rw [ef]
    have e1 : ((List.range m).map fun k => tupI (cols.map fun c => c.getD k 0)) = (rowsOf cols m).map fun l => AV.tup (l.map .int) := by
      unfold rowsOf; rw [List.map_map]; rfl
    rw [e1]
    have hrl : (rowsOf cols m).length = m := by simp [rowsOf]
    refine cv_sorted_tups (xs := rowsOf cols m) (.inl (.inr ⟨_, rfl, get_app⟩)) (fun l hl' => ?_) (by (first | assumption | decide | exact le0 (by assumption) (by decide) | exact le1 (by assumption) (by decide) | exact le2 (by assumption) (by assumption) (by decide) | lia | omega)) fun ys hp hs => ?_
    · unfold rowsOf at hl'
      obtain ⟨k, _, rfl⟩ := List.mem_map.mp hl'
      rw [hcols]; simp
    have hys := sortT_of hp hs
    have hyl : ys.length = m := by rw [hp.length_eq, hrl]
    have hrow : ∀ r ∈ ys, r.length = cols.length := fun r hr => by
      have := hp.mem_iff.mp hr
      unfold rowsOf at this
      obtain ⟨k, _, rfl⟩ := List.mem_map.mp this
      simp
    have hj1 : Keep [] σ (σj ++ [AO.list ((rowsOf cols m).map fun l => AV.tup (l.map .int))]) := hj.app
    generalize (σj ++ [AO.list ((rowsOf cols m).map fun l => AV.tup (l.map .int))]) = σg at *
    have hg : (σg ++ [AO.list (ys.map fun l => AV.tup (l.map .int))])[σg.length]? = some (.list (ys.map fun l => AV.tup (l.map .int))) := get_app
    have hj2 : Keep [] σ (σg ++ [AO.list (ys.map fun l => AV.tup (l.map .int))]) := hj1.app
    generalize (σg ++ [AO.list (ys.map fun l => AV.tup (l.map .int))]) = σh at *
    refine ex_cons (ex_return ?_)
    refine evB_tuple hC rfl ?_
    refine evl_cons (ev_comp ⟨rfl, by decide, rfl, rfl⟩ (fun _ _ => rfl) ?_)
    refine evi_range hC rfl rfl rfl rfl ?_
    refine evB_len hC rfl ?_
    repeat ktr_rel
    refine cv_len_tup (by first | exact map_le (by assumption) (by decide) | (rw [List.length_map]; (first | assumption | decide | exact le0 (by assumption) (by decide) | exact le1 (by assumption) (by decide) | exact le2 (by assumption) (by assumption) (by decide) | lia | omega))) ?_
    refine ⟨cols.length, by simp, by (first | assumption | decide | exact le0 (by assumption) (by decide) | exact le1 (by assumption) (by decide) | exact le2 (by assumption) (by assumption) (by decide) | lia | omega), ?_⟩
    refine comp_pure (X := []) (xs := List.range cols.length) (enc := fun (k : Nat) => .int (k : Int)) (g := fun j => tupI (ys.map fun r => r.getD j 0)) (p := fun _ => true) rfl (by simp; (first | assumption | decide | exact le0 (by assumption) (by decide) | exact le1 (by assumption) (by decide) | exact le2 (by assumption) (by assumption) (by decide) | lia | omega)) (fun _ _ => trivial) (fun j hjj σk hk => ?_) (fun σk hk => ?_)
    · have hjj : j < cols.length := List.mem_range.mp hjj
      have hgk := hk.get hg (by first | exact nn | exact lb rfl | simp)
      refine as_name rfl ?_
      show EvE _ _ _ _ _ _ _
      refine evB_tuple hC rfl ?_
      refine evl_cons (ev_comp ⟨rfl, by decide, rfl, rfl⟩ (fun _ _ => rfl) ?_)
      refine evi_list rfl ?_
      repeat ktr_rel
      refine ⟨_, _, rfl, hgk, ?_⟩
      refine comp_pure (X := []) (xs := ys) (enc := tupI) (g := fun r => .int (r.getD j 0)) (p := fun _ => true) rfl (by (first | assumption | decide | exact le0 (by assumption) (by decide) | exact le1 (by assumption) (by decide) | exact le2 (by assumption) (by assumption) (by decide) | lia | omega)) (fun σi hi => hi.get hgk (by first | exact nn | exact lb rfl | simp)) (fun r hr σl hl' => ?_) (fun σl hl' => ?_)
      · refine as_name rfl ?_
        show EvE _ _ _ _ _ _ _
        repeat ktr_rel
        have hck : j < r.length := by rw [hrow r hr]; exact hjj
        refine sub_at (a := .int (r.getD j 0)) (by (first | assumption | decide | exact le0 (by assumption) (by decide) | exact le1 (by assumption) (by decide) | exact le2 (by assumption) (by assumption) (by decide) | lia | omega)) (by (first | assumption | decide | exact le0 (by assumption) (by decide) | exact le1 (by assumption) (by decide) | exact le2 (by assumption) (by assumption) (by decide) | lia | omega)) (by simp [hck]) ?_
        exact ⟨rfl, rfl, hl'⟩
      · refine evl_nil ?_
        have ef : (ys.filter fun _ => true) = ys := List.filter_eq_self.mpr fun _ _ => rfl
        rw [ef]
        refine cv_tuple_list get_app (by first | exact map_le (by assumption) (by decide) | (rw [List.length_map]; (first | assumption | decide | exact le0 (by assumption) (by decide) | exact le1 (by assumption) (by decide) | exact le2 (by assumption) (by assumption) (by decide) | lia | omega))) ?_
        refine ⟨rfl, ?_, hk.trans hl'.app⟩
        simp [tupI, Function.comp_def]
    · refine evl_nil ?_
      have ef : ((List.range cols.length).filter fun _ => true) = List.range cols.length := List.filter_eq_self.mpr fun _ _ => rfl
      rw [ef]
      refine cv_tuple_list get_app (by simp; (first | assumption | decide | exact le0 (by assumption) (by decide) | exact le1 (by assumption) (by decide) | exact le2 (by assumption) (by assumption) (by decide) | lia | omega)) ?_
      have := h _ (hj2.trans (hk.app (o := .list ((List.range cols.length).map fun j => tupI (ys.map fun r => r.getD j 0)))))
      unfold sortCols colsOf at this
      rw [List.map_map, ← hys] at this
      exact this
end

-- part W9

noncomputable def ordOf (p q : Nat) : List Nat := if p < q then [0, 1] else [1, 0]
noncomputable def pick2 (p q : Nat) (k : Nat) : Nat := if k = 0 then p else q
noncomputable def permRow (p q : Nat) (l : List Int) : List Int := (ordOf p q).map fun k => l.getD k 0
theorem ord_mem {p q k : Nat} (h : k ∈ ordOf p q) : k = 0 ∨ k = 1 := by
  unfold ordOf at h
  split at h <;> simp at h <;> (first | assumption | decide | exact le0 (by assumption) (by decide) | exact le1 (by assumption) (by decide) | exact le2 (by assumption) (by assumption) (by decide) | lia | omega)
theorem ord_len (p q : Nat) : (ordOf p q).length = 2 := by unfold ordOf; split <;> rfl
theorem ord_sort {p q : Nat} (h : p ≠ q) {ys : List (List Int)} (hp : ys.Perm [[(p : Int), 0], [(q : Int), 1]]) (hs : ys.Pairwise (fun a b => ltI b a = false)) : ys = (ordOf p q).map fun k => [(pick2 p q k : Int), (k : Int)] := by
  refine uniqT (b := (ordOf p q).map fun k => [(pick2 p q k : Int), (k : Int)]) (hp.trans ?_) hs ?_
  · unfold ordOf
    split
    · exact List.Perm.refl _
    · exact List.Perm.swap _ _ _
  · unfold ordOf
    split
    · rename_i hlt
      simp [ltI, pick2]
      have : ¬ ((q : Int) = (p : Int)) := fun e => h (Int.ofNat.inj e).symm
      simp [this]
      (first | assumption | decide | exact le0 (by assumption) (by decide) | exact le1 (by assumption) (by decide) | exact le2 (by assumption) (by assumption) (by decide) | lia | omega)
    · rename_i hlt
      simp [ltI, pick2]
      have : ¬ ((p : Int) = (q : Int)) := fun e => h (Int.ofNat.inj e)
      simp [this]
      (first | assumption | decide | exact le0 (by assumption) (by decide) | exact le1 (by assumption) (by decide) | exact le2 (by assumption) (by assumption) (by decide) | lia | omega)

section
variable {C : Cx} {n : Nat} {σ : List AO} {Q : AV → List AO → Prop}
theorem c_plain_table {p q : Nat} {rows : List (List Int)} (hC : C.Ok recs) (hpq : p ≠ q) (h2 : ∀ l ∈ rows, l.length = 2) (hr : rows.map (permRow p q) ∈ rowSeqs) (hz : rows.length ≤ 5)
    (h : ∀ σ', Keep [] σ σ' → Q (Told.table (if p < q then p else q) (if p < q then q else p) (sortT (rows.map (permRow p q)))).enc σ') : CallF C (n + 1) "plain_table" [(Told.table p q rows).enc] σ Q := by
  refine callF hC d5_mem d5_ok rfl ?_
  refine ex_cons (ex_unpack rfl rfl ?_ (by intro _; rfl) (by intro env h; obtain ⟨⟩ := env; cases h; rfl))
  show EvE _ _ _ _ _ _ _
  repeat ktr_rel
  refine ⟨_, rfl, rfl, ?_⟩
  refine ex_cons (ex_assignC ⟨rfl, by decide, rfl, rfl⟩ (fun _ _ => rfl) rfl ?_)
  refine evi_list rfl ?_
  refine evB_sorted hC rfl ?_
  refine evl_cons (ev_comp ⟨rfl, by decide, rfl, rfl⟩ (fun _ _ => rfl) ?_)
  refine evi_range hC rfl rfl rfl rfl ?_
  refine evB_len hC rfl ?_
  repeat ktr_rel
  refine cv_len_tup (l := avN [p, q]) (by simp [avN]) ?_
  refine ⟨2, rfl, by (first | assumption | decide | exact le0 (by assumption) (by decide) | exact le1 (by assumption) (by decide) | exact le2 (by assumption) (by assumption) (by decide) | lia | omega), ?_⟩
  refine comp_pure (X := []) (xs := List.range 2) (enc := fun (k : Nat) => .int (k : Int)) (g := fun k => .tup [.int (pick2 p q k : Int), .int (k : Int)]) (p := fun _ => true) rfl (by first | exact nn | exact lb rfl | simp) (fun _ _ => trivial) (fun k hk σj hj => ?_) (fun σj hj => ?_)
  · have hk : k < 2 := List.mem_range.mp hk
    refine as_name rfl ?_
    show EvE _ _ _ _ _ _ _
    repeat ktr_rel
    refine sub_at (a := .int (pick2 p q k : Int)) (by (first | assumption | decide | exact le0 (by assumption) (by decide) | exact le1 (by assumption) (by decide) | exact le2 (by assumption) (by assumption) (by decide) | lia | omega)) (by (first | assumption | decide | exact le0 (by assumption) (by decide) | exact le1 (by assumption) (by decide) | exact le2 (by assumption) (by assumption) (by decide) | lia | omega)) ?_ ?_
    · have : k = 0 ∨ k = 1 := by (first | assumption | decide | exact le0 (by assumption) (by decide) | exact le1 (by assumption) (by decide) | exact le2 (by assumption) (by assumption) (by decide) | lia | omega)
      rcases this with rfl | rfl <;> rfl
    repeat ktr_rel
    exact ⟨by first | exact lb rfl | simp, rfl, rfl, hj⟩
  · refine evl_nil ?_
    refine cv_sorted_tups (xs := [[(p : Int), 0], [(q : Int), 1]]) (.inl (.inr ⟨_, rfl, get_app⟩)) (by first | exact nn | exact lb rfl | simp) (by first | exact nn | exact lb rfl | simp) fun ys hp hs => ?_
    have hys := ord_sort hpq hp hs
    subst hys
    have hj1 : Keep [] σ (σj ++ [AO.list (((List.range 2).filter fun _ => true).map fun k => AV.tup [AV.int (pick2 p q k : Int), AV.int (k : Int)])]) := hj.app
    generalize (σj ++ [AO.list (((List.range 2).filter fun _ => true).map fun k => AV.tup [AV.int (pick2 p q k : Int), AV.int (k : Int)])]) = σg at *
    refine ⟨_, _, rfl, get_app, ?_⟩
    have hg : (σg ++ [AO.list (((ordOf p q).map fun k => [(pick2 p q k : Int), (k : Int)]).map fun l => AV.tup (l.map AV.int))])[σg.length]? = some (.list (((ordOf p q).map fun k => [(pick2 p q k : Int), (k : Int)]).map fun l => AV.tup (l.map AV.int))) := get_app
    have hj2 : Keep [] σ (σg ++ [AO.list (((ordOf p q).map fun k => [(pick2 p q k : Int), (k : Int)]).map fun l => AV.tup (l.map AV.int))]) := hj1.app
    generalize (σg ++ [AO.list (((ordOf p q).map fun k => [(pick2 p q k : Int), (k : Int)]).map fun l => AV.tup (l.map AV.int))]) = σh at *
    have hol := ord_len p q
    refine comp_pure (X := []) (xs := ordOf p q) (enc := fun k => .tup [.int (pick2 p q k : Int), .int (k : Int)]) (g := fun (k : Nat) => .int (k : Int)) (p := fun _ => true) (by rw [List.map_map]; rfl) (by (first | assumption | decide | exact le0 (by assumption) (by decide) | exact le1 (by assumption) (by decide) | exact le2 (by assumption) (by assumption) (by decide) | lia | omega)) (fun σi hi => hi.get hg (by first | exact nn | exact lb rfl | simp)) (fun k hk σk hk' => ?_) (fun σk hk' => ?_)
    · refine as_tup rfl rfl rfl ?_
      show EvE _ _ _ _ _ _ _
      repeat ktr_rel
      first | exact ⟨rfl, rfl, hk'⟩ | exact ⟨rfl, hk'⟩ | exact hk'
    have ef : ((ordOf p q).filter fun _ => true) = ordOf p q := List.filter_eq_self.mpr fun _ _ => rfl
    rw [ef]
    have ho : (σk ++ [AO.list ((ordOf p q).map fun (k : Nat) => AV.int (k : Int))])[σk.length]? = some (.list ((ordOf p q).map fun (k : Nat) => AV.int (k : Int))) := get_app
    have hj3 : Keep [] σ (σk ++ [AO.list ((ordOf p q).map fun (k : Nat) => AV.int (k : Int))]) := (hj2.trans hk').app
    generalize (σk ++ [AO.list ((ordOf p q).map fun (k : Nat) => AV.int (k : Int))]) = σo at *
    refine ex_cons (ex_assign rfl ?_ (by intro _; rfl))
    refine evB_sorted hC rfl ?_
    refine evl_cons (evB_set hC rfl ?_)
    refine evl_cons (ev_comp ⟨rfl, by decide, rfl, rfl⟩ (fun _ _ => rfl) ?_)
    refine evi_tup rfl ?_
    repeat ktr_rel
    refine ⟨_, rfl, ?_⟩
    refine comp_pure (X := []) (xs := rows) (enc := fun l => .tup (avI l)) (g := fun l => tupI (permRow p q l)) (p := fun _ => true) rfl (by (first | assumption | decide | exact le0 (by assumption) (by decide) | exact le1 (by assumption) (by decide) | exact le2 (by assumption) (by assumption) (by decide) | lia | omega)) (fun _ _ => trivial) (fun l hl σl hl' => ?_) (fun σl hl' => ?_)
    · have hol' := hl'.get ho (by first | exact nn | exact lb rfl | simp)
      refine as_name rfl ?_
      show EvE _ _ _ _ _ _ _
      refine evB_tuple hC rfl ?_
      refine evl_cons (ev_comp ⟨rfl, by decide, rfl, rfl⟩ (fun _ _ => rfl) ?_)
      refine evi_list rfl ?_
      repeat ktr_rel
      refine ⟨_, _, rfl, hol', ?_⟩
      refine comp_pure (X := []) (xs := ordOf p q) (enc := fun (k : Nat) => .int (k : Int)) (g := fun k => .int (l.getD k 0)) (p := fun _ => true) rfl (by (first | assumption | decide | exact le0 (by assumption) (by decide) | exact le1 (by assumption) (by decide) | exact le2 (by assumption) (by assumption) (by decide) | lia | omega)) (fun σi hi => hi.get hol' (by first | exact nn | exact lb rfl | simp)) (fun k hk σm hm => ?_) (fun σm hm => ?_)
      · refine as_name rfl ?_
        show EvE _ _ _ _ _ _ _
        repeat ktr_rel
        have hk2 := ord_mem hk
        have hll := h2 l hl
        refine sub_at (a := .int (l.getD k 0)) (by (first | assumption | decide | exact le0 (by assumption) (by decide) | exact le1 (by assumption) (by decide) | exact le2 (by assumption) (by assumption) (by decide) | lia | omega)) (by (first | assumption | decide | exact le0 (by assumption) (by decide) | exact le1 (by assumption) (by decide) | exact le2 (by assumption) (by assumption) (by decide) | lia | omega)) (by simp [avI, show k < l.length by (first | assumption | decide | exact le0 (by assumption) (by decide) | exact le1 (by assumption) (by decide) | exact le2 (by assumption) (by assumption) (by decide) | lia | omega)]) ?_
        exact ⟨rfl, rfl, hm⟩
      · refine evl_nil ?_
        rw [ef]
        refine cv_tuple_list get_app (by first | exact map_le (by assumption) (by decide) | (rw [List.length_map]; (first | assumption | decide | exact le0 (by assumption) (by decide) | exact le1 (by assumption) (by decide) | exact le2 (by assumption) (by assumption) (by decide) | lia | omega))) ?_
        refine ⟨rfl, ?_, hl'.trans hm.app⟩
        simp [tupI, permRow, Function.comp_def]
    · refine evl_nil ?_
      have er : (rows.filter fun _ => true) = rows := List.filter_eq_self.mpr fun _ _ => rfl
      rw [er]
      have e5 : (rows.map fun l => tupI (permRow p q l)) = (rows.map (permRow p q)).map fun l => AV.tup (l.map .int) := by rw [List.map_map]; rfl
      rw [e5]
      refine cv_set_pairs (xs := rows.map (permRow p q)) (.inr ⟨_, rfl, get_app⟩) hr fun m hm => ?_
      refine evl_nil ?_
      obtain ⟨zs, rfl, hzs⟩ := perm_tups hm
      have hzl : zs.length ≤ 5 := by rw [hzs.length_eq, List.length_map]; exact hz
      refine cv_sorted_tups (xs := zs) (.inr ⟨_, rfl, get_app⟩) (fun l hl => ?_) hzl fun ys hp hs => ?_
      · have := hzs.mem_iff.mp hl
        obtain ⟨l', _, rfl⟩ := List.mem_map.mp this
        intro e
        have := congrArg List.length e
        simp [permRow, ord_len] at this
      have hys := sortT_of (hp.trans hzs) hs
      have hyl : ys.length ≤ 5 := by rw [hp.length_eq]; exact hzl
      have hl2 := (hl'.app (o := .list ((rows.map (permRow p q)).map fun l => AV.tup (l.map .int)))).app (o := .set (zs.map fun l => AV.tup (l.map .int)))
      generalize (σl ++ [AO.list ((rows.map (permRow p q)).map fun l => AV.tup (l.map .int))] ++ [AO.set (zs.map fun l => AV.tup (l.map .int))]) = σs at *
      have hks : (σs ++ [AO.list (ys.map fun l => AV.tup (l.map .int))])[σs.length]? = some (.list (ys.map fun l => AV.tup (l.map .int))) := get_app
      have hl3 : Keep [] σo (σs ++ [AO.list (ys.map fun l => AV.tup (l.map .int))]) := hl2.app
      generalize (σs ++ [AO.list (ys.map fun l => AV.tup (l.map .int))]) = σt at *
      have hot := hl3.get ho (by first | exact nn | exact lb rfl | simp)
      refine ex_cons (ex_return ?_)
      repeat ktr_rel
      refine evB_tuple hC rfl ?_
      refine evl_cons (ev_comp ⟨rfl, by decide, rfl, rfl⟩ (fun _ _ => rfl) ?_)
      refine evi_list rfl ?_
      repeat ktr_rel
      refine ⟨_, _, rfl, hot, ?_⟩
      refine comp_pure (X := []) (xs := ordOf p q) (enc := fun (k : Nat) => .int (k : Int)) (g := fun k => .int (pick2 p q k : Int)) (p := fun _ => true) rfl (by (first | assumption | decide | exact le0 (by assumption) (by decide) | exact le1 (by assumption) (by decide) | exact le2 (by assumption) (by assumption) (by decide) | lia | omega)) (fun σi hi => hi.get hot (by first | exact nn | exact lb rfl | simp)) (fun k hk σm hm => ?_) (fun σm hm => ?_)
      · refine as_name rfl ?_
        show EvE _ _ _ _ _ _ _
        repeat ktr_rel
        have hk2 := ord_mem hk
        refine sub_at (a := .int (pick2 p q k : Int)) (by (first | assumption | decide | exact le0 (by assumption) (by decide) | exact le1 (by assumption) (by decide) | exact le2 (by assumption) (by assumption) (by decide) | lia | omega)) (by (first | assumption | decide | exact le0 (by assumption) (by decide) | exact le1 (by assumption) (by decide) | exact le2 (by assumption) (by assumption) (by decide) | lia | omega)) (by rcases hk2 with rfl | rfl <;> rfl) ?_
        exact ⟨rfl, rfl, hm⟩
      · refine evl_nil ?_
        rw [ef]
        refine cv_tuple_list get_app (by first | exact map_le (by assumption) (by decide) | (rw [List.length_map]; (first | assumption | decide | exact le0 (by assumption) (by decide) | exact le1 (by assumption) (by decide) | exact le2 (by assumption) (by assumption) (by decide) | lia | omega))) ?_
        have hm' := hm.app (o := .list ((ordOf p q).map fun k => AV.int (pick2 p q k : Int)))
        have hkm := hm'.get hks (by first | exact nn | exact lb rfl | simp)
        repeat ktr_rel
        refine evB_tuple hC rfl ?_
        repeat ktr_rel
        refine cv_tuple_list hkm (by first | exact map_le (by assumption) (by decide) | (rw [List.length_map]; (first | assumption | decide | exact le0 (by assumption) (by decide) | exact le1 (by assumption) (by decide) | exact le2 (by assumption) (by assumption) (by decide) | lia | omega))) ?_
        repeat ktr_rel
        have := h _ (hj3.trans (hl3.trans hm'))
        have e6 : (Told.table (if p < q then p else q) (if p < q then q else p) (sortT (rows.map (permRow p q)))).enc = .tup [.str "table", .tup ((ordOf p q).map fun k => AV.int (pick2 p q k : Int)), .tup (ys.map fun l => .tup (l.map .int))] := by
          rw [hys]; unfold ordOf; split <;> rfl
        rw [e6] at this
        exact ⟨by first | exact lb rfl | simp, this⟩
end

-- part W10
noncomputable def sortI (l : List Int) : List Int := l.mergeSort fun a b => decide (a ≤ b)
theorem sortI_of {xs ys : List Int} (hp : ys.Perm xs) (hs : ys.Pairwise (· ≤ ·)) : ys = sortI xs := by
  refine lks_uniq (hp.trans (List.mergeSort_perm _ _).symm) hs ?_
  have := List.pairwise_mergeSort (le := fun (a b : Int) => decide (a ≤ b)) (fun a b c h1 h2 => by simp at *; (first | assumption | decide | exact le0 (by assumption) (by decide) | exact le1 (by assumption) (by decide) | exact le2 (by assumption) (by assumption) (by decide) | lia | omega)) (fun a b => by simp; (first | assumption | decide | exact le0 (by assumption) (by decide) | exact le1 (by assumption) (by decide) | exact le2 (by assumption) (by assumption) (by decide) | lia | omega)) xs
  exact this.imp fun {a b} h => by simpa using h
noncomputable def natI (l : List Nat) : List Int := l.map Int.ofNat
theorem avN_eq (l : List Nat) : avN l = (natI l).map .int := by simp [avN, natI, Function.comp_def]

section
variable {C : Cx} {n : Nat} {σ : List AO} {Q : AV → List AO → Prop}
theorem c_counted {x : Str} {r : List Nat} {rest : List AV} (hC : C.Ok recs) (hx : x = "all_different" ∨ x = "nvalue" ∨ x = "count") (hr : r.length ≤ 5) (h0 : rest ≠ []) (hz : rest.length ≤ 5)
    (h : ∀ σ', Keep [] σ σ' → Q (.tup (.str x :: tupI (sortI (natI r)) :: rest)) σ') : CallF C (n + 1) "plain_counted" [.tup (.str x :: .tup (avN r) :: rest)] σ Q := by
  refine callF hC d6_mem d6_ok rfl ?_
  refine ex_cons ?_
  have ed : ((AV.str x :: AV.tup (avN r) :: rest).drop 2).take ((Option.none.getD (AV.str x :: AV.tup (avN r) :: rest).length) - 2) = rest := by
    show rest.take (rest.length + 1 + 1 - 2) = rest
    rw [show rest.length + 1 + 1 - 2 = rest.length from rfl, List.take_length]
  have fin : ∀ σf, Keep [] σ σf → CallV C n (.builtin "sorted") [.tup (avN r)] σf fun v σ' => ∃ k, v = .ref k ∧ σ'[k]? = some (.list ((sortI (natI r)).map .int)) ∧ Keep [] σ σ' := fun σf hf => by
    rw [avN_eq]
    refine cv_sorted_ints (xs := natI r) (.inl (.inl rfl)) (by simp [natI]; exact hr) fun ys hp hs => ?_
    rw [sortI_of hp hs]
    exact ⟨_, rfl, get_app, hf.app⟩
  have hsl : (sortI (natI r)).length ≤ 5 := by
    have := (List.mergeSort_perm (natI r) fun a b => decide (a ≤ b)).length_eq
    unfold sortI; rw [this]; simp [natI]; exact hr
  have f : (x == "cardinality") = false ∧ (x == "cumulative") = false ∧ (x == "disjunctive") = false := by
    rcases hx with rfl | rfl | rfl <;> decide +kernel
  obtain ⟨f1, f2, f3⟩ := f
  · repeat ktr_rel
    refine cmp_eq_str_f f1 ?_
    repeat ktr_rel
    refine cmp_eq_str_f f2 ?_
    repeat ktr_rel
    refine cmp_eq_str_f f3 ?_
    repeat ktr_rel
    refine evB_tuple hC rfl ?_
    refine evl_cons (evB_sorted hC rfl ?_)
    repeat ktr_rel
    refine ⟨fun A R As s E vs S r' => wpAny_mono ((fin σ Keep.refl).run A R As s E vs S r') (fun _ _ p => p.mono fun v σ' q => ?_) fun _ _ e => e⟩
    obtain ⟨k, rfl, hk, hK⟩ := q
    refine evl_nil ?_
    refine cv_tuple_list hk (by first | exact map_le (by assumption) (by decide) | (rw [List.length_map]; (first | assumption | decide | exact le0 (by assumption) (by decide) | exact le1 (by assumption) (by decide) | exact le2 (by assumption) (by assumption) (by decide) | lia | omega))) ?_
    repeat ktr_rel
    refine ⟨by first | exact lb rfl | simp, ?_⟩
    refine ev_slice_tup (a := 2) (ub := Option.none) rfl rfl (by decide) ?_
    repeat ktr_rel
    refine ⟨_, rfl, by simp, by simp, by simp; (first | assumption | decide | exact le0 (by assumption) (by decide) | exact le1 (by assumption) (by decide) | exact le2 (by assumption) (by assumption) (by decide) | lia | omega), ?_⟩
    rw [ed]
    refine bin_add_tup (by first | exact nn | exact lb rfl | simp) h0 (by simp; (first | assumption | decide | exact le0 (by assumption) (by decide) | exact le1 (by assumption) (by decide) | exact le2 (by assumption) (by assumption) (by decide) | lia | omega)) ?_
    exact h _ hK

theorem c_counted_cumul {r : List Nat} {a b : List Int} (hC : C.Ok recs) (hr : r.length ≤ 5) (ha : a.length = r.length) (hb : b.length = r.length)
    (h : ∀ σ', Keep [] σ σ' → Q (.tup (.str "cumulative" :: ((sortCols [natI r, a, b] r.length).map tupI ++ [.int 2]))) σ') : CallF C (n + 2) "plain_counted" [(Told.cumul r a b).enc] σ Q := by
  refine callF hC d6_mem d6_ok rfl ?_
  refine ex_cons ?_
  show Ex1 _ _ _ [("told", AV.tup [.str "cumulative", .tup (avN r), .tup (avI a), .tup (avI b), .int 2])] _ _ _
  repeat ktr_rel
  refine ev_callF hC d4_mem rfl rfl ?_
  refine evl_cons (ev_slice_tup (a := 1) (ub := some 4) rfl rfl (by decide) ?_)
  repeat ktr_rel
  refine ⟨_, rfl, by simp, by simp, by simp, ?_⟩
  refine evl_nil ?_
  have e1 : ([AV.str "cumulative", .tup (avN r), .tup (avI a), .tup (avI b), .int 2].drop 1).take ((some 4).getD [AV.str "cumulative", .tup (avN r), .tup (avI a), .tup (avI b), .int 2].length - 1) = [natI r, a, b].map tupI := by
    show [AV.tup (avN r), .tup (avI a), .tup (avI b)] = _
    rw [avN_eq]; rfl
  rw [e1]
  refine c_rows_sorted (m := r.length) hC (by first | exact nn | exact lb rfl | simp) (by first | exact nn | exact lb rfl | simp) hr (by simp [natI, ha, hb]) fun σ' hK => ?_
  have hcl : (sortCols [natI r, a, b] r.length).length = 3 := by simp [sortCols, colsOf]
  refine bin_add_tup (by first | exact nn | exact lb rfl | simp) (by intro e; have := congrArg List.length e; simp [hcl] at this) (by simp [hcl]) ?_
  refine ev_slice_tup (a := 4) (ub := Option.none) rfl rfl (by decide) ?_
  repeat ktr_rel
  refine ⟨_, rfl, by simp, by simp, by simp, ?_⟩
  refine bin_add_tup (by first | exact nn | exact lb rfl | simp) (by first | exact nn | exact lb rfl | simp) (by simp [hcl]) ?_
  exact h _ hK
end

-- part W11
noncomputable def baseSeqs : List (List (List Int)) := (List.range 16).map fun m => ((([[1, 0], [0, 0], [1, 1], [0, 1]] : List (List Int)).zipIdx.filter fun p => Nat.beq (m / 2 ^ p.2 % 2) 1).map (·.1))
theorem base_ok : (baseSeqs.all fun rows => rowSeqs.contains (rows.map fun l => [0, 1].map fun k => l.getD k 0) && rowSeqs.contains (rows.map fun l => [1, 0].map fun k => l.getD k 0) && (rows.all fun l => Nat.beq l.length 2) && Nat.ble rows.length 5) = true := by decide +kernel
theorem base_facts {rows : List (List Int)} (h : rows ∈ baseSeqs) (p q : Nat) : rows.map (permRow p q) ∈ rowSeqs ∧ (∀ l ∈ rows, l.length = 2) ∧ rows.length ≤ 5 := by
  have := List.all_eq_true.mp base_ok rows h
  simp only [Bool.and_eq_true, List.contains_eq_mem, decide_eq_true_eq, List.all_eq_true] at this
  refine ⟨?_, fun l hl => Nat.eq_of_beq_eq_true (this.1.2 l hl), Nat.le_of_ble_eq_true this.2⟩
  unfold permRow ordOf
  split
  · exact this.1.1.1
  · exact this.1.1.2


noncomputable def Told.More : Told → Prop
  | .table p q rows => p ≠ q ∧ rows ∈ baseSeqs
  | .cumul r a b => 0 < r.length ∧ a.length = r.length ∧ b.length = r.length
  | .nvalue r _ => 0 < r.length
  | .count r _ => 0 < r.length
  | .alldiff r => 0 < r.length
  | _ => True
noncomputable def Lin.rest (l : Lin) : List AV := [.tup (avI l.coefs), .tup (avN l.vars), .int l.c]

noncomputable def Told.pl : Told → List AV
  | .lin l => l.plain.rest
  | .times a b c => [.int (if (b : Int) < a then (b : Int) else a), .int (if (b : Int) > a then (b : Int) else a), .int (c : Int)]
  | .xor a b c => (sortI (natI [a, b, c])).map .int
  | .mx r x => [.tup (avN (sset r)), .int (x : Int)]
  | .nvalue r x => [tupI (sortI (natI r)), .int (x : Int)]
  | .count r x => [tupI (sortI (natI r)), .int 1, .int (x : Int)]
  | .cumul r a b => (sortCols [natI r, a, b] r.length).map tupI ++ [.int 2]
  | .clause r q => [.tup (avN (sset r)), .tup (avN (sset q))]
  | .element i r x => [.int (i : Int), .tup (avN r), .int (x : Int)]
  | .table p q rows => [.tup (avN [if p < q then p else q, if p < q then q else p]), .tup ((sortT (rows.map (permRow p q))).map fun l => .tup (avI l))]
  | .reif x l => [.int (x : Int), l.plain.enc]
  | .incr r => [.tup (avN r)]
  | .alldiff r => [tupI (sortI (natI r)), .str "values"]

section
variable {C : Cx} {n : Nat} {σ : List AO} {Q : AV → List AO → Prop}
theorem lin_any : ∀ x ∈ linNames, (["linear_le", "linear_eq", "linear_ne"] : List Str).any (· == x) = true := by decide +kernel
theorem c_plain_lin {l : Lin} (hC : C.Ok recs) (hn : l.name ∈ linNames) (h5 : ∀ v ∈ l.vars, v < 5) (hz : l.vars.length ≤ 5) (h : ∀ σ', Keep [] σ σ' → Q l.plain.enc σ') : CallF C (n + 2) "plain" [l.enc] σ Q := by
  refine callF hC d7_mem d7_ok rfl ?_
  refine ex_cons ?_
  show Ex1 _ _ _ [("told", AV.tup [.str l.name, .tup (avI l.coefs), .tup (avN l.vars), .int l.c])] _ _ _
  repeat ktr_rel
  refine cmp_in_strs_t (by repeat constructor) (lin_any _ hn) ?_
  repeat ktr_rel
  refine ev_callF hC d3_mem rfl rfl ?_
  repeat ktr_rel
  exact c_plain_linear hC hn h5 hz h
noncomputable def cnts : List Str := ["nvalue", "count", "all_different", "cumulative"]
theorem cnt_facts : ∀ x ∈ cnts, (["linear_le", "linear_eq", "linear_ne"] : List Str).any (· == x) = false ∧ (x == "table") = false ∧ (["all_different", "nvalue", "count", "cardinality", "cumulative", "disjunctive"] : List Str).any (· == x) = true := by decide +kernel
theorem plain_pre {x : Str} {r : List Nat} {rest : List AV} (hC : C.Ok recs) (hx : x ∈ cnts) (h0 : 0 < r.length) (h5 : r.length ≤ 5) (H : CallF C (n + 3) "plain_counted" [.tup (.str x :: .tup (avN r) :: rest)] σ Q) : CallF C (n + 4) "plain" [.tup (.str x :: .tup (avN r) :: rest)] σ Q := by
  obtain ⟨f1, f2, f3⟩ := cnt_facts x hx
  refine callF hC d7_mem d7_ok rfl ?_
  refine ex_cons ?_
  show Ex1 _ _ _ [("told", AV.tup (.str x :: .tup (avN r) :: rest))] _ _ _
  repeat ktr_rel
  refine cmp_in_strs_f (by repeat constructor) f1 ?_
  repeat ktr_rel
  refine cmp_eq_str_f f2 ?_
  repeat ktr_rel
  refine cmp_in_strs_t (by repeat constructor) f3 ?_
  repeat ktr_rel
  refine evB_len hC rfl ?_
  repeat ktr_rel
  refine cv_len_tup (by first | exact avN_le (by assumption) (by decide) | (simp [avN]; (first | assumption | decide | exact le0 (by assumption) (by decide) | exact le1 (by assumption) (by decide) | exact le2 (by assumption) (by assumption) (by decide) | lia | omega))) ?_
  repeat ktr_rel
  refine cmp_gt_int ?_
  have hdec : decide ((0 : Int) < (((avN r).length : Nat) : Int)) = true := by simp only [avN, List.length_map, decide_eq_true_eq]; exact Int.ofNat_lt.mpr h0
  rw [hdec]
  refine ev_callF hC d6_mem rfl rfl ?_
  repeat ktr_rel
theorem c_plain {t : Told} (hC : C.Ok recs) (ht : t.Ok) (hm : t.More) (h : ∀ σ', Keep [] σ σ' → Q (.tup (.str t.name :: t.pl)) σ') : CallF C (n + 4) "plain" [t.enc] σ Q := by
  have vars := ht.vars
  have few := ht.few
  cases t with
  | lin l => exact c_plain_lin (n := n + 2) hC (ht.lin l (.inl rfl)) (fun v hv => vars (.V l.vars) (by simp [Told.parts, Lin.parts]) v hv) (few (.V l.vars) (by simp [Told.parts, Lin.parts])) h
  | times a b c =>
    refine callF hC d7_mem d7_ok rfl ?_
    refine ex_cons ?_
    show Ex1 _ _ _ [("told", AV.tup [.str "times", .int (a : Int), .int (b : Int), .int (c : Int)])] _ _ _
    repeat ktr_rel
    refine evB_min hC rfl ?_
    repeat ktr_rel
    refine cv_min ?_
    refine evl_cons (evB_max hC rfl ?_)
    repeat ktr_rel
    refine cv_max ?_
    repeat ktr_rel
    first | exact h σ Keep.refl | exact ⟨by first | exact lb rfl | simp, h σ Keep.refl⟩
  | xor a b c =>
    refine callF hC d7_mem d7_ok rfl ?_
    refine ex_cons ?_
    show Ex1 _ _ _ [("told", AV.tup [.str "xor", .int (a : Int), .int (b : Int), .int (c : Int)])] _ _ _
    repeat ktr_rel
    refine evB_tuple hC rfl ?_
    refine evl_cons (evB_sorted hC rfl ?_)
    refine evl_cons (ev_slice_tup (a := 1) (ub := Option.none) rfl rfl (by decide) ?_)
    repeat ktr_rel
    refine ⟨_, rfl, by simp, by simp, by simp, ?_⟩
    refine evl_nil ?_
    refine cv_sorted_ints (xs := natI [a, b, c]) (.inl (.inl rfl)) (by simp [natI]) fun ys hp hs => ?_
    have hy := sortI_of hp hs
    have hyl : ys.length = 3 := by rw [hp.length_eq]; simp [natI]
    refine evl_nil ?_
    refine cv_tuple_list get_app (by first | exact map_le (by assumption) (by decide) | (rw [List.length_map]; (first | assumption | decide | exact le0 (by assumption) (by decide) | exact le1 (by assumption) (by decide) | exact le2 (by assumption) (by assumption) (by decide) | lia | omega))) ?_
    refine bin_add_tup (by first | exact nn | exact lb rfl | simp) (by intro e; have := congrArg List.length e; simp [hyl] at this) (by simp [hyl]) ?_
    have := h _ (Keep.refl.app (o := .list (ys.map .int)))
    rw [hy]
    rw [hy] at this
    exact this
  | mx r x =>
    refine callF hC d7_mem d7_ok rfl ?_
    refine ex_cons ?_
    show Ex1 _ _ _ [("told", AV.tup [.str "max", .tup (avN r), .int (x : Int)])] _ _ _
    repeat ktr_rel
    refine evB_tuple hC rfl ?_
    refine evl_cons (ev_sset hC rfl rfl rfl rfl rfl ?_)
    repeat ktr_rel
    refine ⟨r, .inl rfl, fun v hv => vars (.V r) (by simp [Told.parts]) v hv, fun σ'' k hK hk => ?_⟩
    refine evl_nil ?_
    have := sset_len r
    refine cv_tuple_list hk (by first | exact avN_le (by assumption) (by decide) | (simp [avN]; (first | assumption | decide | exact le0 (by assumption) (by decide) | exact le1 (by assumption) (by decide) | exact le2 (by assumption) (by assumption) (by decide) | lia | omega))) ?_
    repeat ktr_rel
    first | exact h _ hK | exact ⟨by first | exact lb rfl | simp, h _ hK⟩
  | clause r q =>
    refine callF hC d7_mem d7_ok rfl ?_
    refine ex_cons ?_
    show Ex1 _ _ _ [("told", AV.tup [.str "clause", .tup (avN r), .tup (avN q)])] _ _ _
    repeat ktr_rel
    refine evB_tuple hC rfl ?_
    refine evl_cons (ev_sset hC rfl rfl rfl rfl rfl ?_)
    repeat ktr_rel
    refine ⟨r, .inl rfl, fun v hv => vars (.V r) (by simp [Told.parts]) v hv, fun σ'' k hK hk => ?_⟩
    refine evl_nil ?_
    have := sset_len r
    refine cv_tuple_list hk (by first | exact avN_le (by assumption) (by decide) | (simp [avN]; (first | assumption | decide | exact le0 (by assumption) (by decide) | exact le1 (by assumption) (by decide) | exact le2 (by assumption) (by assumption) (by decide) | lia | omega))) ?_
    refine evl_cons (evB_tuple hC rfl ?_)
    refine evl_cons (ev_sset hC rfl rfl rfl rfl rfl ?_)
    repeat ktr_rel
    refine ⟨q, .inl rfl, fun v hv => vars (.V q) (by simp [Told.parts]) v hv, fun σ3 k' hK' hk' => ?_⟩
    refine evl_nil ?_
    have := sset_len q
    refine cv_tuple_list hk' (by first | exact avN_le (by assumption) (by decide) | (simp [avN]; (first | assumption | decide | exact le0 (by assumption) (by decide) | exact le1 (by assumption) (by decide) | exact le2 (by assumption) (by assumption) (by decide) | lia | omega))) ?_
    repeat ktr_rel
    first | exact h _ (hK.trans hK') | exact ⟨by first | exact lb rfl | simp, h _ (hK.trans hK')⟩
  | element i r x =>
    refine callF hC d7_mem d7_ok rfl ?_
    refine ex_cons ?_
    show Ex1 _ _ _ [("told", AV.tup [.str "element", .int (i : Int), .tup (avN r), .int (x : Int)])] _ _ _
    repeat ktr_rel
    exact h σ Keep.refl
  | incr r =>
    refine callF hC d7_mem d7_ok rfl ?_
    refine ex_cons ?_
    show Ex1 _ _ _ [("told", AV.tup [.str "increasing", .tup (avN r)])] _ _ _
    repeat ktr_rel
    exact h σ Keep.refl
  | table p q rows =>
    refine callF hC d7_mem d7_ok rfl ?_
    refine ex_cons ?_
    show Ex1 _ _ _ [("told", AV.tup [.str "table", .tup (avN [p, q]), .tup (rows.map fun l => .tup (avI l))])] _ _ _
    repeat ktr_rel
    refine ev_callF hC d5_mem rfl rfl ?_
    repeat ktr_rel
    obtain ⟨b1, b2, b3⟩ := base_facts hm.2 p q
    exact c_plain_table (n := n + 2) hC hm.1 b2 b1 b3 h
  | reif x l =>
    refine callF hC d7_mem d7_ok rfl ?_
    refine ex_cons ?_
    show Ex1 _ _ _ [("told", AV.tup [.str "reif", .int (x : Int), l.enc])] _ _ _
    repeat ktr_rel
    refine ev_callF hC d7_mem rfl rfl ?_
    repeat ktr_rel
    refine c_plain_lin (n := n + 1) hC (ht.lin l (.inr ⟨_, rfl⟩)) (fun v hv => vars (.t l) (by simp [Told.parts]) v hv) (few (.t l) (by simp [Told.parts])) fun σ' hK => ?_
    repeat ktr_rel
    first | exact h _ hK | exact ⟨by first | exact lb rfl | simp, h _ hK⟩
  | nvalue r x =>
    have hr5 := few (.V r) (by simp [Told.parts])
    exact plain_pre (x := "nvalue") (rest := [.int (x : Int)]) hC (by decide) hm hr5 (c_counted (n := n + 2) (rest := [.int (x : Int)]) hC (.inr (.inl rfl)) hr5 (by first | exact nn | exact lb rfl | simp) (by first | exact nn | exact lb rfl | simp) h)
  | count r x =>
    have hr5 := few (.V r) (by simp [Told.parts])
    exact plain_pre (x := "count") (rest := [.int 1, .int (x : Int)]) hC (by decide) hm hr5 (c_counted (n := n + 2) (rest := [.int 1, .int (x : Int)]) hC (.inr (.inr rfl)) hr5 (by first | exact nn | exact lb rfl | simp) (by first | exact nn | exact lb rfl | simp) h)
  | alldiff r =>
    have hr5 := few (.V r) (by simp [Told.parts])
    exact plain_pre (x := "all_different") (rest := [.str "values"]) hC (by decide) hm hr5 (c_counted (n := n + 2) (rest := [.str "values"]) hC (.inl rfl) hr5 (by first | exact nn | exact lb rfl | simp) (by first | exact nn | exact lb rfl | simp) h)
  | cumul r a b =>
    have hr5 := few (.V r) (by simp [Told.parts])
    exact plain_pre (x := "cumulative") (rest := [.tup (avI a), .tup (avI b), .int 2]) hC (by decide) hm.1 hr5 (c_counted_cumul (n := n + 1) hC hr5 hm.2.1 hm.2.2 h)
end

-- part W12
theorem uniq_gen {α : Type} {R : α → α → Prop} : ∀ {a b : List α}, a.Perm b → a.Pairwise R → b.Pairwise R → (∀ x ∈ a, ∀ y ∈ a, R x y → R y x → x = y) → a = b
  | [], _, p, _, _, _ => p.nil_eq
  | x :: r, b, p, ha, hb, hR => by
    cases b with
    | nil => exact absurd p.length_eq (by first | exact nn | exact lb rfl | simp)
    | cons y t =>
      have hx : x ∈ y :: t := p.mem_iff.mp (.head _)
      have hy : y ∈ x :: r := p.mem_iff.mpr (.head _)
      have e : x = y := by
        rcases List.mem_cons.mp hx with h | h
        · exact h
        · rcases List.mem_cons.mp hy with h' | h'
          · exact h'.symm
          · exact hR x (.head _) y hy ((List.pairwise_cons.mp ha).1 y h') ((List.pairwise_cons.mp hb).1 x h)
      subst e
      rw [uniq_gen (List.Perm.cons_inv p) (List.pairwise_cons.mp ha).2 (List.pairwise_cons.mp hb).2 fun u hu v hv => hR u (.tail _ hu) v (.tail _ hv)]

noncomputable def ltN (a b : Told) : Bool := decide (a.name.cps.toList < b.name.cps.toList)

noncomputable def sortN (ts : List Told) : List Told := ts.mergeSort fun a b => !ltN b a
theorem sortN_perm (ts : List Told) : (sortN ts).Perm ts := List.mergeSort_perm _ _
theorem sortN_pw (ts : List Told) : (sortN ts).Pairwise (fun a b => ltN b a = false) := by
  have := List.pairwise_mergeSort (le := fun a b => !ltN b a) (fun a b c h1 h2 => by
    simp only [ltN, Bool.not_eq_true', decide_eq_false_iff_not] at *
    exact fun h => (List.not_lt.mpr (List.le_trans (List.not_lt.mp h1) (List.not_lt.mp h2))) h) (fun a b => by
    simp only [ltN, Bool.or_eq_true, Bool.not_eq_true', decide_eq_false_iff_not]
    by_cases h : b.name.cps.toList < a.name.cps.toList
    · exact .inr fun h' => List.lt_irrefl _ (List.lt_trans h h')
    · exact .inl h) ts
  exact this.imp fun {a b} h => by simpa using h
noncomputable def formOf (t : Told) : AV := .tup (.str t.name :: t.pl)

section
variable {C : Cx} {n : Nat} {σ : List AO} {Q : AV → List AO → Prop}
theorem c_forms {ts : List Told} {k : Nat} (hC : C.Ok recs) (hk : σ[k]? = some (.list (ts.map Told.enc))) (hz : ts.length ≤ 5) (hok : ∀ t ∈ ts, t.Ok ∧ t.More) (hn : (ts.map Told.name).Nodup)
    (h : ∀ σ' k', Keep [] σ σ' → σ'[k']? = some (.list ((sortN ts).map formOf)) → Q (.ref k') σ') : CallF C (n + 5) "forms" [.ref k] σ Q := by
  refine callF hC d8_mem d8_ok rfl ?_
  refine ex_cons ?_
  repeat ktr_rel
  refine evB_sorted hC rfl ?_
  refine evl_cons (ev_comp ⟨rfl, by decide, rfl, rfl⟩ (fun _ _ => rfl) ?_)
  refine evi_list rfl ?_
  repeat ktr_rel
  refine ⟨_, _, rfl, hk, ?_⟩
  refine comp_pure (X := []) (xs := ts) (enc := Told.enc) (g := formOf) (p := fun _ => true) rfl (by (first | assumption | decide | exact le0 (by assumption) (by decide) | exact le1 (by assumption) (by decide) | exact le2 (by assumption) (by assumption) (by decide) | lia | omega)) (fun σi hi => hi.get hk (by first | exact nn | exact lb rfl | simp)) (fun t ht σj hj => ?_) (fun σj hj => ?_)
  · refine as_name rfl ?_
    show EvE _ _ _ _ _ _ _
    refine ev_callF hC d7_mem rfl rfl ?_
    repeat ktr_rel
    refine c_plain (n := n) hC (hok t ht).1 (hok t ht).2 fun σ' hK => ?_
    exact ⟨rfl, rfl, hj.trans hK⟩
  · refine evl_nil ?_
    have ef : (ts.filter fun _ => true) = ts := List.filter_eq_self.mpr fun _ _ => rfl
    rw [ef]
    have e1 : ts.map formOf = (ts.map fun t => (t.name, t.pl)).map encN := by rw [List.map_map]; rfl
    rw [e1]
    refine cv_sorted_named (xs := ts.map fun t => (t.name, t.pl)) (by first | exact .inl (.inr ⟨_, rfl, get_app⟩) | exact .inr ⟨_, rfl, get_app⟩) (by rw [List.map_map]; exact hn) (by rw [List.length_map]; exact hz) fun ys hp hs => ?_
    have hys : ys = (sortN ts).map fun t => (t.name, t.pl) := by
      refine uniq_gen (R := fun a b => decide (b.1.cps.toList < a.1.cps.toList) = false) (hp.trans ((sortN_perm ts).symm.map _)) hs ?_ ?_
      · rw [List.pairwise_map]; exact sortN_pw ts
      · intro x hx y hy h1 h2
        have hx' := hp.mem_iff.mp hx
        have hy' := hp.mem_iff.mp hy
        obtain ⟨t, ht, rfl⟩ := List.mem_map.mp hx'
        obtain ⟨u, hu, rfl⟩ := List.mem_map.mp hy'
        simp only [decide_eq_false_iff_not] at h1 h2
        have e : t.name.cps.toList = u.name.cps.toList := List.le_antisymm (List.not_lt.mp h1) (List.not_lt.mp h2)
        have e2 : t.name = u.name := by
          have : t.name.cps = u.name.cps := Array.toList_inj.mp e
          cases ht' : t.name; cases hu' : u.name
          rw [ht', hu'] at this
          simp only at this
          rw [this]
        have : t = u := by
          obtain ⟨i, hi, rfl⟩ := List.getElem_of_mem ht
          obtain ⟨j, hj', rfl⟩ := List.getElem_of_mem hu
          have hij : i = j := (List.getElem_inj (h₀ := by simpa using hi) (h₁ := by simpa using hj') hn).mp (by simpa using e2)
          subst hij; rfl
        rw [this]
    rw [hys]
    refine h _ _ (hj.app.app) ?_
    rw [get_app, List.map_map]; rfl
end

-- part W13
-- values without references, as data
mutual
noncomputable def avPure : AV → Bool
  | .int _ => true
  | .str x => (PyData.str x).canLay0
  | .tup l => avPureL l
  | _ => false
noncomputable def avPureL : List AV → Bool
  | [] => true
  | a :: l => avPure a && avPureL l
end
mutual
noncomputable def toPy : AV → PyData
  | .int i => .int i
  | .str x => .str x
  | .tup l => .tuple (toPyL l)
  | _ => .none
noncomputable def toPyL : List AV → List PyData
  | [] => []
  | a :: l => toPy a :: toPyL l
end
mutual
theorem pyOf {σ : List AO} : ∀ {a : AV}, avPure a = true → PyOf σ a (toPy a)
  | .int i, _ => .int i
  | .str x, _ => .str x
  | .tup l, h => .tup (pyOfL (by simpa [avPure] using h))
  | .none, h => by simp [avPure] at h
  | .bool _, h => by simp [avPure] at h
  | .ref _, h => by simp [avPure] at h
  | .fix _, h => by simp [avPure] at h
theorem pyOfL {σ : List AO} : ∀ {l : List AV}, avPureL l = true → PyOfL σ l (toPyL l)
  | [], _ => .nil
  | a :: l, h => by
    simp only [avPureL, Bool.and_eq_true] at h
    exact .cons (pyOf h.1) (pyOfL h.2)
end
mutual
theorem lay_py : ∀ {a : AV}, avPure a = true → (toPy a).canLay0 = true
  | .int i, _ => rfl
  | .str x, h => by simp only [avPure] at h; simp only [toPy]; exact h
  | .tup l, h => by
    simp only [toPy, PyData.canLay0]
    exact lay_pyL (by simpa [avPure] using h)
  | .none, h => by simp [avPure] at h
  | .bool _, h => by simp [avPure] at h
  | .ref _, h => by simp [avPure] at h
  | .fix _, h => by simp [avPure] at h
theorem lay_pyL : ∀ {l : List AV}, avPureL l = true → PyData.canLayAll0 (toPyL l) = true
  | [], _ => rfl
  | a :: l, h => by
    simp only [avPureL, Bool.and_eq_true] at h
    simp only [toPyL, PyData.canLayAll0, Bool.and_eq_true]
    exact ⟨lay_py h.1, lay_pyL h.2⟩
end
mutual
theorem eqv_py : ∀ {a b : AV}, avPure a = true → avPure b = true → (PyData.eqv (toPy a) (toPy b) = true ↔ a = b)
  | .int i, .int j, _, _ => by simp [toPy, PyData.eqv]
  | .str x, .str y, _, _ => by simp [toPy, PyData.eqv]
  | .tup l, .tup m, h1, h2 => by
    simp only [toPy, PyData.eqv, AV.tup.injEq]
    exact eqv_pyL (by simpa [avPure] using h1) (by simpa [avPure] using h2)
  | .int _, .str _, _, _ => by simp [toPy, PyData.eqv]
  | .int _, .tup _, _, _ => by simp [toPy, PyData.eqv]
  | .str _, .int _, _, _ => by simp [toPy, PyData.eqv]
  | .str _, .tup _, _, _ => by simp [toPy, PyData.eqv]
  | .tup _, .int _, _, _ => by simp [toPy, PyData.eqv]
  | .tup _, .str _, _, _ => by simp [toPy, PyData.eqv]
  | .none, _, h, _ => by simp [avPure] at h
  | .bool _, _, h, _ => by simp [avPure] at h
  | .ref _, _, h, _ => by simp [avPure] at h
  | .fix _, _, h, _ => by simp [avPure] at h
  | .int _, .none, _, h => by simp [avPure] at h
  | .int _, .bool _, _, h => by simp [avPure] at h
  | .int _, .ref _, _, h => by simp [avPure] at h
  | .int _, .fix _, _, h => by simp [avPure] at h
  | .str _, .none, _, h => by simp [avPure] at h
  | .str _, .bool _, _, h => by simp [avPure] at h
  | .str _, .ref _, _, h => by simp [avPure] at h
  | .str _, .fix _, _, h => by simp [avPure] at h
  | .tup _, .none, _, h => by simp [avPure] at h
  | .tup _, .bool _, _, h => by simp [avPure] at h
  | .tup _, .ref _, _, h => by simp [avPure] at h
  | .tup _, .fix _, _, h => by simp [avPure] at h
theorem eqv_pyL : ∀ {l m : List AV}, avPureL l = true → avPureL m = true → (PyData.eqvAll (toPyL l) (toPyL m) = true ↔ l = m)
  | [], [], _, _ => by simp [toPyL, PyData.eqvAll]
  | [], _ :: _, _, _ => by simp [toPyL, PyData.eqvAll]
  | _ :: _, [], _, _ => by simp [toPyL, PyData.eqvAll]
  | a :: l, b :: m, h1, h2 => by
    simp only [avPureL, Bool.and_eq_true] at h1 h2
    simp only [toPyL, PyData.eqvAll, Bool.and_eq_true, List.cons.injEq]
    rw [eqv_py h1.1 h2.1, eqv_pyL h1.2 h2.2]
end

-- part W14

noncomputable def touchB (tb : List (Int × AV)) (t : Told) : Bool := decide ((0 : Int) < (((t.vs.filter fun (x : Nat) => (getI tb (x : Int)).isSome).length : Nat) : Int))
noncomputable def alikeB (tb : List (Int × AV)) (f : Nat → Nat) (ts : List Told) : Bool :=
  PyData.eqvAll (toPyL ((sortN (ts.filter (touchB tb))).map formOf)) (toPyL ((sortN ((ts.filter (touchB tb)).map (Told.ren f))).map formOf))

section
variable {C : Cx} {n : Nat} {σ : List AO} {Q : AV → List AO → Prop}
theorem c_are_alike {ts : List Told} {f : Nat → Nat} {k kt ep : Nat} {tb : List (Int × AV)} (hC : C.Ok recs) (hk : σ[k]? = some (.list (ts.map Told.enc))) (hkt : σ[kt]? = some (.dictI tb ep)) (hz : ts.length ≤ 5)
    (hf : ∀ y : Nat, y < 5 → (getI tb (y : Int)).getD (.int y) = .int (f y)) (hok : ∀ t ∈ ts, t.Ok ∧ t.More) (hok' : ∀ t ∈ ts, (t.ren f).Ok ∧ (t.ren f).More) (hn : (ts.map Told.name).Nodup)
    (hpure : ∀ t ∈ ts, avPure (formOf t) = true ∧ avPure (formOf (t.ren f)) = true) (hdep : ∀ us : List Told, PyData.depth (.list (toPyL (us.map formOf))) ≤ 10)
    (h : ∀ σ', Keep [] σ σ' → Q (.bool (alikeB tb f ts)) σ') : CallF C (n + 6) "are_alike" [.ref k, .ref kt] σ Q := by
  refine callF hC d9_mem d9_ok rfl ?_
  refine ex_cons (ex_assignC ⟨rfl, by decide, rfl, rfl⟩ (fun _ _ => rfl) rfl ?_)
  refine evi_list rfl ?_
  repeat ktr_rel
  refine ⟨_, _, rfl, hk, ?_⟩
  refine comp_pure (X := []) (xs := ts) (enc := Told.enc) (g := Told.enc) (p := touchB tb) rfl (by (first | assumption | decide | exact le0 (by assumption) (by decide) | exact le1 (by assumption) (by decide) | exact le2 (by assumption) (by assumption) (by decide) | lia | omega)) (fun σi hi => hi.get hk (by first | exact nn | exact lb rfl | simp)) (fun t ht σj hj => ?_) (fun σj hj => ?_)
  · refine as_name rfl ?_
    show EvB _ _ _ _ _ _ _
    repeat ktr_rel
    refine evB_len hC rfl ?_
    refine evl_cons (ev_comp ⟨rfl, by decide, rfl, rfl⟩ (fun _ _ => rfl) ?_)
    refine evi_list rfl ?_
    refine ev_callF hC d2_mem rfl rfl ?_
    repeat ktr_rel
    refine c_vars (n := n + 2) hC (hok t ht).1 fun σv kv hKv hkv => ?_
    refine ⟨_, _, rfl, hkv, ?_⟩
    have hvl : t.vs.length ≤ 5 := sset_len _
    have hjv := hj.trans hKv
    refine comp_pure (X := []) (xs := t.vs) (enc := fun (v : Nat) => .int (v : Int)) (g := fun (v : Nat) => .int (v : Int)) (p := fun v => (getI tb (v : Int)).isSome) rfl (by (first | assumption | decide | exact le0 (by assumption) (by decide) | exact le1 (by assumption) (by decide) | exact le2 (by assumption) (by assumption) (by decide) | lia | omega)) (fun σi hi => hi.get hkv (by first | exact nn | exact lb rfl | simp)) (fun v hv σk hk' => ?_) (fun σk hk' => ?_)
    · have hktk := (hjv.trans hk').get hkt (by first | exact nn | exact lb rfl | simp)
      refine as_name rfl ?_
      show EvB _ _ _ _ _ _ _
      repeat ktr_rel
      refine cmp_in_dictI hktk ?_
      cases hb : (getI tb (v : Int)).isSome with
      | true =>
        show EvE _ _ _ _ _ _ _
        repeat ktr_rel
        first | exact ⟨rfl, rfl, hk'⟩ | exact ⟨rfl, hk'⟩ | exact hk'
      | false => first | exact hk' | exact ⟨rfl, hk'⟩
    · refine evl_nil ?_
      refine cv_len_list get_app (by have := List.length_filter_le (fun v : Nat => (getI tb (v : Int)).isSome) t.vs; rw [List.length_map]; (first | assumption | decide | exact le0 (by assumption) (by decide) | exact le1 (by assumption) (by decide) | exact le2 (by assumption) (by assumption) (by decide) | lia | omega)) ?_
      repeat ktr_rel
      refine cmp_gt_int ?_
      rw [List.length_map]
      cases hb : decide ((0 : Int) < (((t.vs.filter fun (x : Nat) => (getI tb (x : Int)).isSome).length : Nat) : Int)) with
      | true =>
        show EvE _ _ _ _ _ _ _
        repeat ktr_rel
        exact ⟨hb, rfl, hjv.trans hk'.app⟩
      | false => exact ⟨hb, hjv.trans hk'.app⟩
  · have hj1 : Keep [] σ (σj ++ [AO.list ((ts.filter (touchB tb)).map Told.enc)]) := hj.app
    have hg : (σj ++ [AO.list ((ts.filter (touchB tb)).map Told.enc)])[σj.length]? = some (.list ((ts.filter (touchB tb)).map Told.enc)) := get_app
    generalize (σj ++ [AO.list ((ts.filter (touchB tb)).map Told.enc)]) = σg at *
    have sub : ∀ t ∈ ts.filter (touchB tb), t ∈ ts := fun t ht => (List.mem_filter.mp ht).1
    have hzf : (ts.filter (touchB tb)).length ≤ 5 := Nat.le_trans (List.length_filter_le _ _) hz
    have hnf : ((ts.filter (touchB tb)).map Told.name).Nodup := List.Pairwise.sublist (List.Sublist.map _ (List.filter_sublist ..)) hn
    have hpl : ∀ us : List Told, (∀ u ∈ us, avPure (formOf u) = true) → avPureL (us.map formOf) = true := fun us => by
      induction us with
      | nil => intro _; rfl
      | cons u us ih => intro hu; simp only [List.map_cons, avPureL, Bool.and_eq_true]; exact ⟨hu u (.head _), ih fun v hv => hu v (.tail _ hv)⟩
    refine ex_cons (ex_return ?_)
    repeat ktr_rel
    refine ev_callF hC d8_mem rfl rfl ?_
    repeat ktr_rel
    refine c_forms (n := n) (ts := ts.filter (touchB tb)) hC hg hzf (fun t ht => hok t (sub t ht)) hnf fun σ1 k1 hK1 hk1 => ?_
    refine ev_callF hC d8_mem rfl rfl ?_
    refine evl_cons (ev_comp ⟨rfl, by decide, rfl, rfl⟩ (fun _ _ => rfl) ?_)
    refine evi_list rfl ?_
    repeat ktr_rel
    have hg1 := hK1.get hg (by first | exact nn | exact lb rfl | simp)
    have hkt1 := (hj1.trans hK1).get hkt (by first | exact nn | exact lb rfl | simp)
    refine ⟨_, _, rfl, hg1, ?_⟩
    refine comp_pure (X := []) (xs := ts.filter (touchB tb)) (enc := Told.enc) (g := fun t => (t.ren f).enc) (p := fun _ => true) rfl (by (first | assumption | decide | exact le0 (by assumption) (by decide) | exact le1 (by assumption) (by decide) | exact le2 (by assumption) (by assumption) (by decide) | lia | omega)) (fun σi hi => hi.get hg1 (by first | exact nn | exact lb rfl | simp)) (fun t ht σk hk' => ?_) (fun σk hk' => ?_)
    · refine as_name rfl ?_
      show EvE _ _ _ _ _ _ _
      refine ev_callF hC d1_mem rfl rfl ?_
      repeat ktr_rel
      refine c_ren (n := n + 2) hC (hok t (sub t ht)).1 (hk'.get hkt1 (by first | exact nn | exact lb rfl | simp)) hf fun σ2 hK2 => ?_
      exact ⟨rfl, rfl, hk'.trans hK2⟩
    · refine evl_nil ?_
      have ef : ((ts.filter (touchB tb)).filter fun _ => true) = ts.filter (touchB tb) := List.filter_eq_self.mpr fun _ _ => rfl
      rw [ef]
      have e1 : ((ts.filter (touchB tb)).map fun t => (t.ren f).enc) = ((ts.filter (touchB tb)).map (Told.ren f)).map Told.enc := by rw [List.map_map]; rfl
      rw [e1]
      have en : ((ts.filter (touchB tb)).map (Told.ren f)).map Told.name = (ts.filter (touchB tb)).map Told.name := by
        rw [List.map_map]
        exact List.map_congr_left fun t _ => ren_name f t
      refine c_forms (n := n) (ts := (ts.filter (touchB tb)).map (Told.ren f)) hC get_app (by rw [List.length_map]; exact hzf) (fun t ht => ?_) (by rw [en]; exact hnf) fun σ3 k3 hK3 hk3 => ?_
      · obtain ⟨u, hu, rfl⟩ := List.mem_map.mp ht
        exact hok' u (sub u hu)
      · have hK4 := hk'.app (o := .list (((ts.filter (touchB tb)).map (Told.ren f)).map Told.enc))
        have hk1' := (hK4.trans hK3).get hk1 (by first | exact nn | exact lb rfl | simp)
        have p1 : avPureL ((sortN (ts.filter (touchB tb))).map formOf) = true := hpl _ fun u hu => (hpure u (sub u ((sortN_perm _).mem_iff.mp hu))).1
        have p2 : avPureL ((sortN ((ts.filter (touchB tb)).map (Told.ren f))).map formOf) = true := hpl _ fun u hu => by
          obtain ⟨v, hv, rfl⟩ := List.mem_map.mp ((sortN_perm _).mem_iff.mp hu)
          exact (hpure v (sub v hv)).2
        refine cmp_eq (.ref hk1' (pyOfL p1)) (.ref hk3 (pyOfL p2)) (lay_pyL p1) (lay_pyL p2) (Nat.le_trans (Nat.min_le_left _ _) (hdep _)) ?_
        exact h _ (hj1.trans (hK1.trans (hK4.trans hK3)))
end

-- part W15
noncomputable def swp (a b x : Nat) : Nat := if x = a then b else if x = b then a else x
noncomputable def swpT (a b : Nat) : List (Int × AV) := [((a : Int), .int (b : Int)), ((b : Int), .int (a : Int))]
theorem swpT_eq {a b : Nat} (h : a ≠ b) : setI (setI ([] : List (Int × AV)) (a : Int) (.int (b : Int))) (b : Int) (.int (a : Int)) = swpT a b := by
  have h' : ¬ ((a : Int) = (b : Int)) := fun e => h (Int.ofNat.inj e)
  simp [setI, swpT, h']
theorem swpT_get {a b : Nat} (h : a ≠ b) (y : Nat) : (getI (swpT a b) (y : Int)).getD (.int y) = .int (swp a b y) := by
  unfold getI swpT swp
  by_cases h1 : y = a
  · subst h1; simp
  · have h1' : ¬ ((a : Int) = (y : Int)) := fun e => h1 (Int.ofNat.inj e).symm
    by_cases h2 : y = b
    · subst h2; simp [h1, h1']
    · have h2' : ¬ ((b : Int) = (y : Int)) := fun e => h2 (Int.ofNat.inj e).symm
      simp [h1, h2, h1', h2']
theorem swpT_some {a b : Nat} (y : Nat) : (getI (swpT a b) (y : Int)).isSome = (decide (y = a) || decide (y = b)) := by
  unfold getI swpT
  by_cases h1 : y = a
  · subst h1; simp
  · have h1' : ¬ ((a : Int) = (y : Int)) := fun e => h1 (Int.ofNat.inj e).symm
    by_cases h2 : y = b
    · subst h2; simp [h1, h1']
    · have h2' : ¬ ((b : Int) = (y : Int)) := fun e => h2 (Int.ofNat.inj e).symm
      simp [h1, h2, h1', h2']

section
variable {C : Cx} {n : Nat} {σ : List AO} {Q : AV → List AO → Prop}
theorem c_exchanged {ts : List Told} {a b k : Nat} (hC : C.Ok recs) (hab : a ≠ b) (hk : σ[k]? = some (.list (ts.map Told.enc))) (hz : ts.length ≤ 5)
    (hok : ∀ t ∈ ts, t.Ok ∧ t.More) (hok' : ∀ t ∈ ts, (t.ren (swp a b)).Ok ∧ (t.ren (swp a b)).More) (hn : (ts.map Told.name).Nodup)
    (hpure : ∀ t ∈ ts, avPure (formOf t) = true ∧ avPure (formOf (t.ren (swp a b))) = true) (hdep : ∀ us : List Told, PyData.depth (.list (toPyL (us.map formOf))) ≤ 10)
    (h : ∀ σ', Keep [] σ σ' → Q (.bool (alikeB (swpT a b) (swp a b) ts)) σ') : CallF C (n + 7) "exchanged" [.ref k, .int (a : Int), .int (b : Int)] σ Q := by
  refine callF hC d10_mem d10_ok rfl ?_
  refine ex_cons (ex_return ?_)
  refine ev_callF hC d9_mem rfl rfl ?_
  repeat ktr_rel
  refine ev_dict2 ?_
  repeat ktr_rel
  refine ⟨_, _, rfl, rfl, fun ep => ?_⟩
  rw [swpT_eq hab]
  refine evl_nil ?_
  have hK : Keep [] σ (σ ++ [AO.dictI (swpT a b) ep]) := Keep.refl.app
  refine c_are_alike (n := n) (f := swp a b) hC (hK.get hk (by first | exact nn | exact lb rfl | simp)) get_app hz (fun y _ => swpT_get hab y) hok hok' hn hpure hdep fun σ' hK' => ?_
  exact h _ (hK.trans hK')
end

-- part W16

structure Tape (σ : List AO) (kt kc : Nat) (cells : List Int) (spot : Nat) : Prop where
  dict : σ[kt]? = some (.dictS [("cells", .ref kc), ("spot", .int (spot : Int))])
  cells : σ[kc]? = some (.list (cells.map .int))
  ne : kc ≠ kt
theorem Tape.keep {σ σ' : List AO} {kt kc : Nat} {cells : List Int} {spot : Nat} (T : Tape σ kt kc cells spot) (h : Keep [] σ σ') : Tape σ' kt kc cells spot := ⟨h.get T.dict (by first | exact nn | exact lb rfl | simp), h.get T.cells (by first | exact nn | exact lb rfl | simp), T.ne⟩

noncomputable def takeV (cells : List Int) (spot : Nat) (wide : Int) : Int :=
  if spot < cells.length then (cells.getD spot 0).fmod wide else (((7 * spot * spot + 5 * spot + 2 * cells.length + 3 : Nat) : Int).fmod 37).fmod wide
section
variable {C : Cx} {n : Nat} {σ : List AO} {Q : AV → List AO → Prop}
theorem c_take {kt kc : Nat} {cells : List Int} {spot : Nat} {wide : Int} (hC : C.Ok recs) (T : Tape σ kt kc cells spot) (hw : 0 < wide) (hw' : wide ≤ 100) (hz : cells.length ≤ 60) (hs : spot ≤ 1000)
    (h : ∀ σ', Keep [kt] σ σ' → Tape σ' kt kc cells (spot + 1) → Q (.int (takeV cells spot wide)) σ') : CallF C (n + 1) "_law_take" [.ref kt, .int wide] σ Q := by
  refine callF hC d12_mem d12_ok rfl ?_
  refine ex_cons ?_
  repeat ktr_rel
  refine sub_dictS T.dict (by rfl) ?_
  repeat ktr_rel
  refine ex_setS ?_ (by intro _; rfl)
  repeat ktr_rel
  refine bin_add ?_
  repeat ktr_rel
  refine ⟨_, _, _, rfl, rfl, T.dict, by simp, ?_⟩
  have hset : setS ([(("cells" : Str), AV.ref kc), (("spot" : Str), AV.int (spot : Int))] : List (Str × AV)) ("spot" : Str) (AV.int ((spot : Int) + 1)) = ([(("cells" : Str), AV.ref kc), (("spot" : Str), AV.int ((spot + 1 : Nat) : Int))] : List (Str × AV)) := by
    rfl
  have T' : Tape (σ.set kt (.dictS [("cells", .ref kc), ("spot", .int ((spot + 1 : Nat) : Int))])) kt kc cells (spot + 1) := ⟨get_set T.dict, by rw [List.getElem?_set_ne (Ne.symm T.ne)]; exact T.cells, T.ne⟩
  have hK : Keep [kt] σ (σ.set kt (.dictS [("cells", .ref kc), ("spot", .int ((spot + 1 : Nat) : Int))])) := Keep.refl.set (.inr (by first | exact nn | exact lb rfl | simp))
  have hfin := h _ hK T'
  have go : ∀ σ1 : List AO, σ1 = σ.set kt (.dictS [("cells", .ref kc), ("spot", .int ((spot + 1 : Nat) : Int))]) → ExS C n d12.scope [("spot", .int (spot : Int)), ("tape", .ref kt), ("wide", .int wide)] (d12.body.drop 2) σ1 fun o _ σ' => Q (o.getD .none) σ' := fun σ1 e => by
    subst e
    refine ex_cons ?_
    repeat ktr_rel
    refine evB_len hC rfl ?_
    repeat ktr_rel
    refine sub_dictS T'.dict (by rfl) ?_
    refine evl_nil ?_
    refine cv_len_list T'.cells (by first | exact map_le (by assumption) (by decide) | (rw [List.length_map]; (first | assumption | decide | exact le0 (by assumption) (by decide) | exact le1 (by assumption) (by decide) | exact le2 (by assumption) (by assumption) (by decide) | lia | omega))) ?_
    refine cmp_lt_int ?_
    rw [List.length_map]
    unfold takeV at hfin
    by_cases hlt : spot < cells.length
    · have e : decide ((spot : Int) < (cells.length : Int)) = true := by simp; exact hlt
      rw [e]
      rw [if_pos hlt] at hfin
      refine ex_cons ?_
      repeat ktr_rel
      refine sub_dictS T'.dict (by rfl) ?_
      repeat ktr_rel
      refine sub_list (a := .int (cells.getD spot 0)) T'.cells (by (first | assumption | decide | exact le0 (by assumption) (by decide) | exact le1 (by assumption) (by decide) | exact le2 (by assumption) (by assumption) (by decide) | lia | omega)) (by simp [hlt]) ?_ (by omega)
      repeat ktr_rel
      refine bin_mod (by (first | assumption | decide | exact le0 (by assumption) (by decide) | exact le1 (by assumption) (by decide) | exact le2 (by assumption) (by assumption) (by decide) | lia | omega)) hfin
    · have e : decide ((spot : Int) < (cells.length : Int)) = false := by simp; (first | assumption | decide | exact le0 (by assumption) (by decide) | exact le1 (by assumption) (by decide) | exact le2 (by assumption) (by assumption) (by decide) | lia | omega)
      rw [e]
      rw [if_neg hlt] at hfin
      have hsp : Builtin.Int.intBits (spot : Int) ≤ 64 := intBits_cast_le (by rw [sizeLine_eq]; (first | assumption | decide | exact le0 (by assumption) (by decide) | exact le1 (by assumption) (by decide) | exact le2 (by assumption) (by assumption) (by decide) | lia | omega))
      refine ex_nil ?_
      refine ex_cons ?_
      repeat ktr_rel
      refine bin_mul (IntMulOk.of_left (by decide +kernel)) ?_
      repeat ktr_rel
      refine bin_mul (IntMulOk.of_right hsp) ?_
      repeat ktr_rel
      refine bin_mul (IntMulOk.of_left (by decide +kernel)) ?_
      refine bin_add ?_
      repeat ktr_rel
      refine evB_len hC rfl ?_
      repeat ktr_rel
      refine sub_dictS T'.dict (by rfl) ?_
      refine evl_nil ?_
      refine cv_len_list T'.cells (by first | exact map_le (by assumption) (by decide) | (rw [List.length_map]; (first | assumption | decide | exact le0 (by assumption) (by decide) | exact le1 (by assumption) (by decide) | exact le2 (by assumption) (by assumption) (by decide) | lia | omega))) ?_
      refine bin_mul (IntMulOk.of_left (by decide +kernel)) ?_
      refine bin_add ?_
      repeat ktr_rel
      refine bin_add ?_
      repeat ktr_rel
      refine bin_mod (by decide) ?_
      repeat ktr_rel
      refine bin_mod (by (first | assumption | decide | exact le0 (by assumption) (by decide) | exact le1 (by assumption) (by decide) | exact le2 (by assumption) (by assumption) (by decide) | lia | omega)) ?_
      rw [List.length_map]
      have e2 : ((7 * spot * spot + 5 * spot + 2 * cells.length + 3 : Nat) : Int) = 7 * (spot : Int) * spot + 5 * spot + 2 * (cells.length : Int) + 3 := by simp
      rw [e2] at hfin
      exact hfin
  exact go _ (by rw [← hset])
end

-- part W17
noncomputable def takes (cells : List Int) (spot : Nat) (wide : Int) (k : Nat) : List Int := (List.range k).map fun i => takeV cells (spot + i) wide
theorem takeV_range {cells : List Int} {spot : Nat} {wide : Int} (hw : 0 < wide) : 0 ≤ takeV cells spot wide ∧ takeV cells spot wide < wide := by
  unfold takeV
  split
  · exact ⟨Int.fmod_nonneg_of_pos _ hw, Int.fmod_lt_of_pos _ hw⟩
  · exact ⟨Int.fmod_nonneg_of_pos _ hw, Int.fmod_lt_of_pos _ hw⟩

section
variable {C : Cx} {n : Nat} {sc scope : Scope} {ρ : List (Str × AV)} {σ : List AO} {Q : AV → List AO → Prop}

theorem comp_takes {tgt elt : Expr} {items : List AV} {G : List AO → Prop} {kt kc m : Nat} {cells : List Int} {spot : Nat} {g : Nat → AV} (hG : ∀ σ, G σ) (hi : items.length = m) (hm : m ≤ 10) (T : Tape σ kt kc cells spot)
    (hstep : ∀ i av σi, items[i]? = some av → i < m → Keep [kt] σ σi → Tape σi kt kc cells (spot + i) → AsT C n (relS scope sc) (freeIn scope ρ) tgt av σi fun ρ' σ1 => EvE C n (relS scope sc) ρ' elt σ1 fun v σ3 => v = g i ∧ Keep [kt] σ σ3 ∧ Tape σ3 kt kc cells (spot + i + 1))
    (hend : ∀ σf, Keep [kt] σ σf → Tape σf kt kc cells (spot + m) → Q (.ref σf.length) (σf ++ [.list ((List.range m).map g)])) : CompStep C n scope sc ρ tgt elt [] items G σ Q := by
  refine ⟨by (first | assumption | decide | exact le0 (by assumption) (by decide) | exact le1 (by assumption) (by decide) | exact le2 (by assumption) (by assumption) (by decide) | lia | omega), fun i out σi => i ≤ m ∧ Keep [kt] σ σi ∧ Tape σi kt kc cells (spot + i) ∧ out = (List.range i).map g, ⟨Nat.zero_le _, Keep.refl, T, rfl⟩, fun i out σi _ => hG σi, fun i av out σi hav inv => ?_, fun out σf inv => ?_⟩
  · obtain ⟨_, hK, hT, rfl⟩ := inv
    have hlt : i < m := by rw [← hi]; exact (List.getElem?_eq_some_iff.mp hav).1
    have hs := hstep i av σi hav hlt hK hT
    refine ⟨fun A R env As s E v F S r => wpAny_mono (hs.run A R env As s E v F S r) (fun _ s' ⟨ρ', σ', As₂, X₁, S₁, F₁, q⟩ => ⟨ρ', σ', As₂, X₁, S₁, F₁, ?_⟩) fun _ _ e => e⟩
    refine EvE.mono q fun v σ3 ⟨h1, h2, h3⟩ => ⟨hlt, h2, h3, ?_⟩
    rw [List.range_succ, List.map_append, h1]; rfl
  · obtain ⟨_, hK, hT, rfl⟩ := inv
    rw [hi] at hT ⊢
    exact hend σf hK hT
end

-- part W18

noncomputable def rowV (cells : List Int) (spot : Nat) (many : Nat) : List Int :=
  if takeV cells spot 3 = 0 then natI (List.range many) else takes cells (spot + 2) many (2 + (takeV cells (spot + 1) 2).toNat)
noncomputable def rowN (cells : List Int) (spot : Nat) : Nat := if takeV cells spot 3 = 0 then 1 else 2 + (2 + (takeV cells (spot + 1) 2).toNat)
section
variable {C : Cx} {n : Nat} {σ : List AO} {Q : AV → List AO → Prop}
theorem c_row {kt kc many : Nat} {cells : List Int} {spot : Nat} (hC : C.Ok recs) (T : Tape σ kt kc cells spot) (hm : 0 < many) (hm' : many ≤ 5) (hz : cells.length ≤ 60) (hs : spot ≤ 900)
    (h : ∀ σ', Keep [kt] σ σ' → Tape σ' kt kc cells (spot + rowN cells spot) → Q (tupI (rowV cells spot many)) σ') : CallF C (n + 2) "_law_row" [.ref kt, .int (many : Int)] σ Q := by
  refine callF hC d13_mem d13_ok rfl ?_
  refine ex_cons ?_
  repeat ktr_rel
  refine ev_callF hC d12_mem rfl rfl ?_
  repeat ktr_rel
  refine c_take hC T (by (first | assumption | decide | exact le0 (by assumption) (by decide) | exact le1 (by assumption) (by decide) | exact le2 (by assumption) (by assumption) (by decide) | lia | omega)) (by (first | assumption | decide | exact le0 (by assumption) (by decide) | exact le1 (by assumption) (by decide) | exact le2 (by assumption) (by assumption) (by decide) | lia | omega)) hz (by (first | assumption | decide | exact le0 (by assumption) (by decide) | exact le1 (by assumption) (by decide) | exact le2 (by assumption) (by assumption) (by decide) | lia | omega)) fun σ1 hK1 T1 => ?_
  repeat ktr_rel
  refine cmp_eq_int ?_
  by_cases h0 : takeV cells spot 3 = 0
  · rw [h0]
    refine ex_cons ?_
    repeat ktr_rel
    refine evB_tuple hC rfl ?_
    refine evl_cons (evB_range hC rfl ?_)
    repeat ktr_rel
    refine cv_range (by (first | assumption | decide | exact le0 (by assumption) (by decide) | exact le1 (by assumption) (by decide) | exact le2 (by assumption) (by assumption) (by decide) | lia | omega)) ?_
    refine evl_nil ?_
    refine cv_tuple_range get_app (by (first | assumption | decide | exact le0 (by assumption) (by decide) | exact le1 (by assumption) (by decide) | exact le2 (by assumption) (by assumption) (by decide) | lia | omega)) ?_
    have hn : rowN cells spot = 1 := by unfold rowN; rw [if_pos h0]
    have := h (σ1 ++ [.range many]) hK1.app (by rw [hn]; exact T1.keep Keep.refl.app)
    unfold rowV tupI natI at this
    rw [if_pos h0, List.map_map] at this
    exact this
  · have e0 : (takeV cells spot 3 == 0) = false := by simpa using h0
    rw [e0]
    refine ex_nil ?_
    refine ex_cons ?_
    repeat ktr_rel
    refine evB_tuple hC rfl ?_
    refine evl_cons (ev_comp ⟨rfl, by decide, rfl, rfl⟩ (fun _ _ => rfl) ?_)
    refine evi_range hC rfl rfl rfl rfl ?_
    repeat ktr_rel
    refine ev_callF hC d12_mem rfl rfl ?_
    repeat ktr_rel
    refine c_take hC T1 (by (first | assumption | decide | exact le0 (by assumption) (by decide) | exact le1 (by assumption) (by decide) | exact le2 (by assumption) (by assumption) (by decide) | lia | omega)) (by (first | assumption | decide | exact le0 (by assumption) (by decide) | exact le1 (by assumption) (by decide) | exact le2 (by assumption) (by assumption) (by decide) | lia | omega)) hz (by (first | assumption | decide | exact le0 (by assumption) (by decide) | exact le1 (by assumption) (by decide) | exact le2 (by assumption) (by assumption) (by decide) | lia | omega)) fun σ2 hK2 T2 => ?_
    refine bin_add ?_
    have r2 := takeV_range (cells := cells) (spot := spot + 1) (wide := 2) (by (first | assumption | decide | exact le0 (by assumption) (by decide) | exact le1 (by assumption) (by decide) | exact le2 (by assumption) (by assumption) (by decide) | lia | omega))
    refine ⟨2 + (takeV cells (spot + 1) 2).toNat, by congr 1; (first | assumption | decide | exact le0 (by assumption) (by decide) | exact le1 (by assumption) (by decide) | exact le2 (by assumption) (by assumption) (by decide) | lia | omega), by (first | assumption | decide | exact le0 (by assumption) (by decide) | exact le1 (by assumption) (by decide) | exact le2 (by assumption) (by assumption) (by decide) | lia | omega), ?_⟩
    refine comp_takes (kt := kt) (kc := kc) (m := 2 + (takeV cells (spot + 1) 2).toNat) (cells := cells) (spot := spot + 1 + 1) (g := fun i => .int (takeV cells (spot + 1 + 1 + i) many)) (fun _ => trivial) (by first | exact nn | exact lb rfl | simp) (by (first | assumption | decide | exact le0 (by assumption) (by decide) | exact le1 (by assumption) (by decide) | exact le2 (by assumption) (by assumption) (by decide) | lia | omega)) T2 (fun i av σi hav hlt hK hT => ?_) (fun σf hK hT => ?_)
    · rw [List.getElem?_map] at hav
      have : av = .int (i : Int) := by
        simp [hlt] at hav
        exact hav.symm
      subst this
      refine as_name rfl ?_
      refine ev_callF hC d12_mem rfl rfl ?_
      repeat ktr_rel
      refine c_take hC hT (by (first | assumption | decide | exact le0 (by assumption) (by decide) | exact le1 (by assumption) (by decide) | exact le2 (by assumption) (by assumption) (by decide) | lia | omega)) (by (first | assumption | decide | exact le0 (by assumption) (by decide) | exact le1 (by assumption) (by decide) | exact le2 (by assumption) (by assumption) (by decide) | lia | omega)) hz (by (first | assumption | decide | exact le0 (by assumption) (by decide) | exact le1 (by assumption) (by decide) | exact le2 (by assumption) (by assumption) (by decide) | lia | omega)) fun σ3 hK3 T3 => ?_
      exact ⟨rfl, hK.trans hK3, T3⟩
    · refine evl_nil ?_
      refine cv_tuple_list get_app (by simp; (first | assumption | decide | exact le0 (by assumption) (by decide) | exact le1 (by assumption) (by decide) | exact le2 (by assumption) (by assumption) (by decide) | lia | omega)) ?_
      have hn : rowN cells spot = 2 + (2 + (takeV cells (spot + 1) 2).toNat) := by unfold rowN; rw [if_neg h0]
      have := h (σf ++ [.list ((List.range (2 + (takeV cells (spot + 1) 2).toNat)).map fun i => AV.int (takeV cells (spot + 1 + 1 + i) many))]) (((hK1.trans hK2).trans hK).app) (by
        rw [hn]
        have e : spot + (2 + (2 + (takeV cells (spot + 1) 2).toNat)) = spot + 1 + 1 + (2 + (takeV cells (spot + 1) 2).toNat) := by (first | assumption | decide | exact le0 (by assumption) (by decide) | exact le1 (by assumption) (by decide) | exact le2 (by assumption) (by assumption) (by decide) | lia | omega)
        rw [e]; exact hT.keep Keep.refl.app)
      unfold rowV tupI takes at this
      rw [if_neg h0, List.map_map] at this
      exact this
end

-- part W19
theorem rowV_facts {cells : List Int} {spot many : Nat} (hm : 3 ≤ many) (hm' : many ≤ 5) : 2 ≤ (rowV cells spot many).length ∧ (rowV cells spot many).length ≤ 5 ∧ ∀ x ∈ rowV cells spot many, 0 ≤ x ∧ x < (many : Int) := by
  unfold rowV
  split
  · refine ⟨by simp [natI]; (first | assumption | decide | exact le0 (by assumption) (by decide) | exact le1 (by assumption) (by decide) | exact le2 (by assumption) (by assumption) (by decide) | lia | omega), by simp [natI]; (first | assumption | decide | exact le0 (by assumption) (by decide) | exact le1 (by assumption) (by decide) | exact le2 (by assumption) (by assumption) (by decide) | lia | omega), fun x hx => ?_⟩
    simp [natI] at hx
    obtain ⟨i, hi, rfl⟩ := hx
    (first | assumption | decide | exact le0 (by assumption) (by decide) | exact le1 (by assumption) (by decide) | exact le2 (by assumption) (by assumption) (by decide) | lia | omega)
  · have r2 := takeV_range (cells := cells) (spot := spot + 1) (wide := 2) (by (first | assumption | decide | exact le0 (by assumption) (by decide) | exact le1 (by assumption) (by decide) | exact le2 (by assumption) (by assumption) (by decide) | lia | omega))
    refine ⟨by simp [takes], by simp [takes]; (first | assumption | decide | exact le0 (by assumption) (by decide) | exact le1 (by assumption) (by decide) | exact le2 (by assumption) (by assumption) (by decide) | lia | omega), fun x hx => ?_⟩
    unfold takes at hx
    obtain ⟨i, _, rfl⟩ := List.mem_map.mp hx
    exact takeV_range (by (first | assumption | decide | exact le0 (by assumption) (by decide) | exact le1 (by assumption) (by decide) | exact le2 (by assumption) (by assumption) (by decide) | lia | omega))

-- part W20
noncomputable def rowNat (cells : List Int) (spot many : Nat) : List Nat := (rowV cells spot many).map Int.toNat
theorem rowNat_eq {cells : List Int} {spot many : Nat} (hm : 3 ≤ many) (hm' : many ≤ 5) : tupI (rowV cells spot many) = .tup (avN (rowNat cells spot many)) := by
  unfold tupI avN rowNat
  rw [List.map_map]
  congr 1
  apply List.map_congr_left
  intro x hx
  have := (rowV_facts hm hm').2.2 x hx
  simp only [Function.comp]
  congr 1
  (first | assumption | decide | exact le0 (by assumption) (by decide) | exact le1 (by assumption) (by decide) | exact le2 (by assumption) (by assumption) (by decide) | lia | omega)

noncomputable def sumV (cells : List Int) (spot many : Nat) (name : Str) : Lin :=
  let s := spot + rowN cells spot
  let row := rowNat cells spot many
  if takeV cells s 2 = 0 then { name, coefs := List.replicate row.length 1, vars := row, c := takeV cells (s + 1) 2 }
  else { name, coefs := (takes cells (s + 1) 4 row.length).map (· - 1), vars := row, c := takeV cells (s + 1 + row.length) 2 }
noncomputable def sumN (cells : List Int) (spot many : Nat) : Nat :=
  let s := spot + rowN cells spot
  if takeV cells s 2 = 0 then rowN cells spot + 2 else rowN cells spot + 2 + (rowNat cells spot many).length
section
variable {C : Cx} {n : Nat} {σ : List AO} {Q : AV → List AO → Prop}
theorem rowN_le {cells : List Int} {spot : Nat} : rowN cells spot ≤ 5 := by
  unfold rowN
  have r2 := takeV_range (cells := cells) (spot := spot + 1) (wide := 2) (by (first | assumption | decide | exact le0 (by assumption) (by decide) | exact le1 (by assumption) (by decide) | exact le2 (by assumption) (by assumption) (by decide) | lia | omega))
  split <;> (first | assumption | decide | exact le0 (by assumption) (by decide) | exact le1 (by assumption) (by decide) | exact le2 (by assumption) (by assumption) (by decide) | lia | omega)
theorem c_sum {kt kc many : Nat} {cells : List Int} {spot : Nat} {name : Str} (hC : C.Ok recs) (T : Tape σ kt kc cells spot) (hm : 3 ≤ many) (hm' : many ≤ 5) (hz : cells.length ≤ 60) (hs : spot ≤ 800)
    (h : ∀ σ', Keep [kt] σ σ' → Tape σ' kt kc cells (spot + sumN cells spot many) → Q (sumV cells spot many name).enc σ') : CallF C (n + 3) "_law_sum" [.ref kt, .int (many : Int), .str name] σ Q := by
  have hrf := rowV_facts (cells := cells) (spot := spot) hm hm'
  have hrl : (rowNat cells spot many).length = (rowV cells spot many).length := by simp [rowNat]
  have hrn := rowN_le (cells := cells) (spot := spot)
  refine callF hC d14_mem d14_ok rfl ?_
  refine ex_cons ?_
  repeat ktr_rel
  refine ev_callF hC d13_mem rfl rfl ?_
  repeat ktr_rel
  refine c_row (n := n) hC T (by (first | assumption | decide | exact le0 (by assumption) (by decide) | exact le1 (by assumption) (by decide) | exact le2 (by assumption) (by assumption) (by decide) | lia | omega)) hm' hz (by (first | assumption | decide | exact le0 (by assumption) (by decide) | exact le1 (by assumption) (by decide) | exact le2 (by assumption) (by assumption) (by decide) | lia | omega)) fun σ1 hK1 T1 => ?_
  rw [rowNat_eq hm hm']
  refine ex_cons ?_
  repeat ktr_rel
  refine ev_callF hC d12_mem rfl rfl ?_
  repeat ktr_rel
  refine c_take hC T1 (by (first | assumption | decide | exact le0 (by assumption) (by decide) | exact le1 (by assumption) (by decide) | exact le2 (by assumption) (by assumption) (by decide) | lia | omega)) (by (first | assumption | decide | exact le0 (by assumption) (by decide) | exact le1 (by assumption) (by decide) | exact le2 (by assumption) (by assumption) (by decide) | lia | omega)) hz (by (first | assumption | decide | exact le0 (by assumption) (by decide) | exact le1 (by assumption) (by decide) | exact le2 (by assumption) (by assumption) (by decide) | lia | omega)) fun σ2 hK2 T2 => ?_
  repeat ktr_rel
  refine cmp_eq_int ?_
  by_cases h0 : takeV cells (spot + rowN cells spot) 2 = 0
  · rw [h0]
    refine ex_cons ?_
    repeat ktr_rel
    refine evB_len hC rfl ?_
    repeat ktr_rel
    refine cv_len_tup (by first | exact avN_le (by assumption) (by decide) | (simp [avN]; (first | assumption | decide | exact le0 (by assumption) (by decide) | exact le1 (by assumption) (by decide) | exact le2 (by assumption) (by assumption) (by decide) | lia | omega))) ?_
    refine bin_rep (by first | exact avN_le (by assumption) (by decide) | (simp [avN]; (first | assumption | decide | exact le0 (by assumption) (by decide) | exact le1 (by assumption) (by decide) | exact le2 (by assumption) (by assumption) (by decide) | lia | omega))) (by first | exact avN_le (by assumption) (by decide) | (simp [avN]; (first | assumption | decide | exact le0 (by assumption) (by decide) | exact le1 (by assumption) (by decide) | exact le2 (by assumption) (by assumption) (by decide) | lia | omega))) ?_
    repeat ktr_rel
    refine ev_callF hC d12_mem rfl rfl ?_
    repeat ktr_rel
    refine c_take hC T2 (by (first | assumption | decide | exact le0 (by assumption) (by decide) | exact le1 (by assumption) (by decide) | exact le2 (by assumption) (by assumption) (by decide) | lia | omega)) (by (first | assumption | decide | exact le0 (by assumption) (by decide) | exact le1 (by assumption) (by decide) | exact le2 (by assumption) (by assumption) (by decide) | lia | omega)) hz (by (first | assumption | decide | exact le0 (by assumption) (by decide) | exact le1 (by assumption) (by decide) | exact le2 (by assumption) (by assumption) (by decide) | lia | omega)) fun σ3 hK3 T3 => ?_
    repeat ktr_rel
    have hn : sumN cells spot many = rowN cells spot + 2 := by unfold sumN; rw [if_pos h0]
    have := h σ3 ((hK1.trans hK2).trans hK3) (by rw [hn]; exact T3)
    unfold sumV Lin.enc at this
    rw [if_pos h0] at this
    simp only [avI, List.map_replicate] at this
    simp only [avN, List.length_map] at this ⊢
    first | exact this | exact ⟨by first | exact lb rfl | simp, this⟩
  · have e0 : (takeV cells (spot + rowN cells spot) 2 == 0) = false := by simpa using h0
    rw [e0]
    refine ex_nil ?_
    refine ex_cons ?_
    repeat ktr_rel
    refine evB_tuple hC rfl ?_
    refine evl_cons (ev_comp ⟨rfl, by decide, rfl, rfl⟩ (fun _ _ => rfl) ?_)
    refine evi_tup rfl ?_
    repeat ktr_rel
    refine ⟨_, rfl, ?_⟩
    refine comp_takes (kt := kt) (kc := kc) (m := (rowNat cells spot many).length) (cells := cells) (spot := spot + rowN cells spot + 1) (g := fun i => .int (takeV cells (spot + rowN cells spot + 1 + i) 4 - 1)) (fun _ => trivial) (by simp [avN]) (by (first | assumption | decide | exact le0 (by assumption) (by decide) | exact le1 (by assumption) (by decide) | exact le2 (by assumption) (by assumption) (by decide) | lia | omega)) T2 (fun i av σi hav hlt hK hT => ?_) (fun σf hK hT => ?_)
    · refine as_name rfl ?_
      repeat ktr_rel
      refine ev_callF hC d12_mem rfl rfl ?_
      repeat ktr_rel
      refine c_take hC hT (by (first | assumption | decide | exact le0 (by assumption) (by decide) | exact le1 (by assumption) (by decide) | exact le2 (by assumption) (by assumption) (by decide) | lia | omega)) (by (first | assumption | decide | exact le0 (by assumption) (by decide) | exact le1 (by assumption) (by decide) | exact le2 (by assumption) (by assumption) (by decide) | lia | omega)) hz (by (first | assumption | decide | exact le0 (by assumption) (by decide) | exact le1 (by assumption) (by decide) | exact le2 (by assumption) (by assumption) (by decide) | lia | omega)) fun σ3 hK3 T3 => ?_
      repeat ktr_rel
      refine bin_sub ?_
      exact ⟨rfl, hK.trans hK3, T3⟩
    · refine evl_nil ?_
      refine cv_tuple_list get_app (by simp; (first | assumption | decide | exact le0 (by assumption) (by decide) | exact le1 (by assumption) (by decide) | exact le2 (by assumption) (by assumption) (by decide) | lia | omega)) ?_
      have hT' := hT.keep (Keep.refl.app (o := .list ((List.range (rowNat cells spot many).length).map fun i => AV.int (takeV cells (spot + rowN cells spot + 1 + i) 4 - 1))))
      have hK' := ((hK1.trans hK2).trans hK).app (o := .list ((List.range (rowNat cells spot many).length).map fun i => AV.int (takeV cells (spot + rowN cells spot + 1 + i) 4 - 1)))
      repeat ktr_rel
      refine ev_callF hC d12_mem rfl rfl ?_
      repeat ktr_rel
      refine c_take hC hT' (by (first | assumption | decide | exact le0 (by assumption) (by decide) | exact le1 (by assumption) (by decide) | exact le2 (by assumption) (by assumption) (by decide) | lia | omega)) (by (first | assumption | decide | exact le0 (by assumption) (by decide) | exact le1 (by assumption) (by decide) | exact le2 (by assumption) (by assumption) (by decide) | lia | omega)) hz (by (first | assumption | decide | exact le0 (by assumption) (by decide) | exact le1 (by assumption) (by decide) | exact le2 (by assumption) (by assumption) (by decide) | lia | omega)) fun σ3 hK3 T3 => ?_
      repeat ktr_rel
      have hn : sumN cells spot many = rowN cells spot + 2 + (rowNat cells spot many).length := by unfold sumN; rw [if_neg h0]
      have := h σ3 (hK'.trans hK3) (by
        rw [hn]
        have e : spot + (rowN cells spot + 2 + (rowNat cells spot many).length) = spot + rowN cells spot + 1 + (rowNat cells spot many).length + 1 := by (first | assumption | decide | exact le0 (by assumption) (by decide) | exact le1 (by assumption) (by decide) | exact le2 (by assumption) (by assumption) (by decide) | lia | omega)
        rw [e]; exact T3)
      unfold sumV Lin.enc at this
      rw [if_neg h0] at this
      simp only [avI, takes, List.map_map] at this
      first | exact this | exact ⟨by first | exact lb rfl | simp, this⟩
end

-- part W21

noncomputable def places (r : List Nat) (x : Nat) : List Nat := (r.zipIdx.filter fun p => decide (p.1 = x)).map (·.2)
section
variable {C : Cx} {n : Nat} {σ : List AO} {Q : AV → List AO → Prop}
theorem c_places {r : List Nat} {x : Nat} (hC : C.Ok recs) (hz : r.length ≤ 10) (h : ∀ σ' k, Keep [] σ σ' → σ'[k]? = some (.list (avN (places r x))) → Q (.ref k) σ') : CallF C (n + 1) "_law_places" [.tup (avN r), .int (x : Int)] σ Q := by
  refine callF hC d16_mem d16_ok rfl ?_
  refine ex_cons (ex_return ?_)
  refine ev_comp ⟨rfl, by decide, rfl, rfl⟩ (fun _ _ => rfl) ?_
  refine evi_enum hC rfl rfl rfl rfl ?_
  repeat ktr_rel
  refine ⟨_, rfl, ?_⟩
  have e1 : ((avN r).zipIdx.map fun p => AV.tup [.int p.2, p.1]) = r.zipIdx.map fun p => AV.tup [.int (p.2 : Int), .int (p.1 : Int)] := by
    unfold avN
    rw [List.zipIdx_map, List.map_map]
    rfl
  rw [e1]
  refine comp_pure (X := []) (xs := r.zipIdx) (enc := fun p => AV.tup [.int (p.2 : Int), .int (p.1 : Int)]) (g := fun p => .int (p.2 : Int)) (p := fun p => decide (p.1 = x)) rfl (by simp; (first | assumption | decide | exact le0 (by assumption) (by decide) | exact le1 (by assumption) (by decide) | exact le2 (by assumption) (by assumption) (by decide) | lia | omega)) (fun _ _ => trivial) (fun p hp σj hj => ?_) (fun σj hj => ?_)
  · refine as_tup rfl rfl rfl ?_
    show EvB _ _ _ _ _ _ _
    repeat ktr_rel
    refine cmp_eq_int ?_
    cases hb : ((p.1 : Int) == (x : Int)) with
    | true =>
      have hx : p.1 = x := Int.ofNat.inj (by simpa using hb)
      show EvE _ _ _ _ _ _ _
      repeat ktr_rel
      exact ⟨by simpa using hx, rfl, hj⟩
    | false =>
      have hx : ¬ p.1 = x := fun e => by rw [e] at hb; simp at hb
      exact ⟨by simpa using hx, hj⟩
  · refine h _ _ hj.app ?_
    rw [get_app]
    simp [places, avN, Function.comp_def]
end

-- part W22
section
variable {C : Cx} {n : Nat} {σ : List AO} {Q : AV → List AO → Prop}

noncomputable def sumAlike (l : Lin) (x y : Nat) : Bool :=
  let W := wtL (l.coefs.zip l.vars)
  if W x = W y then true
  else if l.name = "linear_le" ∨ l.c ≠ 0 ∨ W x ≠ - W y then false
  else decide ((keysOf (l.coefs.zip l.vars)).filter (fun z => decide (z ≠ x ∧ z ≠ y ∧ W z ≠ 0)) = [])
theorem any2 {a b i : Int} : ([PyData.int a, PyData.int b].any fun y => PyData.eqv y (.int i)) = decide (i = a ∨ i = b) := by
  simp only [List.any_cons, List.any_nil, Bool.or_false]
  by_cases h1 : i = a
  · subst h1; simp [PyData.eqv]
  · by_cases h2 : i = b
    · subst h2; simp [PyData.eqv]
    · simp [PyData.eqv, h1, h2, Ne.symm h1, Ne.symm h2]
theorem cmp_in2 {a b i : Int} {Q : Bool → List AO → Prop} (h : Q (decide (i = a ∨ i = b)) σ) : CmpR C n .In (.int i) (.tup [.int a, .int b]) σ Q :=
  cmp_in_tup (.int _) (.cons (.int _) (.cons (.int _) .nil)) rfl rfl (Nat.le_of_ble_eq_true rfl) (by rw [any2]; exact h)
theorem cmp_notin2 {a b i : Int} {Q : Bool → List AO → Prop} (h : Q (!decide (i = a ∨ i = b)) σ) : CmpR C n .NotIn (.int i) (.tup [.int a, .int b]) σ Q :=
  cmp_notin_tup (.int _) (.cons (.int _) (.cons (.int _) .nil)) rfl rfl (Nat.le_of_ble_eq_true rfl) (by rw [any2]; exact h)
theorem pureN (l : List Nat) : avPureL (avN l) = true := by
  induction l with
  | nil => rfl
  | cons x l ih => simp only [avN, List.map_cons, avPureL, avPure, Bool.true_and]; exact ih
theorem c_sum_alike {l : Lin} {x y : Nat} (hC : C.Ok recs) (hz : l.vars.length ≤ 5) (h : ∀ σ', Keep [] σ σ' → Q (.bool (sumAlike l x y)) σ') : CallF C (n + 1) "_law_is_alike_in_sum" [l.enc, .int (x : Int), .int (y : Int)] σ Q := by
  refine callF hC d18_mem d18_ok rfl ?_
  refine ex_cons ?_
  show Ex1 _ _ _ [("told", AV.tup [.str l.name, .tup (avI l.coefs), .tup (avN l.vars), .int l.c]), ("x", .int (x : Int)), ("y", .int (y : Int))] _ _ _
  repeat ktr_rel
  refine ev_dict0 ?_
  repeat ktr_rel
  refine ex_for ?_ (fun _ _ => rfl)
  refine evi_zip hC rfl rfl rfl rfl ?_
  repeat ktr_rel
  refine ⟨_, _, _, _, rfl, .inl rfl, .inl rfl, ?_⟩
  rw [zip_pairs]
  have hzl : (l.coefs.zip l.vars).length ≤ 5 := by rw [List.length_zip]; (first | assumption | decide | exact le0 (by assumption) (by decide) | exact le1 (by assumption) (by decide) | exact le2 (by assumption) (by assumption) (by decide) | lia | omega)
  refine ⟨fun i σi => Keep [σ.length] (σ ++ [AO.dictI [] 0] ++ [.pair]) σi ∧ ∃ ep, σi[σ.length]? = some (.dictI (dOf (keysOf ((l.coefs.zip l.vars).take i)) (wtL ((l.coefs.zip l.vars).take i))) ep), ⟨Keep.refl, 0, by simp [keysOf, dOf]⟩, fun i σi h => h.1.get (by first | exact nn | exact lb rfl | simp) (by first | exact nn | exact lb rfl | simp), fun i av σi hav hi => ?_, fun σf hf' => ?_⟩
  · rw [List.getElem?_map] at hav
    cases hp : (l.coefs.zip l.vars)[i]? with
    | none => rw [hp] at hav; cases hav
    | some p =>
    obtain ⟨c, v⟩ := p
    rw [hp] at hav
    simp only [Option.map_some, Option.some.injEq] at hav
    subst hav
    obtain ⟨hK, ep, hd⟩ := hi
    have tk : (l.coefs.zip l.vars).take (i + 1) = (l.coefs.zip l.vars).take i ++ [(c, v)] := by rw [List.take_add_one, hp]; rfl
    refine as_tup rfl rfl rfl ?_
    refine ex_cons (ex_setI (k := 0) (l := []) ?_ (by intro _; rfl))
    repeat ktr_rel
    refine ev_get2 rfl rfl rfl rfl ?_
    repeat ktr_rel
    refine ⟨_, _, _, rfl, hd, ?_⟩
    repeat ktr_rel
    refine ⟨_, rfl, ?_⟩
    repeat ktr_rel
    refine ⟨_, _, hd, ?_⟩
    rw [dOf_get]
    repeat ktr_rel
    refine bin_add ?_
    repeat ktr_rel
    refine ⟨_, _, _, _, rfl, rfl, hd, ?_, fun ep' => ?_⟩
    · have := keysOf_len ((l.coefs.zip l.vars).take i)
      have h2 : ((l.coefs.zip l.vars).take i).length ≤ 5 := by rw [List.length_take]; (first | assumption | decide | exact le0 (by assumption) (by decide) | exact le1 (by assumption) (by decide) | exact le2 (by assumption) (by assumption) (by decide) | lia | omega)
      simp only [dOf, List.length_map]; (first | assumption | decide | exact le0 (by assumption) (by decide) | exact le1 (by assumption) (by decide) | exact le2 (by assumption) (by assumption) (by decide) | lia | omega)
    · refine ex_nil ⟨rfl, skip_name rfl (skip_name rfl fun _ _ h => h), hK.set (.inr (by first | exact nn | exact lb rfl | simp)), ep', ?_⟩
      rw [get_set hd, dOf_step, tk]
  · rw [List.length_map, List.take_length] at hf'
    obtain ⟨hK, ep, hd⟩ := hf'
    have hK0 : Keep [] σ σf := keep_of (Y := []) (Keep.refl.app.app) hK fun i hi => .inl (by simp at hi; (first | assumption | decide | exact le0 (by assumption) (by decide) | exact le1 (by assumption) (by decide) | exact le2 (by assumption) (by assumption) (by decide) | lia | omega))
    refine ex_cons (ex_swap rfl rfl ?_ (by intro _; rfl) (by intro env h; obtain ⟨⟩ := env; cases h; rfl))
    repeat ktr_rel
    refine ev_get2 rfl rfl rfl rfl ?_
    repeat ktr_rel
    refine ⟨_, _, _, rfl, hd, ?_⟩
    repeat ktr_rel
    refine ⟨_, rfl, ?_⟩
    repeat ktr_rel
    refine ⟨_, _, hd, ?_⟩
    rw [dOf_get]
    repeat ktr_rel
    refine ev_get2 rfl rfl rfl rfl ?_
    repeat ktr_rel
    refine ⟨_, _, _, rfl, hd, ?_⟩
    repeat ktr_rel
    refine ⟨_, rfl, ?_⟩
    repeat ktr_rel
    refine ⟨_, _, hd, ?_⟩
    rw [dOf_get]
    repeat ktr_rel
    refine ⟨by first | exact lb rfl | simp, _, rfl, rfl, ?_⟩
    have go : ∀ ρ : List (Str × AV), ρ = ([("one", .int (wtL (l.coefs.zip l.vars) x)), ("other", .int (wtL (l.coefs.zip l.vars) y)), ("weights", .ref σ.length), ("told", AV.tup [.str l.name, .tup (avI l.coefs), .tup (avN l.vars), .int l.c]), ("x", .int (x : Int)), ("y", .int (y : Int))] : List (Str × AV)) →
        ExS C n d18.scope ρ (d18.body.drop 3) σf fun o _ σ' => Q (o.getD .none) σ' := fun ρ e => by
      subst e
      refine ex_cons ?_
      repeat ktr_rel
      refine cmp_eq_int ?_
      unfold sumAlike at h
      by_cases h1 : wtL (l.coefs.zip l.vars) x = wtL (l.coefs.zip l.vars) y
      · have e1 : (wtL (l.coefs.zip l.vars) x == wtL (l.coefs.zip l.vars) y) = true := by simpa using h1
        rw [e1]
        refine ex_cons (ex_return ?_)
        refine ev_bool ?_
        have := h σf hK0
        rw [if_pos h1] at this
        exact this
      · have e1 : (wtL (l.coefs.zip l.vars) x == wtL (l.coefs.zip l.vars) y) = false := by simpa using h1
        rw [e1]
        rw [if_neg h1] at h
        refine ex_nil ?_
        refine ex_cons (ex_if ?_)
        have tail : ¬ (l.name = "linear_le" ∨ l.c ≠ 0 ∨ wtL (l.coefs.zip l.vars) x ≠ - wtL (l.coefs.zip l.vars) y) → ExS C n d18.scope [("one", .int (wtL (l.coefs.zip l.vars) x)), ("other", .int (wtL (l.coefs.zip l.vars) y)), ("weights", .ref σ.length), ("told", AV.tup [.str l.name, .tup (avI l.coefs), .tup (avN l.vars), .int l.c]), ("x", .int (x : Int)), ("y", .int (y : Int))] (d18.body.drop 5) σf fun o _ σ' => Q (o.getD .none) σ' := fun h2 => by
          rw [if_neg h2] at h
          refine ex_cons (ex_return ?_)
          refine ev_cmp ?_
          refine ev_comp ⟨rfl, by decide, rfl, rfl⟩ (fun _ _ => rfl) ?_
          refine evi_dictI rfl ?_
          repeat ktr_rel
          refine ⟨_, _, _, rfl, hd, ?_⟩
          refine comp_pure (X := []) (xs := keysOf (l.coefs.zip l.vars)) (enc := fun (v : Nat) => .int (v : Int)) (g := fun (v : Nat) => .int (v : Int)) (p := fun z => decide (z ≠ x ∧ z ≠ y ∧ wtL (l.coefs.zip l.vars) z ≠ 0)) (by simp [dOf, Function.comp_def]) (by have := keysOf_len (l.coefs.zip l.vars); (first | assumption | decide | exact le0 (by assumption) (by decide) | exact le1 (by assumption) (by decide) | exact le2 (by assumption) (by assumption) (by decide) | lia | omega)) (fun σi hi => hi.get hd (by first | exact nn | exact lb rfl | simp)) (fun z hz' σj hj => ?_) (fun σj hj => ?_)
          · have hdj := hj.get hd (by first | exact nn | exact lb rfl | simp)
            refine as_name rfl ?_
            show EvB _ _ _ _ _ _ _
            refine eb_bool (eva_and ?_)
            repeat ktr_rel
            refine ⟨by first | exact lb rfl | simp, cmp_notin2 ?_⟩
            by_cases hz1 : z = x ∨ z = y
            · have e5 : (!decide ((z : Int) = (x : Int) ∨ (z : Int) = (y : Int))) = false := by
                rcases hz1 with e | e <;> simp [e]
              rw [e5]
              refine ⟨?_, hj⟩
              rcases hz1 with e | e <;> simp [e]
            · have e5 : (!decide ((z : Int) = (x : Int) ∨ (z : Int) = (y : Int))) = true := by
                simp only [Bool.not_eq_true', decide_eq_false_iff_not]
                intro h
                rcases h with h | h
                · exact hz1 (.inl (Int.ofNat.inj h))
                · exact hz1 (.inr (Int.ofNat.inj h))
              rw [e5]
              refine eva_and ?_
              repeat ktr_rel
              have hg : getI (dOf (keysOf (l.coefs.zip l.vars)) (wtL (l.coefs.zip l.vars))) (z : Int) = some (.int (wtL (l.coefs.zip l.vars) z)) := by rw [find_dOf, if_pos hz']
              refine sub_dictI hdj hg ?_
              repeat ktr_rel
              refine cmp_ne_int ?_
              have n1 : z ≠ x := fun e => hz1 (.inl e)
              have n2 : z ≠ y := fun e => hz1 (.inr e)
              by_cases hz2 : wtL (l.coefs.zip l.vars) z = 0
              · have e6 : (wtL (l.coefs.zip l.vars) z != 0) = false := by simp [hz2]
                rw [e6]
                exact ⟨by simp [hz2], hj⟩
              · have e6 : (wtL (l.coefs.zip l.vars) z != 0) = true := by simpa using hz2
                rw [e6]
                refine eva_and0 ?_
                show EvE _ _ _ _ _ _ _
                repeat ktr_rel
                have e7 : decide (z ≠ x ∧ z ≠ y ∧ wtL (l.coefs.zip l.vars) z ≠ 0) = true := by simp [n1, n2, hz2]
                first | exact ⟨e7, rfl, hj⟩ | exact ⟨rfl, hj⟩ | exact hj
          · have hj1 := hj.app (o := .list (((keysOf (l.coefs.zip l.vars)).filter (fun z => decide (z ≠ x ∧ z ≠ y ∧ wtL (l.coefs.zip l.vars) z ≠ 0))).map fun (v : Nat) => .int (v : Int)))
            repeat ktr_rel
            have p1 : avPureL (avN ((keysOf (l.coefs.zip l.vars)).filter (fun z => decide (z ≠ x ∧ z ≠ y ∧ wtL (l.coefs.zip l.vars) z ≠ 0)))) = true := pureN _
            refine cmp_eq (.ref ((Keep.refl (X := [])).app.get get_app (by first | exact nn | exact lb rfl | simp)) (pyOfL p1)) (.ref get_app (.nil)) (lay_pyL p1) rfl (Nat.le_trans (Nat.min_le_right _ _) (Nat.le_of_ble_eq_true rfl)) ?_
            have := h _ (hK0.trans (hj1.app (o := .list [])))
            have e8 : PyData.eqv (.list (toPyL (avN ((keysOf (l.coefs.zip l.vars)).filter (fun z => decide (z ≠ x ∧ z ≠ y ∧ wtL (l.coefs.zip l.vars) z ≠ 0)))))) (.list []) = decide ((keysOf (l.coefs.zip l.vars)).filter (fun z => decide (z ≠ x ∧ z ≠ y ∧ wtL (l.coefs.zip l.vars) z ≠ 0)) = []) := by
              cases (keysOf (l.coefs.zip l.vars)).filter (fun z => decide (z ≠ x ∧ z ≠ y ∧ wtL (l.coefs.zip l.vars) z ≠ 0)) <;> simp [avN, toPyL, PyData.eqv, PyData.eqvAll]
            rw [← e8] at this
            exact this
        refine eb_bool (eva_or ?_)
        repeat ktr_rel
        refine cmp_eq_str ?_
        by_cases h2 : l.name = "linear_le"
        · have e2 : (l.name == ("linear_le" : Str)) = true := by simpa using h2
          rw [e2]
          refine ex_cons (ex_return ?_)
          refine ev_bool ?_
          have := h σf hK0
          rw [if_pos (.inl h2)] at this
          exact this
        · have e2 : (l.name == ("linear_le" : Str)) = false := by simpa using h2
          rw [e2]
          refine eva_or ?_
          repeat ktr_rel
          refine cmp_ne_int ?_
          by_cases h3 : l.c ≠ 0
          · have e3 : (l.c != 0) = true := by simpa using h3
            rw [e3]
            refine ex_cons (ex_return ?_)
            refine ev_bool ?_
            have := h σf hK0
            rw [if_pos (.inr (.inl h3))] at this
            exact this
          · have e3 : (l.c != 0) = false := by simpa using h3
            rw [e3]
            refine eva_or ?_
            repeat ktr_rel
            refine ⟨_, rfl, ?_⟩
            refine cmp_ne_int ?_
            by_cases h4 : wtL (l.coefs.zip l.vars) x ≠ - wtL (l.coefs.zip l.vars) y
            · have e4 : (wtL (l.coefs.zip l.vars) x != - wtL (l.coefs.zip l.vars) y) = true := by simpa using h4
              rw [e4]
              refine ex_cons (ex_return ?_)
              refine ev_bool ?_
              have := h σf hK0
              rw [if_pos (.inr (.inr h4))] at this
              exact this
            · have e4 : (wtL (l.coefs.zip l.vars) x != - wtL (l.coefs.zip l.vars) y) = false := by simpa using h4
              rw [e4]
              refine eva_or0 ?_
              refine ex_nil (tail fun h => ?_)
              rcases h with h | h | h
              · exact h2 h
              · exact h3 h
              · exact h4 h
    exact go _ rfl
end

-- part P1
section
variable {a b : Nat}
theorem swp_l : swp a b a = b := by simp [swp]
theorem swp_r : swp a b b = a := by
  unfold swp
  split
  · next h => exact h
  · simp
theorem swp_o {v : Nat} (h1 : v ≠ a) (h2 : v ≠ b) : swp a b v = v := by simp [swp, h1, h2]
theorem swp_swp (v : Nat) : swp a b (swp a b v) = v := by
  by_cases h1 : v = a
  · subst h1; rw [swp_l, swp_r]
  · by_cases h2 : v = b
    · subst h2; rw [swp_r, swp_l]
    · rw [swp_o h1 h2, swp_o h1 h2]
theorem swp_inj {u v : Nat} (h : swp a b u = swp a b v) : u = v := by
  have := congrArg (swp a b) h
  rwa [swp_swp, swp_swp] at this
theorem swp_flip {u v : Nat} : swp a b u = v ↔ u = swp a b v := ⟨fun h => by rw [← h, swp_swp], fun h => by rw [h, swp_swp]⟩
theorem swp_lt (ha : a < 5) (hb : b < 5) {v : Nat} (hv : v < 5) : swp a b v < 5 := by
  unfold swp
  split
  · exact hb
  · split
    · exact ha
    · exact hv
theorem swp_fix (hab : a ≠ b) {v : Nat} : swp a b v = v ↔ v ≠ a ∧ v ≠ b := by
  refine ⟨fun h => ⟨fun e => ?_, fun e => ?_⟩, fun h => swp_o h.1 h.2⟩
  · subst e; rw [swp_l] at h; exact hab h.symm
  · subst e; rw [swp_r] at h; exact hab h
theorem count_swp (r : List Nat) (v : Nat) : (r.map (swp a b)).count v = r.count (swp a b v) := by
  induction r with
  | nil => rfl
  | cons x r ih =>
    rw [List.map_cons, List.count_cons, List.count_cons, ih]
    by_cases h : swp a b x = v
    · have h' := swp_flip.mp h
      simp [h, h', swp_swp]
    · have h' : ¬ x = swp a b v := fun e => h (swp_flip.mpr e)
      have e1 : (swp a b x == v) = false := beq_eq_false_iff_ne.mpr h
      have e2 : (x == swp a b v) = false := beq_eq_false_iff_ne.mpr h'
      rw [e1, e2]
theorem perm_swp (r : List Nat) : r.Perm (r.map (swp a b)) ↔ r.count a = r.count b := by
  rw [List.perm_iff_count]
  refine ⟨fun h => ?_, fun h v => ?_⟩
  · have := h a
    rw [count_swp, swp_l] at this
    exact this
  · rw [count_swp]
    by_cases h1 : v = a
    · subst h1; rw [swp_l]; exact h
    · by_cases h2 : v = b
      · subst h2; rw [swp_r]; exact h.symm
      · rw [swp_o h1 h2]
theorem sortI_pw (xs : List Int) : (sortI xs).Pairwise (· ≤ ·) := by
  have := List.pairwise_mergeSort (le := fun a b : Int => decide (a ≤ b)) (fun a b c h1 h2 => by
    simp only [decide_eq_true_eq] at *; (first | assumption | decide | exact le0 (by assumption) (by decide) | exact le1 (by assumption) (by decide) | exact le2 (by assumption) (by assumption) (by decide) | lia | omega)) (fun a b => by
    simp only [Bool.or_eq_true, decide_eq_true_eq]; (first | assumption | decide | exact le0 (by assumption) (by decide) | exact le1 (by assumption) (by decide) | exact le2 (by assumption) (by assumption) (by decide) | lia | omega)) xs
  exact this.imp fun {a b} h => by simpa using h
theorem sortI_perm (xs : List Int) : (sortI xs).Perm xs := List.mergeSort_perm _ _
theorem sortI_eq {xs ys : List Int} : sortI xs = sortI ys ↔ xs.Perm ys :=
  ⟨fun h => (sortI_perm xs).symm.trans (h ▸ sortI_perm ys), fun h => sortI_of ((sortI_perm xs).trans h) (sortI_pw xs)⟩
theorem natI_perm {r q : List Nat} : (natI r).Perm (natI q) ↔ r.Perm q := by
  refine ⟨fun h => ?_, fun h => h.map _⟩
  have := h.map Int.toNat
  unfold natI at this
  rw [List.map_map, List.map_map] at this
  have e : (Int.toNat ∘ Int.ofNat) = id := funext fun x => rfl
  rw [e, List.map_id, List.map_id] at this
  exact this
theorem sort_swp (r : List Nat) : sortI (natI r) = sortI (natI (r.map (swp a b))) ↔ r.count a = r.count b := by
  rw [sortI_eq, natI_perm, perm_swp]
theorem mem_swp {r : List Nat} {v : Nat} : v ∈ r.map (swp a b) ↔ swp a b v ∈ r := by
  rw [List.mem_map]
  exact ⟨fun ⟨x, hx, e⟩ => by rw [← e, swp_swp]; exact hx, fun h => ⟨_, h, swp_swp v⟩⟩
theorem mem_sset {r : List Nat} {v : Nat} : v ∈ sset r ↔ v < 5 ∧ v ∈ r := by
  unfold sset
  rw [List.mem_filter, List.mem_range]
  simp
theorem sset_eq_iff {r q : List Nat} : sset r = sset q ↔ ∀ v, v < 5 → (v ∈ r ↔ v ∈ q) := by
  refine ⟨fun h v hv => ?_, fun h => ?_⟩
  · have h1 := mem_sset (r := r) (v := v)
    have h2 := mem_sset (r := q) (v := v)
    rw [h] at h1
    exact ⟨fun x => (h2.mp (h1.mpr ⟨hv, x⟩)).2, fun x => (h1.mp (h2.mpr ⟨hv, x⟩)).2⟩
  · unfold sset
    refine List.filter_congr fun v hv => ?_
    have := h v (List.mem_range.mp hv)
    by_cases e : v ∈ r
    · simp [e, this.mp e]
    · have e' : v ∉ q := fun x => e (this.mpr x)
      simp [e, e']
theorem sset_swp (ha : a < 5) (hb : b < 5) (r : List Nat) : sset r = sset (r.map (swp a b)) ↔ (a ∈ r ↔ b ∈ r) := by
  rw [sset_eq_iff]
  refine ⟨fun h => ?_, fun h v hv => ?_⟩
  · have := h a ha
    rw [mem_swp, swp_l] at this
    exact this
  · rw [mem_swp]
    by_cases h1 : v = a
    · subst h1; rw [swp_l]; exact h
    · by_cases h2 : v = b
      · subst h2; rw [swp_r]; exact h.symm
      · rw [swp_o h1 h2]
theorem map_fix {f : Nat → Nat} {r : List Nat} : r.map f = r ↔ ∀ x ∈ r, f x = x := by
  induction r with
  | nil => simp
  | cons x r ih => simp [ih]
theorem map_swp_fix (hab : a ≠ b) (r : List Nat) : r.map (swp a b) = r ↔ a ∉ r ∧ b ∉ r := by
  rw [map_fix]
  refine ⟨fun h => ⟨fun m => ((swp_fix hab).mp (h a m)).1 rfl, fun m => ((swp_fix hab).mp (h b m)).2 rfl⟩, fun h x hx => (swp_fix hab).mpr ⟨fun e => h.1 (e ▸ hx), fun e => h.2 (e ▸ hx)⟩⟩
end
section
noncomputable def placesFrom (r : List Nat) (x n : Nat) : List Nat := ((r.zipIdx n).filter fun p => decide (p.1 = x)).map (·.2)
theorem placesFrom_cons (y : Nat) (r : List Nat) (x n : Nat) : placesFrom (y :: r) x n = if y = x then n :: placesFrom r x (n + 1) else placesFrom r x (n + 1) := by
  unfold placesFrom
  rw [List.zipIdx_cons]
  by_cases h : y = x
  · simp [h]
  · simp [h]
theorem placesFrom_mem {r : List Nat} {x : Nat} : ∀ {n k : Nat}, k ∈ placesFrom r x n ↔ n ≤ k ∧ r[k - n]? = some x := by
  induction r with
  | nil => intro n k; simp [placesFrom]
  | cons y r ih =>
    intro n k
    rw [placesFrom_cons]
    have key : k ∈ placesFrom r x (n + 1) ↔ n + 1 ≤ k ∧ (y :: r)[k - n]? = some x := by
      rw [ih]
      constructor
      · intro ⟨h1, h2⟩
        refine ⟨h1, ?_⟩
        have : k - n = (k - (n + 1)) + 1 := by (first | assumption | decide | exact le0 (by assumption) (by decide) | exact le1 (by assumption) (by decide) | exact le2 (by assumption) (by assumption) (by decide) | lia | omega)
        rw [this, List.getElem?_cons_succ]; exact h2
      · intro ⟨h1, h2⟩
        refine ⟨h1, ?_⟩
        have : k - n = (k - (n + 1)) + 1 := by (first | assumption | decide | exact le0 (by assumption) (by decide) | exact le1 (by assumption) (by decide) | exact le2 (by assumption) (by assumption) (by decide) | lia | omega)
        rw [this, List.getElem?_cons_succ] at h2; exact h2
    split
    · next h =>
      subst h
      rw [List.mem_cons, key]
      constructor
      · rintro (rfl | h)
        · exact ⟨Nat.le_refl _, by simp⟩
        · exact ⟨by (first | assumption | decide | exact le0 (by assumption) (by decide) | exact le1 (by assumption) (by decide) | exact le2 (by assumption) (by assumption) (by decide) | lia | omega), h.2⟩
      · intro ⟨h1, h2⟩
        by_cases e : k = n
        · exact .inl e
        · exact .inr ⟨by (first | assumption | decide | exact le0 (by assumption) (by decide) | exact le1 (by assumption) (by decide) | exact le2 (by assumption) (by assumption) (by decide) | lia | omega), h2⟩
    · next h =>
      rw [key]
      constructor
      · exact fun h => ⟨by (first | assumption | decide | exact le0 (by assumption) (by decide) | exact le1 (by assumption) (by decide) | exact le2 (by assumption) (by assumption) (by decide) | lia | omega), h.2⟩
      · intro ⟨h1, h2⟩
        refine ⟨?_, h2⟩
        by_cases e : k = n
        · subst e; simp at h2; exact absurd h2 h
        · (first | assumption | decide | exact le0 (by assumption) (by decide) | exact le1 (by assumption) (by decide) | exact le2 (by assumption) (by assumption) (by decide) | lia | omega)
theorem placesFrom_len {r : List Nat} {x : Nat} : ∀ {n : Nat}, (placesFrom r x n).length = r.count x := by
  induction r with
  | nil => intro n; rfl
  | cons y r ih =>
    intro n
    rw [placesFrom_cons, List.count_cons]
    by_cases h : y = x
    · simp [h, ih]
    · simp [h, ih]
theorem places_mem {r : List Nat} {x k : Nat} : k ∈ places r x ↔ r[k]? = some x := by
  have := placesFrom_mem (r := r) (x := x) (n := 0) (k := k)
  simp only [Nat.zero_le, true_and, Nat.sub_zero] at this
  exact this
theorem places_len {r : List Nat} {x : Nat} : (places r x).length = r.count x := placesFrom_len (n := 0)
theorem places_nil {r : List Nat} {x : Nat} (h : x ∉ r) : places r x = [] := by
  have : (places r x).length = 0 := by rw [places_len, List.count_eq_zero.mpr h]
  exact List.length_eq_zero_iff.mp this
theorem places_eq {r : List Nat} {a b : Nat} (hab : a ≠ b) : places r a = places r b ↔ a ∉ r ∧ b ∉ r := by
  refine ⟨fun h => ⟨fun m => ?_, fun m => ?_⟩, fun h => by rw [places_nil h.1, places_nil h.2]⟩
  · obtain ⟨k, hk⟩ := List.getElem?_of_mem m
    have h1 := places_mem.mpr hk
    rw [h] at h1
    have h2 := places_mem.mp h1
    rw [hk] at h2
    exact hab (Option.some.inj h2)
  · obtain ⟨k, hk⟩ := List.getElem?_of_mem m
    have h1 := places_mem.mpr hk
    rw [← h] at h1
    have h2 := places_mem.mp h1
    rw [hk] at h2
    exact hab (Option.some.inj h2).symm
end

-- part P2
section
variable {a b : Nat}
theorem wt_swp (cs : List Int) (vs : List Nat) (v : Nat) : wtL (cs.zip (vs.map (swp a b))) v = wtL (cs.zip vs) (swp a b v) := by
  unfold wtL
  congr 1
  have e : cs.zip (vs.map (swp a b)) = (cs.zip vs).map fun p => (p.1, swp a b p.2) := by
    rw [List.zip_map_right]; rfl
  rw [e, List.map_map]
  refine List.map_congr_left fun p _ => ?_
  simp only [Function.comp]
  by_cases h : swp a b p.2 = v
  · rw [if_pos h, if_pos (swp_flip.mp h)]
  · rw [if_neg h, if_neg fun e => h (swp_flip.mpr e)]

noncomputable def keptOf (W : Nat → Int) : List Nat := (List.range 5).filter fun v => W v != 0
noncomputable def signOf (nm : Str) (W : Nat → Int) : Int := if nm ≠ "linear_le" ∧ 0 < (keptOf W).length ∧ W ((keptOf W).headD 0) < 0 then -1 else 1
theorem plain_rest (l : Lin) (W : Nat → Int) (hW : wtL (l.coefs.zip l.vars) = W) : l.plain.rest = [.tup (avI ((keptOf W).map fun v => signOf l.name W * W v)), .tup (avN (keptOf W)), .int (signOf l.name W * l.c)] := by
  subst hW; rfl
theorem avI_inj {x y : List Int} (h : avI x = avI y) : x = y := List.map_inj_right (fun _ _ e => AV.int.inj e) |>.mp h
theorem avN_inj {x y : List Nat} (h : avN x = avN y) : x = y := List.map_inj_right (fun _ _ e => Int.ofNat.inj (AV.int.inj e)) |>.mp h
theorem mem_kept {W : Nat → Int} {v : Nat} : v ∈ keptOf W ↔ v < 5 ∧ W v ≠ 0 := by
  unfold keptOf; rw [List.mem_filter, List.mem_range]; simp
theorem sign_or (nm : Str) (W : Nat → Int) : signOf nm W = 1 ∨ (signOf nm W = -1 ∧ nm ≠ "linear_le") := by
  unfold signOf
  split
  · next h => exact .inr ⟨rfl, h.1⟩
  · exact .inl rfl
theorem sign_cons {nm : Str} {W : Nat → Int} {x : Nat} {r : List Nat} (hn : nm ≠ "linear_le") (hK : keptOf W = x :: r) : signOf nm W = if W x < 0 then -1 else 1 := by
  unfold signOf
  by_cases h : W x < 0
  · simp [hK, h, hn]
  · simp [hK, h, hn]
theorem lin_alike {l : Lin} (ha : a < 5) (hb : b < 5) (hv : ∀ v ∈ l.vars, v < 5) : l.plain.rest = (l.ren (swp a b)).plain.rest ↔ sumAlike l a b = true := by
  have e1 := plain_rest l _ rfl
  have e2 := plain_rest (l.ren (swp a b)) (fun v => wtL (l.coefs.zip l.vars) (swp a b v)) (funext fun v => wt_swp _ _ v)
  rw [e1, e2]
  show (_ : List AV) = [_, _, AV.int (signOf l.name _ * l.c)] ↔ _
  have hz : ∀ z, z ∉ keysOf (l.coefs.zip l.vars) → wtL (l.coefs.zip l.vars) z = 0 := fun z h => wt_zero fun m => h ((mem_keysOf _).mpr m)
  have hk : ∀ z, z ∈ keysOf (l.coefs.zip l.vars) → z < 5 := fun z h => by
    obtain ⟨p, hp, rfl⟩ := List.mem_map.mp ((mem_keysOf _).mp h)
    exact hv _ (List.of_mem_zip hp).2
  unfold sumAlike
  show _ ↔ (if wtL (l.coefs.zip l.vars) a = wtL (l.coefs.zip l.vars) b then true else if l.name = "linear_le" ∨ l.c ≠ 0 ∨ wtL (l.coefs.zip l.vars) a ≠ -wtL (l.coefs.zip l.vars) b then false else
    decide ((keysOf (l.coefs.zip l.vars)).filter (fun z => decide (z ≠ a ∧ z ≠ b ∧ wtL (l.coefs.zip l.vars) z ≠ 0)) = [])) = true
  generalize wtL (l.coefs.zip l.vars) = W at *
  constructor
  · intro h
    simp only [List.cons.injEq, AV.tup.injEq, AV.int.injEq, and_true] at h
    obtain ⟨h1, h2, h3⟩ := h
    have h1 := avI_inj h1
    have h2 := avN_inj h2
    rw [← h2] at h1
    have hp : ∀ v, v < 5 → signOf l.name W * W v = signOf l.name (fun v => W (swp a b v)) * W (swp a b v) := fun v hv' => by
      by_cases hm : v ∈ keptOf W
      · exact List.map_inj_left.mp h1 v hm
      · have w1 : W v = 0 := Classical.byContradiction fun h => hm (mem_kept.mpr ⟨hv', h⟩)
        rw [h2] at hm
        have w2 : W (swp a b v) = 0 := Classical.byContradiction fun h => hm (mem_kept.mpr ⟨hv', h⟩)
        rw [w1, w2]; simp
    by_cases hab : W a = W b
    · rw [if_pos hab]
    · rw [if_neg hab]
      have ea := hp a ha
      rw [swp_l] at ea
      have opp : ∀ v, v < 5 → W v = - W (swp a b v) := fun v hv' => by
        have := hp v hv'
        rcases sign_or l.name W with q | q <;> rcases sign_or l.name (fun v => W (swp a b v)) with q' | q'
        · rw [q, q'] at ea; (first | assumption | decide | exact le0 (by assumption) (by decide) | exact le1 (by assumption) (by decide) | exact le2 (by assumption) (by assumption) (by decide) | lia | omega)
        · rw [q, q'.1] at this; (first | assumption | decide | exact le0 (by assumption) (by decide) | exact le1 (by assumption) (by decide) | exact le2 (by assumption) (by assumption) (by decide) | lia | omega)
        · rw [q.1, q'] at this; (first | assumption | decide | exact le0 (by assumption) (by decide) | exact le1 (by assumption) (by decide) | exact le2 (by assumption) (by assumption) (by decide) | lia | omega)
        · rw [q.1, q'.1] at ea; (first | assumption | decide | exact le0 (by assumption) (by decide) | exact le1 (by assumption) (by decide) | exact le2 (by assumption) (by assumption) (by decide) | lia | omega)
      have nle : l.name ≠ "linear_le" := fun e => by
        rcases sign_or l.name W with q | q
        · rcases sign_or l.name (fun v => W (swp a b v)) with q' | q'
          · rw [q, q'] at ea; (first | assumption | decide | exact le0 (by assumption) (by decide) | exact le1 (by assumption) (by decide) | exact le2 (by assumption) (by assumption) (by decide) | lia | omega)
          · exact q'.2 e
        · exact q.2 e
      have c0 : l.c = 0 := by
        rcases sign_or l.name W with q | q <;> rcases sign_or l.name (fun v => W (swp a b v)) with q' | q'
        · rw [q, q'] at ea; (first | assumption | decide | exact le0 (by assumption) (by decide) | exact le1 (by assumption) (by decide) | exact le2 (by assumption) (by assumption) (by decide) | lia | omega)
        · rw [q, q'.1] at h3; (first | assumption | decide | exact le0 (by assumption) (by decide) | exact le1 (by assumption) (by decide) | exact le2 (by assumption) (by assumption) (by decide) | lia | omega)
        · rw [q.1, q'] at h3; (first | assumption | decide | exact le0 (by assumption) (by decide) | exact le1 (by assumption) (by decide) | exact le2 (by assumption) (by assumption) (by decide) | lia | omega)
        · rw [q.1, q'.1] at ea; (first | assumption | decide | exact le0 (by assumption) (by decide) | exact le1 (by assumption) (by decide) | exact le2 (by assumption) (by assumption) (by decide) | lia | omega)
      have oa := opp a ha
      rw [swp_l] at oa
      rw [if_neg fun h => by
        rcases h with h | h | h
        · exact nle h
        · exact h c0
        · exact h oa]
      rw [decide_eq_true_eq, List.filter_eq_nil_iff]
      intro z hz'
      rw [decide_eq_true_eq]
      intro ⟨n1, n2, n3⟩
      have := opp z (hk z hz')
      rw [swp_o n1 n2] at this
      (first | assumption | decide | exact le0 (by assumption) (by decide) | exact le1 (by assumption) (by decide) | exact le2 (by assumption) (by assumption) (by decide) | lia | omega)
  · intro h
    by_cases hab : W a = W b
    · have e : (fun v => W (swp a b v)) = W := funext fun v => by
        by_cases h1 : v = a
        · subst h1; rw [swp_l]; exact hab.symm
        · by_cases h2 : v = b
          · subst h2; rw [swp_r]; exact hab
          · rw [swp_o h1 h2]
      have ev : ∀ v, W (swp a b v) = W v := fun v => congrFun e v
      simp only [ev]
      rfl
    · rw [if_neg hab] at h
      by_cases hc : l.name = "linear_le" ∨ l.c ≠ 0 ∨ W a ≠ -W b
      · rw [if_pos hc] at h; cases h
      · rw [if_neg hc, decide_eq_true_eq, List.filter_eq_nil_iff] at h
        have nle : l.name ≠ "linear_le" := fun e => hc (.inl e)
        have c0 : l.c = 0 := Classical.byContradiction fun e => hc (.inr (.inl e))
        have oa : W a = - W b := Classical.byContradiction fun e => hc (.inr (.inr e))
        have rest : ∀ z, z ≠ a → z ≠ b → W z = 0 := fun z h1 h2 => by
          by_cases hm : z ∈ keysOf (l.coefs.zip l.vars)
          · have := h z hm
            rw [decide_eq_true_eq] at this
            exact Classical.byContradiction fun e => this ⟨h1, h2, e⟩
          · exact hz z hm
        have opp : (fun v => W (swp a b v)) = fun v => - W v := funext fun v => by
          by_cases h1 : v = a
          · subst h1; rw [swp_l]; (first | assumption | decide | exact le0 (by assumption) (by decide) | exact le1 (by assumption) (by decide) | exact le2 (by assumption) (by assumption) (by decide) | lia | omega)
          · by_cases h2 : v = b
            · subst h2; rw [swp_r]; exact oa
            · rw [swp_o h1 h2, rest v h1 h2]; rfl
        have ek : keptOf (fun v => - W v) = keptOf W := by
          unfold keptOf
          refine List.filter_congr fun v _ => ?_
          exact Bool.eq_iff_iff.mpr (by simp only [bne_iff_ne]; (first | assumption | decide | exact le0 (by assumption) (by decide) | exact le1 (by assumption) (by decide) | exact le2 (by assumption) (by assumption) (by decide) | lia | omega))
        have am : a ∈ keptOf W := mem_kept.mpr ⟨ha, by (first | assumption | decide | exact le0 (by assumption) (by decide) | exact le1 (by assumption) (by decide) | exact le2 (by assumption) (by assumption) (by decide) | lia | omega)⟩
        have es : signOf l.name (fun v => - W v) = - signOf l.name W := by
          cases hK : keptOf W with
          | nil => rw [hK] at am; cases am
          | cons x r =>
            have hx : W x ≠ 0 := (mem_kept.mp (by rw [hK]; exact .head _)).2
            rw [sign_cons nle hK, sign_cons (W := fun v => - W v) nle (by rw [ek, hK])]
            by_cases hx' : W x < 0
            · rw [if_pos hx', if_neg (by (first | assumption | decide | exact le0 (by assumption) (by decide) | exact le1 (by assumption) (by decide) | exact le2 (by assumption) (by assumption) (by decide) | lia | omega))]; rfl
            · rw [if_neg hx', if_pos (by (first | assumption | decide | exact le0 (by assumption) (by decide) | exact le1 (by assumption) (by decide) | exact le2 (by assumption) (by assumption) (by decide) | lia | omega))]
        have eq : (l.ren (swp a b)).name = l.name := rfl
        have ev : ∀ v, W (swp a b v) = - W v := fun v => congrFun opp v
        simp only [ev]
        have ec : (l.ren (swp a b)).c = 0 := c0
        rw [eq, es, ek, c0]
        simp [Int.neg_mul_neg]
end

-- part W23
noncomputable def takeN (cells : List Int) (spot w : Nat) : Nat := (takeV cells spot (w : Int)).toNat
theorem takeN_eq {cells : List Int} {spot w : Nat} (h : 0 < w) : takeV cells spot (w : Int) = ((takeN cells spot w : Nat) : Int) := by
  have := (takeV_range (cells := cells) (spot := spot) (wide := (w : Int)) (by (first | assumption | decide | exact le0 (by assumption) (by decide) | exact le1 (by assumption) (by decide) | exact le2 (by assumption) (by assumption) (by decide) | lia | omega))).1
  unfold takeN; (first | assumption | decide | exact le0 (by assumption) (by decide) | exact le1 (by assumption) (by decide) | exact le2 (by assumption) (by assumption) (by decide) | lia | omega)
theorem takeN_lt {cells : List Int} {spot w : Nat} (h : 0 < w) : takeN cells spot w < w := by
  have := (takeV_range (cells := cells) (spot := spot) (wide := (w : Int)) (by (first | assumption | decide | exact le0 (by assumption) (by decide) | exact le1 (by assumption) (by decide) | exact le2 (by assumption) (by assumption) (by decide) | lia | omega)))
  unfold takeN; (first | assumption | decide | exact le0 (by assumption) (by decide) | exact le1 (by assumption) (by decide) | exact le2 (by assumption) (by assumption) (by decide) | lia | omega)
theorem kinds14 : ∀ k, k < 14 → k = 0 ∨ k = 1 ∨ k = 2 ∨ k = 3 ∨ k = 4 ∨ k = 5 ∨ k = 6 ∨ k = 7 ∨ k = 8 ∨ k = 9 ∨ k = 10 ∨ k = 11 ∨ k = 12 ∨ k = 13 := by decide
noncomputable def nmOf (i : Nat) : Str := if i = 0 then "linear_eq" else if i = 1 then "linear_ne" else "linear_le"
noncomputable def linesOf (mask : Nat) : List (List Int) := (([2, 0, 3, 1] : List Nat).filter fun k => mask / 2 ^ k % 2 == 1).map fun k => [((k / 2 : Nat) : Int), ((k % 2 : Nat) : Int)]
theorem lines_base {mask : Nat} (h : mask < 16) : linesOf mask ∈ baseSeqs := by
  have : ((List.range 16).all fun m => baseSeqs.contains (linesOf m)) = true := by decide +kernel
  have := List.all_eq_true.mp this mask (List.mem_range.mpr h)
  simpa using this

noncomputable def toldV (cells : List Int) (s many : Nat) : Nat → Told
  | 0 => .lin (sumV cells s many "linear_le")
  | 1 => .lin (sumV cells s many "linear_eq")
  | 2 => .times (takeN cells s many) (takeN cells (s + 1) many) (takeN cells (s + 2) many)
  | 3 => .xor (takeN cells s many) (takeN cells (s + 1) many) (takeN cells (s + 2) many)
  | 4 => .mx (rowNat cells s many) (takeN cells (s + rowN cells s) many)
  | 5 => .nvalue (rowNat cells s many) (takeN cells (s + rowN cells s) many)
  | 6 => .count (rowNat cells s many) (takeN cells (s + rowN cells s) many)
  | 7 => .cumul (rowNat cells s many) ((takes cells (s + rowN cells s) 2 (rowNat cells s many).length).map (1 + ·)) ((takes cells (s + rowN cells s + (rowNat cells s many).length) 2 (rowNat cells s many).length).map (1 + ·))
  | 8 => .clause (rowNat cells s many) (rowNat cells (s + rowN cells s) many)
  | 9 => .element (takeN cells (s + rowN cells s) many) (rowNat cells s many) (takeN cells (s + rowN cells s + 1) many)
  | 10 => .table (takeN cells s many) ((takeN cells s many + 1 + takeN cells (s + 2) (many - 1)) % many) (linesOf (takeN cells (s + 1) 16))
  | 11 => .reif (takeN cells s many) (sumV cells (s + 2) many (nmOf (takeN cells (s + 1) 3)))
  | 12 => .incr (rowNat cells s many)
  | _ => .alldiff (rowNat cells s many)
noncomputable def toldN (cells : List Int) (s many : Nat) : Nat → Nat
  | 0 => sumN cells s many
  | 1 => sumN cells s many
  | 2 => 3
  | 3 => 3
  | 4 => rowN cells s + 1
  | 5 => rowN cells s + 1
  | 6 => rowN cells s + 1
  | 7 => rowN cells s + (rowNat cells s many).length + (rowNat cells s many).length
  | 8 => rowN cells s + rowN cells (s + rowN cells s)
  | 9 => rowN cells s + 2
  | 10 => 3
  | 11 => 2 + sumN cells (s + 2) many
  | 12 => rowN cells s
  | _ => rowN cells s
section
variable {C : Cx} {n : Nat} {σ : List AO}
theorem c_takeN {kt kc w : Nat} {cells : List Int} {spot : Nat} {Q : AV → List AO → Prop} (hC : C.Ok recs) (T : Tape σ kt kc cells spot) (hw : 0 < w) (hw' : w ≤ 100) (hz : cells.length ≤ 60) (hs : spot ≤ 1000)
    (h : ∀ σ', Keep [kt] σ σ' → Tape σ' kt kc cells (spot + 1) → Q (.int ((takeN cells spot w : Nat) : Int)) σ') : CallF C (n + 1) "_law_take" [.ref kt, .int (w : Int)] σ Q :=
  c_take hC T (by (first | assumption | decide | exact le0 (by assumption) (by decide) | exact le1 (by assumption) (by decide) | exact le2 (by assumption) (by assumption) (by decide) | lia | omega)) (by (first | assumption | decide | exact le0 (by assumption) (by decide) | exact le1 (by assumption) (by decide) | exact le2 (by assumption) (by assumption) (by decide) | lia | omega)) hz hs fun σ' hK T' => by rw [takeN_eq hw]; exact h σ' hK T'
end

-- part W24
section
variable {C : Cx} {n : Nat} {σ : List AO} {Q : AV → List AO → Prop}
theorem c_told_lin {kt kc many kind : Nat} {cells : List Int} {s : Nat} (hC : C.Ok recs) (T : Tape σ kt kc cells s) (hm : 3 ≤ many) (hm' : many ≤ 5) (hz : cells.length ≤ 60) (hs : s ≤ 700) (hk : kind < 2)
    (h : ∀ σ', Keep [kt] σ σ' → Tape σ' kt kc cells (s + toldN cells s many kind) → Q (toldV cells s many kind).enc σ') : CallF C (n + 4) "_law_told" [.ref kt, .int (many : Int), .int (kind : Int)] σ Q := by
  rcases (by (first | assumption | decide | exact le0 (by assumption) (by decide) | exact le1 (by assumption) (by decide) | exact le2 (by assumption) (by assumption) (by decide) | lia | omega) : kind = 0 ∨ kind = 1) with rfl | rfl
  all_goals
    refine callF hC d15_mem d15_ok rfl ?_
    refine ex_cons ?_
    repeat ktr_rel
    refine ev_callF hC d14_mem rfl rfl ?_
    repeat ktr_rel
    refine c_sum (n := n) hC T hm hm' hz (by (first | assumption | decide | exact le0 (by assumption) (by decide) | exact le1 (by assumption) (by decide) | exact le2 (by assumption) (by assumption) (by decide) | lia | omega)) fun σ1 hK1 T1 => ?_
    exact h σ1 hK1 T1
theorem c_told_three {kt kc many kind : Nat} {cells : List Int} {s : Nat} (hC : C.Ok recs) (T : Tape σ kt kc cells s) (hm : 3 ≤ many) (hm' : many ≤ 5) (hz : cells.length ≤ 60) (hs : s ≤ 700) (hk : kind = 2 ∨ kind = 3)
    (h : ∀ σ', Keep [kt] σ σ' → Tape σ' kt kc cells (s + toldN cells s many kind) → Q (toldV cells s many kind).enc σ') : CallF C (n + 4) "_law_told" [.ref kt, .int (many : Int), .int (kind : Int)] σ Q := by
  rcases hk with rfl | rfl
  all_goals
    refine callF hC d15_mem d15_ok rfl ?_
    refine ex_cons ?_
    repeat ktr_rel
    refine bin_sub ?_
    repeat ktr_rel
    refine evB_tuple hC rfl ?_
    refine evl_cons (ev_comp ⟨rfl, by decide, rfl, rfl⟩ (fun _ _ => rfl) ?_)
    refine evi_range hC rfl rfl rfl rfl ?_
    repeat ktr_rel
    refine ⟨3, rfl, by (first | assumption | decide | exact le0 (by assumption) (by decide) | exact le1 (by assumption) (by decide) | exact le2 (by assumption) (by assumption) (by decide) | lia | omega), ?_⟩
    refine comp_takes (kt := kt) (kc := kc) (m := 3) (cells := cells) (spot := s) (g := fun i => .int ((takeN cells (s + i) many : Nat) : Int)) (fun _ => trivial) rfl (by (first | assumption | decide | exact le0 (by assumption) (by decide) | exact le1 (by assumption) (by decide) | exact le2 (by assumption) (by assumption) (by decide) | lia | omega)) T (fun i av σi hav hlt hK hT => ?_) (fun σf hK hT => ?_)
    · refine as_name rfl ?_
      refine ev_callF hC d12_mem rfl rfl ?_
      repeat ktr_rel
      refine c_takeN hC hT (by (first | assumption | decide | exact le0 (by assumption) (by decide) | exact le1 (by assumption) (by decide) | exact le2 (by assumption) (by assumption) (by decide) | lia | omega)) (by (first | assumption | decide | exact le0 (by assumption) (by decide) | exact le1 (by assumption) (by decide) | exact le2 (by assumption) (by assumption) (by decide) | lia | omega)) hz (by (first | assumption | decide | exact le0 (by assumption) (by decide) | exact le1 (by assumption) (by decide) | exact le2 (by assumption) (by assumption) (by decide) | lia | omega)) fun σ3 hK3 T3 => ?_
      exact ⟨rfl, hK.trans hK3, T3⟩
    · refine evl_nil ?_
      refine cv_tuple_list get_app (by first | exact nn | exact lb rfl | simp) ?_
      refine bin_add_tup (by first | exact nn | exact lb rfl | simp) (by first | exact nn | exact lb rfl | simp) (by first | exact nn | exact lb rfl | simp) ?_
      exact h _ hK.app (hT.keep Keep.refl.app)
end

-- part W25
section
variable {C : Cx} {n : Nat} {σ : List AO} {Q : AV → List AO → Prop}
theorem sub3 {x y z : AV} {i : Nat} (hi : i < 3) (h : Q (if i = 0 then x else if i = 1 then y else z) σ) : SubR C n (.tup [x, y, z]) (.int (i : Int)) σ Q := by
  rcases (by (first | assumption | decide | exact le0 (by assumption) (by decide) | exact le1 (by assumption) (by decide) | exact le2 (by assumption) (by assumption) (by decide) | lia | omega) : i = 0 ∨ i = 1 ∨ i = 2) with rfl | rfl | rfl
  all_goals exact sub_at (by decide) (by decide) rfl h
theorem c_told_reif {kt kc many : Nat} {cells : List Int} {s : Nat} (hC : C.Ok recs) (T : Tape σ kt kc cells s) (hm : 3 ≤ many) (hm' : many ≤ 5) (hz : cells.length ≤ 60) (hs : s ≤ 700)
    (h : ∀ σ', Keep [kt] σ σ' → Tape σ' kt kc cells (s + toldN cells s many 11) → Q (toldV cells s many 11).enc σ') : CallF C (n + 4) "_law_told" [.ref kt, .int (many : Int), .int 11] σ Q := by
  refine callF hC d15_mem d15_ok rfl ?_
  refine ex_cons ?_
  repeat ktr_rel
  refine ev_callF hC d12_mem rfl rfl ?_
  repeat ktr_rel
  refine c_takeN hC T (by (first | assumption | decide | exact le0 (by assumption) (by decide) | exact le1 (by assumption) (by decide) | exact le2 (by assumption) (by assumption) (by decide) | lia | omega)) (by (first | assumption | decide | exact le0 (by assumption) (by decide) | exact le1 (by assumption) (by decide) | exact le2 (by assumption) (by assumption) (by decide) | lia | omega)) hz (by (first | assumption | decide | exact le0 (by assumption) (by decide) | exact le1 (by assumption) (by decide) | exact le2 (by assumption) (by assumption) (by decide) | lia | omega)) fun σ1 hK1 T1 => ?_
  refine evl_cons (ev_callF hC d14_mem rfl rfl ?_)
  repeat ktr_rel
  refine ev_callF hC d12_mem rfl rfl ?_
  repeat ktr_rel
  refine c_takeN (w := 3) hC T1 (by (first | assumption | decide | exact le0 (by assumption) (by decide) | exact le1 (by assumption) (by decide) | exact le2 (by assumption) (by assumption) (by decide) | lia | omega)) (by (first | assumption | decide | exact le0 (by assumption) (by decide) | exact le1 (by assumption) (by decide) | exact le2 (by assumption) (by assumption) (by decide) | lia | omega)) hz (by (first | assumption | decide | exact le0 (by assumption) (by decide) | exact le1 (by assumption) (by decide) | exact le2 (by assumption) (by assumption) (by decide) | lia | omega)) fun σ2 hK2 T2 => ?_
  have h3 := takeN_lt (cells := cells) (spot := s + 1) (w := 3) (by (first | assumption | decide | exact le0 (by assumption) (by decide) | exact le1 (by assumption) (by decide) | exact le2 (by assumption) (by assumption) (by decide) | lia | omega))
  refine sub3 h3 ?_
  have e0 : (if takeN cells (s + 1) 3 = 0 then AV.str "linear_eq" else if takeN cells (s + 1) 3 = 1 then AV.str "linear_ne" else AV.str "linear_le") = AV.str (nmOf (takeN cells (s + 1) 3)) := by
    unfold nmOf
    split
    · rfl
    · split <;> rfl
  rw [e0]
  repeat ktr_rel
  refine c_sum (n := n) hC T2 hm hm' hz (by (first | assumption | decide | exact le0 (by assumption) (by decide) | exact le1 (by assumption) (by decide) | exact le2 (by assumption) (by assumption) (by decide) | lia | omega)) fun σ3 hK3 T3 => ?_
  have := h σ3 ((hK1.trans hK2).trans hK3) (by
    have e : s + toldN cells s many 11 = s + 1 + 1 + sumN cells (s + 1 + 1) many := by show s + (2 + sumN cells (s + 1 + 1) many) = _; (first | assumption | decide | exact le0 (by assumption) (by decide) | exact le1 (by assumption) (by decide) | exact le2 (by assumption) (by assumption) (by decide) | lia | omega)
    rw [e]; exact T3)
  repeat ktr_rel
  first | exact this | exact ⟨by first | exact lb rfl | simp, this⟩
theorem c_told_table {kt kc many : Nat} {cells : List Int} {s : Nat} (hC : C.Ok recs) (T : Tape σ kt kc cells s) (hm : 3 ≤ many) (hm' : many ≤ 5) (hz : cells.length ≤ 60) (hs : s ≤ 700)
    (h : ∀ σ', Keep [kt] σ σ' → Tape σ' kt kc cells (s + toldN cells s many 10) → Q (toldV cells s many 10).enc σ') : CallF C (n + 4) "_law_told" [.ref kt, .int (many : Int), .int 10] σ Q := by
  refine callF hC d15_mem d15_ok rfl ?_
  refine ex_cons ?_
  repeat ktr_rel
  refine ex_unpack rfl rfl ?_ (by intro _; rfl) (by intro env h; obtain ⟨⟩ := env; cases h; rfl)
  repeat ktr_rel
  refine ev_callF hC d12_mem rfl rfl ?_
  repeat ktr_rel
  refine c_takeN hC T (by (first | assumption | decide | exact le0 (by assumption) (by decide) | exact le1 (by assumption) (by decide) | exact le2 (by assumption) (by assumption) (by decide) | lia | omega)) (by (first | assumption | decide | exact le0 (by assumption) (by decide) | exact le1 (by assumption) (by decide) | exact le2 (by assumption) (by assumption) (by decide) | lia | omega)) hz (by (first | assumption | decide | exact le0 (by assumption) (by decide) | exact le1 (by assumption) (by decide) | exact le2 (by assumption) (by assumption) (by decide) | lia | omega)) fun σ1 hK1 T1 => ?_
  refine evl_cons (ev_callF hC d12_mem rfl rfl ?_)
  repeat ktr_rel
  refine c_takeN (w := 16) hC T1 (by (first | assumption | decide | exact le0 (by assumption) (by decide) | exact le1 (by assumption) (by decide) | exact le2 (by assumption) (by assumption) (by decide) | lia | omega)) (by (first | assumption | decide | exact le0 (by assumption) (by decide) | exact le1 (by assumption) (by decide) | exact le2 (by assumption) (by assumption) (by decide) | lia | omega)) hz (by (first | assumption | decide | exact le0 (by assumption) (by decide) | exact le1 (by assumption) (by decide) | exact le2 (by assumption) (by assumption) (by decide) | lia | omega)) fun σ2 hK2 T2 => ?_
  refine evl_nil ⟨by first | exact lb rfl | simp, _, rfl, rfl, ?_⟩
  have hp := takeN_lt (cells := cells) (spot := s) (w := many) (by (first | assumption | decide | exact le0 (by assumption) (by decide) | exact le1 (by assumption) (by decide) | exact le2 (by assumption) (by assumption) (by decide) | lia | omega))
  have hmk := takeN_lt (cells := cells) (spot := s + 1) (w := 16) (by (first | assumption | decide | exact le0 (by assumption) (by decide) | exact le1 (by assumption) (by decide) | exact le2 (by assumption) (by assumption) (by decide) | lia | omega))
  refine ex_cons (ex_assignC ⟨rfl, by decide, rfl, rfl⟩ (fun _ _ => rfl) rfl ?_)
  refine evi_tup rfl ?_
  repeat ktr_rel
  refine ⟨_, rfl, ?_⟩
  refine comp_pure (X := []) (xs := ([2, 0, 3, 1] : List Nat)) (enc := fun k => .int (k : Int)) (g := fun k => tupI [((k / 2 : Nat) : Int), ((k % 2 : Nat) : Int)]) (p := fun k => takeN cells (s + 1) 16 / 2 ^ k % 2 == 1) rfl (by first | exact nn | exact lb rfl | simp) (fun _ _ => trivial) (fun k hk σj hj => ?_) (fun σj hj => ?_)
  · refine as_name rfl ?_
    show EvB _ _ _ _ _ _ _
    have go : ∀ (m : Nat) (W : Prop), (∀ b : Bool, b = (takeN cells (s + 1) 16 / m % 2 == 1) → W) → W := fun m W hW => hW _ rfl
    repeat ktr_rel
    refine bin_pow (by (first | assumption | decide | exact le0 (by assumption) (by decide) | exact le1 (by assumption) (by decide) | exact le2 (by assumption) (by assumption) (by decide) | lia | omega)) (by simp at hk; (first | assumption | decide | exact le0 (by assumption) (by decide) | exact le1 (by assumption) (by decide) | exact le2 (by assumption) (by assumption) (by decide) | lia | omega)) (by decide) ?_
    have ep : ((2 : Int) ^ (k : Int).toNat) = ((2 ^ k : Nat) : Int) := by simp
    rw [ep]
    refine bin_div (by have := Nat.two_pow_pos k; (first | assumption | decide | exact le0 (by assumption) (by decide) | exact le1 (by assumption) (by decide) | exact le2 (by assumption) (by assumption) (by decide) | lia | omega)) (by simp only [List.mem_cons, List.mem_nil_iff, or_false] at hk; rcases hk with rfl | rfl | rfl | rfl <;> rfl) ?_
    repeat ktr_rel
    refine bin_mod (by (first | assumption | decide | exact le0 (by assumption) (by decide) | exact le1 (by assumption) (by decide) | exact le2 (by assumption) (by assumption) (by decide) | lia | omega)) ?_
    repeat ktr_rel
    refine cmp_eq_int ?_
    have ed : (((takeN cells (s + 1) 16 : Nat) : Int).fdiv ((2 ^ k : Nat) : Int)).fmod 2 = ((takeN cells (s + 1) 16 / 2 ^ k % 2 : Nat) : Int) := by
      rw [Int.fmod_eq_emod_of_nonneg _ (by (first | assumption | decide | exact le0 (by assumption) (by decide) | exact le1 (by assumption) (by decide) | exact le2 (by assumption) (by assumption) (by decide) | lia | omega)), Int.fdiv_eq_ediv_of_nonneg _ (Int.natCast_nonneg _)]
      simp
    rw [ed]
    by_cases hb : takeN cells (s + 1) 16 / 2 ^ k % 2 = 1
    · have e1 : (((takeN cells (s + 1) 16 / 2 ^ k % 2 : Nat) : Int) == 1) = true := by rw [hb]; rfl
      rw [e1]
      show EvE _ _ _ _ _ _ _
      repeat ktr_rel
      refine bin_div (by (first | assumption | decide | exact le0 (by assumption) (by decide) | exact le1 (by assumption) (by decide) | exact le2 (by assumption) (by assumption) (by decide) | lia | omega)) (by simp only [List.mem_cons, List.mem_nil_iff, or_false] at hk; rcases hk with rfl | rfl | rfl | rfl <;> rfl) ?_
      refine evl_cons (ev_bin ?_)
      repeat ktr_rel
      refine bin_mod (by (first | assumption | decide | exact le0 (by assumption) (by decide) | exact le1 (by assumption) (by decide) | exact le2 (by assumption) (by assumption) (by decide) | lia | omega)) ?_
      have e2 : ((k : Int).fdiv 2) = ((k / 2 : Nat) : Int) := by rw [Int.fdiv_eq_ediv_of_nonneg _ (by (first | assumption | decide | exact le0 (by assumption) (by decide) | exact le1 (by assumption) (by decide) | exact le2 (by assumption) (by assumption) (by decide) | lia | omega))]; simp
      have e3 : ((k : Int).fmod 2) = ((k % 2 : Nat) : Int) := by rw [Int.fmod_eq_emod_of_nonneg _ (by (first | assumption | decide | exact le0 (by assumption) (by decide) | exact le1 (by assumption) (by decide) | exact le2 (by assumption) (by assumption) (by decide) | lia | omega))]; simp
      rw [e2, e3]
      refine evl_nil ⟨by first | exact lb rfl | simp, ?_⟩
      exact ⟨by simp [hb], rfl, hj⟩
    · have e1 : (((takeN cells (s + 1) 16 / 2 ^ k % 2 : Nat) : Int) == 1) = false := by
        rw [beq_eq_false_iff_ne]; (first | assumption | decide | exact le0 (by assumption) (by decide) | exact le1 (by assumption) (by decide) | exact le2 (by assumption) (by assumption) (by decide) | lia | omega)
      rw [e1]
      exact ⟨by simp [hb], hj⟩
  · have T3 := T2.keep (hj.app (o := .list (((([2, 0, 3, 1] : List Nat).filter (fun k => takeN cells (s + 1) 16 / 2 ^ k % 2 == 1)).map fun k => tupI [((k / 2 : Nat) : Int), ((k % 2 : Nat) : Int)]))))
    have hK3 : Keep [kt] σ (σj ++ [AO.list (((([2, 0, 3, 1] : List Nat).filter (fun k => takeN cells (s + 1) 16 / 2 ^ k % 2 == 1)).map fun k => tupI [((k / 2 : Nat) : Int), ((k % 2 : Nat) : Int)]))]) := (hK1.trans hK2).trans ((hj.wide (Y := [kt]) (by first | exact nn | exact lb rfl | simp)).app)
    refine ex_cons (ex_return ?_)
    repeat ktr_rel
    refine bin_add ?_
    refine ev_callF hC d12_mem rfl rfl ?_
    repeat ktr_rel
    refine bin_sub ?_
    have em : ((many : Int) - 1) = ((many - 1 : Nat) : Int) := by (first | assumption | decide | exact le0 (by assumption) (by decide) | exact le1 (by assumption) (by decide) | exact le2 (by assumption) (by assumption) (by decide) | lia | omega)
    rw [em]
    refine evl_nil ?_
    refine c_takeN (w := many - 1) hC T3 (by (first | assumption | decide | exact le0 (by assumption) (by decide) | exact le1 (by assumption) (by decide) | exact le2 (by assumption) (by assumption) (by decide) | lia | omega)) (by (first | assumption | decide | exact le0 (by assumption) (by decide) | exact le1 (by assumption) (by decide) | exact le2 (by assumption) (by assumption) (by decide) | lia | omega)) hz (by (first | assumption | decide | exact le0 (by assumption) (by decide) | exact le1 (by assumption) (by decide) | exact le2 (by assumption) (by assumption) (by decide) | lia | omega)) fun σ4 hK4 T4 => ?_
    refine bin_add ?_
    repeat ktr_rel
    refine bin_mod (by (first | assumption | decide | exact le0 (by assumption) (by decide) | exact le1 (by assumption) (by decide) | exact le2 (by assumption) (by assumption) (by decide) | lia | omega)) ?_
    have ef : ((((takeN cells s many : Nat) : Int) + 1) + ((takeN cells (s + 1 + 1) (many - 1) : Nat) : Int)).fmod (many : Int) = (((takeN cells s many + 1 + takeN cells (s + 2) (many - 1)) % many : Nat) : Int) := by
      rw [Int.fmod_eq_emod_of_nonneg _ (by (first | assumption | decide | exact le0 (by assumption) (by decide) | exact le1 (by assumption) (by decide) | exact le2 (by assumption) (by assumption) (by decide) | lia | omega))]
      simp
    rw [ef]
    have hl4 := hK4.get get_app (by simpa using (by have := T3.dict; exact fun e => by rw [← e, get_app] at this; cases this))
    repeat ktr_rel
    refine ⟨by first | exact lb rfl | simp, ?_⟩
    refine evl_cons (evB_tuple hC rfl ?_)
    repeat ktr_rel
    refine cv_tuple_list hl4 (by rw [List.length_map]; exact Nat.le_trans (List.length_filter_le _ _) (by first | exact nn | exact lb rfl | simp)) ?_
    refine evl_nil ⟨by first | exact lb rfl | simp, ?_⟩
    have := h σ4 (hK3.trans hK4) T4
    have e5 : (toldV cells s many 10).enc = .tup [.str "table", .tup [.int ((takeN cells s many : Nat) : Int), .int (((takeN cells s many + 1 + takeN cells (s + 2) (many - 1)) % many : Nat) : Int)], .tup ((linesOf (takeN cells (s + 1) 16)).map fun l => .tup (avI l))] := rfl
    rw [e5] at this
    unfold linesOf at this
    rw [List.map_map] at this
    exact this
end

-- part W26
section
variable {C : Cx} {n : Nat} {σ : List AO} {Q : AV → List AO → Prop}
theorem told_row {kt kc many kind : Nat} {cells : List Int} {s : Nat} (hC : C.Ok recs) (T : Tape σ kt kc cells s) (hm : 3 ≤ many) (hm' : many ≤ 5) (hz : cells.length ≤ 60) (hs : s ≤ 700) (h4 : 4 ≤ kind) (h10 : kind ≠ 10) (h11 : kind ≠ 11)
    (h : ∀ σ1, Keep [kt] σ σ1 → Tape σ1 kt kc cells (s + rowN cells s) → ExS C (n + 3) d15.scope ([("row", .tup (avN (rowNat cells s many))), ("tape", .ref kt), ("many", .int (many : Int)), ("kind", .int (kind : Int))] : List (Str × AV)) (d15.body.drop 5) σ1 fun o _ σ' => Q (o.getD .none) σ') :
    CallF C (n + 4) "_law_told" [.ref kt, .int (many : Int), .int (kind : Int)] σ Q := by
  refine callF hC d15_mem d15_ok rfl ?_
  refine ex_cons ?_
  repeat ktr_rel
  refine cmp_lt_f (decide_eq_false (by (first | assumption | decide | exact le0 (by assumption) (by decide) | exact le1 (by assumption) (by decide) | exact le2 (by assumption) (by assumption) (by decide) | lia | omega))) ?_
  repeat ktr_rel
  refine cmp_lt_f (decide_eq_false (by (first | assumption | decide | exact le0 (by assumption) (by decide) | exact le1 (by assumption) (by decide) | exact le2 (by assumption) (by assumption) (by decide) | lia | omega))) ?_
  repeat ktr_rel
  refine cmp_eqi_f (beq_eq_false_iff_ne.mpr (by (first | assumption | decide | exact le0 (by assumption) (by decide) | exact le1 (by assumption) (by decide) | exact le2 (by assumption) (by assumption) (by decide) | lia | omega))) ?_
  repeat ktr_rel
  refine cmp_eqi_f (beq_eq_false_iff_ne.mpr (by (first | assumption | decide | exact le0 (by assumption) (by decide) | exact le1 (by assumption) (by decide) | exact le2 (by assumption) (by assumption) (by decide) | lia | omega))) ?_
  repeat ktr_rel
  refine ev_callF hC d13_mem rfl rfl ?_
  repeat ktr_rel
  refine c_row (n := n + 1) hC T (by (first | assumption | decide | exact le0 (by assumption) (by decide) | exact le1 (by assumption) (by decide) | exact le2 (by assumption) (by assumption) (by decide) | lia | omega)) hm' hz (by (first | assumption | decide | exact le0 (by assumption) (by decide) | exact le1 (by assumption) (by decide) | exact le2 (by assumption) (by assumption) (by decide) | lia | omega)) fun σ1 hK1 T1 => ?_
  rw [rowNat_eq hm hm']
  exact h σ1 hK1 T1
theorem c_told_mxn {kt kc many kind : Nat} {cells : List Int} {s : Nat} (hC : C.Ok recs) (T : Tape σ kt kc cells s) (hm : 3 ≤ many) (hm' : many ≤ 5) (hz : cells.length ≤ 60) (hs : s ≤ 700) (hk : kind = 4 ∨ kind = 5)
    (h : ∀ σ', Keep [kt] σ σ' → Tape σ' kt kc cells (s + toldN cells s many kind) → Q (toldV cells s many kind).enc σ') : CallF C (n + 4) "_law_told" [.ref kt, .int (many : Int), .int (kind : Int)] σ Q := by
  have hrn := rowN_le (cells := cells) (spot := s)
  rcases hk with rfl | rfl
  all_goals
    refine told_row hC T hm hm' hz hs (by decide) (by decide) (by decide) fun σ1 hK1 T1 => ?_
    refine ex_cons ?_
    repeat ktr_rel
    refine cmp_in2 ?_
    refine ex_cons (ex_return ?_)
    repeat ktr_rel
    refine bin_sub ?_
    repeat ktr_rel
    refine ev_callF hC d12_mem rfl rfl ?_
    repeat ktr_rel
    refine c_takeN hC T1 (by (first | assumption | decide | exact le0 (by assumption) (by decide) | exact le1 (by assumption) (by decide) | exact le2 (by assumption) (by assumption) (by decide) | lia | omega)) (by (first | assumption | decide | exact le0 (by assumption) (by decide) | exact le1 (by assumption) (by decide) | exact le2 (by assumption) (by assumption) (by decide) | lia | omega)) hz (by (first | assumption | decide | exact le0 (by assumption) (by decide) | exact le1 (by assumption) (by decide) | exact le2 (by assumption) (by assumption) (by decide) | lia | omega)) fun σ2 hK2 T2 => ?_
    have := h σ2 (hK1.trans hK2) T2
    repeat ktr_rel
    first | exact this | exact ⟨by first | exact lb rfl | simp, this⟩
theorem c_told_count {kt kc many : Nat} {cells : List Int} {s : Nat} (hC : C.Ok recs) (T : Tape σ kt kc cells s) (hm : 3 ≤ many) (hm' : many ≤ 5) (hz : cells.length ≤ 60) (hs : s ≤ 700)
    (h : ∀ σ', Keep [kt] σ σ' → Tape σ' kt kc cells (s + toldN cells s many 6) → Q (toldV cells s many 6).enc σ') : CallF C (n + 4) "_law_told" [.ref kt, .int (many : Int), .int 6] σ Q := by
  have hrn := rowN_le (cells := cells) (spot := s)
  refine told_row (kind := 6) hC T hm hm' hz hs (by decide) (by decide) (by decide) fun σ1 hK1 T1 => ?_
  refine ex_cons ?_
  repeat ktr_rel
  refine cmp_in2 ?_
  refine ex_nil ?_
  refine ex_cons ?_
  repeat ktr_rel
  refine ev_callF hC d12_mem rfl rfl ?_
  repeat ktr_rel
  refine c_takeN hC T1 (by (first | assumption | decide | exact le0 (by assumption) (by decide) | exact le1 (by assumption) (by decide) | exact le2 (by assumption) (by assumption) (by decide) | lia | omega)) (by (first | assumption | decide | exact le0 (by assumption) (by decide) | exact le1 (by assumption) (by decide) | exact le2 (by assumption) (by assumption) (by decide) | lia | omega)) hz (by (first | assumption | decide | exact le0 (by assumption) (by decide) | exact le1 (by assumption) (by decide) | exact le2 (by assumption) (by assumption) (by decide) | lia | omega)) fun σ2 hK2 T2 => ?_
  have := h σ2 (hK1.trans hK2) T2
  repeat ktr_rel
  first | exact this | exact ⟨by first | exact lb rfl | simp, this⟩
theorem c_told_clause {kt kc many : Nat} {cells : List Int} {s : Nat} (hC : C.Ok recs) (T : Tape σ kt kc cells s) (hm : 3 ≤ many) (hm' : many ≤ 5) (hz : cells.length ≤ 60) (hs : s ≤ 700)
    (h : ∀ σ', Keep [kt] σ σ' → Tape σ' kt kc cells (s + toldN cells s many 8) → Q (toldV cells s many 8).enc σ') : CallF C (n + 4) "_law_told" [.ref kt, .int (many : Int), .int 8] σ Q := by
  have hrn := rowN_le (cells := cells) (spot := s)
  refine told_row (kind := 8) hC T hm hm' hz hs (by decide) (by decide) (by decide) fun σ1 hK1 T1 => ?_
  refine ex_cons ?_
  repeat ktr_rel
  refine cmp_in2 ?_
  refine ex_nil ?_
  refine ex_cons ?_
  repeat ktr_rel
  refine ev_callF hC d13_mem rfl rfl ?_
  repeat ktr_rel
  refine c_row (n := n + 1) hC T1 (by (first | assumption | decide | exact le0 (by assumption) (by decide) | exact le1 (by assumption) (by decide) | exact le2 (by assumption) (by assumption) (by decide) | lia | omega)) hm' hz (by (first | assumption | decide | exact le0 (by assumption) (by decide) | exact le1 (by assumption) (by decide) | exact le2 (by assumption) (by assumption) (by decide) | lia | omega)) fun σ2 hK2 T2 => ?_
  rw [rowNat_eq hm hm']
  have := h σ2 (hK1.trans hK2) (by
    have e : s + toldN cells s many 8 = s + rowN cells s + rowN cells (s + rowN cells s) := by show s + (_ + _) = _; (first | assumption | decide | exact le0 (by assumption) (by decide) | exact le1 (by assumption) (by decide) | exact le2 (by assumption) (by assumption) (by decide) | lia | omega)
    rw [e]; exact T2)
  repeat ktr_rel
  first | exact this | exact ⟨by first | exact lb rfl | simp, this⟩
theorem c_told_element {kt kc many : Nat} {cells : List Int} {s : Nat} (hC : C.Ok recs) (T : Tape σ kt kc cells s) (hm : 3 ≤ many) (hm' : many ≤ 5) (hz : cells.length ≤ 60) (hs : s ≤ 700)
    (h : ∀ σ', Keep [kt] σ σ' → Tape σ' kt kc cells (s + toldN cells s many 9) → Q (toldV cells s many 9).enc σ') : CallF C (n + 4) "_law_told" [.ref kt, .int (many : Int), .int 9] σ Q := by
  have hrn := rowN_le (cells := cells) (spot := s)
  refine told_row (kind := 9) hC T hm hm' hz hs (by decide) (by decide) (by decide) fun σ1 hK1 T1 => ?_
  refine ex_cons ?_
  repeat ktr_rel
  refine cmp_in2 ?_
  refine ex_nil ?_
  refine ex_cons ?_
  repeat ktr_rel
  refine ev_callF hC d12_mem rfl rfl ?_
  repeat ktr_rel
  refine c_takeN hC T1 (by (first | assumption | decide | exact le0 (by assumption) (by decide) | exact le1 (by assumption) (by decide) | exact le2 (by assumption) (by assumption) (by decide) | lia | omega)) (by (first | assumption | decide | exact le0 (by assumption) (by decide) | exact le1 (by assumption) (by decide) | exact le2 (by assumption) (by assumption) (by decide) | lia | omega)) hz (by (first | assumption | decide | exact le0 (by assumption) (by decide) | exact le1 (by assumption) (by decide) | exact le2 (by assumption) (by assumption) (by decide) | lia | omega)) fun σ2 hK2 T2 => ?_
  repeat ktr_rel
  refine ev_callF hC d12_mem rfl rfl ?_
  repeat ktr_rel
  refine c_takeN hC T2 (by (first | assumption | decide | exact le0 (by assumption) (by decide) | exact le1 (by assumption) (by decide) | exact le2 (by assumption) (by assumption) (by decide) | lia | omega)) (by (first | assumption | decide | exact le0 (by assumption) (by decide) | exact le1 (by assumption) (by decide) | exact le2 (by assumption) (by assumption) (by decide) | lia | omega)) hz (by (first | assumption | decide | exact le0 (by assumption) (by decide) | exact le1 (by assumption) (by decide) | exact le2 (by assumption) (by assumption) (by decide) | lia | omega)) fun σ3 hK3 T3 => ?_
  have := h σ3 ((hK1.trans hK2).trans hK3) T3
  repeat ktr_rel
  first | exact this | exact ⟨by first | exact lb rfl | simp, this⟩
theorem c_told_incr {kt kc many : Nat} {cells : List Int} {s : Nat} (hC : C.Ok recs) (T : Tape σ kt kc cells s) (hm : 3 ≤ many) (hm' : many ≤ 5) (hz : cells.length ≤ 60) (hs : s ≤ 700)
    (h : ∀ σ', Keep [kt] σ σ' → Tape σ' kt kc cells (s + toldN cells s many 12) → Q (toldV cells s many 12).enc σ') : CallF C (n + 4) "_law_told" [.ref kt, .int (many : Int), .int 12] σ Q := by
  have hrn := rowN_le (cells := cells) (spot := s)
  refine told_row (kind := 12) hC T hm hm' hz hs (by decide) (by decide) (by decide) fun σ1 hK1 T1 => ?_
  refine ex_cons ?_
  repeat ktr_rel
  refine cmp_in2 ?_
  refine ex_nil ?_
  refine ex_cons ?_
  repeat ktr_rel
  have := h σ1 hK1 T1
  first | exact this | exact ⟨by first | exact lb rfl | simp, this⟩
theorem c_told_alldiff {kt kc many : Nat} {cells : List Int} {s : Nat} (hC : C.Ok recs) (T : Tape σ kt kc cells s) (hm : 3 ≤ many) (hm' : many ≤ 5) (hz : cells.length ≤ 60) (hs : s ≤ 700)
    (h : ∀ σ', Keep [kt] σ σ' → Tape σ' kt kc cells (s + toldN cells s many 13) → Q (toldV cells s many 13).enc σ') : CallF C (n + 4) "_law_told" [.ref kt, .int (many : Int), .int 13] σ Q := by
  have hrn := rowN_le (cells := cells) (spot := s)
  refine told_row (kind := 13) hC T hm hm' hz hs (by decide) (by decide) (by decide) fun σ1 hK1 T1 => ?_
  refine ex_cons ?_
  repeat ktr_rel
  refine cmp_in2 ?_
  refine ex_nil ?_
  refine ex_cons ?_
  repeat ktr_rel
  have := h σ1 hK1 T1
  first | exact this | exact ⟨by first | exact lb rfl | simp, this⟩
theorem c_told_cumul {kt kc many : Nat} {cells : List Int} {s : Nat} (hC : C.Ok recs) (T : Tape σ kt kc cells s) (hm : 3 ≤ many) (hm' : many ≤ 5) (hz : cells.length ≤ 60) (hs : s ≤ 700)
    (h : ∀ σ', Keep [kt] σ σ' → Tape σ' kt kc cells (s + toldN cells s many 7) → Q (toldV cells s many 7).enc σ') : CallF C (n + 4) "_law_told" [.ref kt, .int (many : Int), .int 7] σ Q := by
  have hrn := rowN_le (cells := cells) (spot := s)
  have hrf := rowV_facts (cells := cells) (spot := s) hm hm'
  have hrl : (rowNat cells s many).length = (rowV cells s many).length := by simp [rowNat]
  refine told_row (kind := 7) hC T hm hm' hz hs (by decide) (by decide) (by decide) fun σ1 hK1 T1 => ?_
  refine ex_cons ?_
  repeat ktr_rel
  refine cmp_in2 ?_
  refine ex_nil ?_
  refine ex_cons ?_
  repeat ktr_rel
  refine evB_tuple hC rfl ?_
  refine evl_cons (ev_comp ⟨rfl, by decide, rfl, rfl⟩ (fun _ _ => rfl) ?_)
  refine evi_tup rfl ?_
  repeat ktr_rel
  refine ⟨_, rfl, ?_⟩
  refine comp_takes (kt := kt) (kc := kc) (m := (rowNat cells s many).length) (cells := cells) (spot := s + rowN cells s) (g := fun i => .int (1 + takeV cells (s + rowN cells s + i) 2)) (fun _ => trivial) (by simp [avN]) (by (first | assumption | decide | exact le0 (by assumption) (by decide) | exact le1 (by assumption) (by decide) | exact le2 (by assumption) (by assumption) (by decide) | lia | omega)) T1 (fun i av σi hav hlt hK hT => ?_) (fun σf hK hT => ?_)
  · refine as_name rfl ?_
    repeat ktr_rel
    refine ev_callF hC d12_mem rfl rfl ?_
    repeat ktr_rel
    refine c_take hC hT (by (first | assumption | decide | exact le0 (by assumption) (by decide) | exact le1 (by assumption) (by decide) | exact le2 (by assumption) (by assumption) (by decide) | lia | omega)) (by (first | assumption | decide | exact le0 (by assumption) (by decide) | exact le1 (by assumption) (by decide) | exact le2 (by assumption) (by assumption) (by decide) | lia | omega)) hz (by (first | assumption | decide | exact le0 (by assumption) (by decide) | exact le1 (by assumption) (by decide) | exact le2 (by assumption) (by assumption) (by decide) | lia | omega)) fun σ3 hK3 T3 => ?_
    refine bin_add ?_
    exact ⟨rfl, hK.trans hK3, T3⟩
  · refine evl_nil ?_
    refine cv_tuple_list get_app (by simp; (first | assumption | decide | exact le0 (by assumption) (by decide) | exact le1 (by assumption) (by decide) | exact le2 (by assumption) (by assumption) (by decide) | lia | omega)) ?_
    have T2 := hT.keep (Keep.refl.app (o := .list ((List.range (rowNat cells s many).length).map fun i => AV.int (1 + takeV cells (s + rowN cells s + i) 2))))
    have hK2 := (hK1.trans hK).app (o := .list ((List.range (rowNat cells s many).length).map fun i => AV.int (1 + takeV cells (s + rowN cells s + i) 2)))
    refine ex_cons (ex_return ?_)
    repeat ktr_rel
    refine evB_tuple hC rfl ?_
    refine evl_cons (ev_comp ⟨rfl, by decide, rfl, rfl⟩ (fun _ _ => rfl) ?_)
    refine evi_tup rfl ?_
    repeat ktr_rel
    refine ⟨_, rfl, ?_⟩
    refine comp_takes (kt := kt) (kc := kc) (m := (rowNat cells s many).length) (cells := cells) (spot := s + rowN cells s + (rowNat cells s many).length) (g := fun i => .int (1 + takeV cells (s + rowN cells s + (rowNat cells s many).length + i) 2)) (fun _ => trivial) (by simp [avN]) (by (first | assumption | decide | exact le0 (by assumption) (by decide) | exact le1 (by assumption) (by decide) | exact le2 (by assumption) (by assumption) (by decide) | lia | omega)) T2 (fun i av σi hav hlt hK hT => ?_) (fun σf hK hT => ?_)
    · refine as_name rfl ?_
      repeat ktr_rel
      refine ev_callF hC d12_mem rfl rfl ?_
      repeat ktr_rel
      refine c_take hC hT (by (first | assumption | decide | exact le0 (by assumption) (by decide) | exact le1 (by assumption) (by decide) | exact le2 (by assumption) (by assumption) (by decide) | lia | omega)) (by (first | assumption | decide | exact le0 (by assumption) (by decide) | exact le1 (by assumption) (by decide) | exact le2 (by assumption) (by assumption) (by decide) | lia | omega)) hz (by (first | assumption | decide | exact le0 (by assumption) (by decide) | exact le1 (by assumption) (by decide) | exact le2 (by assumption) (by assumption) (by decide) | lia | omega)) fun σ3 hK3 T3 => ?_
      refine bin_add ?_
      exact ⟨rfl, hK.trans hK3, T3⟩
    · refine evl_nil ?_
      refine cv_tuple_list get_app (by simp; (first | assumption | decide | exact le0 (by assumption) (by decide) | exact le1 (by assumption) (by decide) | exact le2 (by assumption) (by assumption) (by decide) | lia | omega)) ?_
      repeat ktr_rel
      have := h _ ((hK2.trans hK).app (o := .list ((List.range (rowNat cells s many).length).map fun i => AV.int (1 + takeV cells (s + rowN cells s + (rowNat cells s many).length + i) 2)))) (by
        have e : s + toldN cells s many 7 = s + rowN cells s + (rowNat cells s many).length + (rowNat cells s many).length := by show s + (_ + _ + _) = _; (first | assumption | decide | exact le0 (by assumption) (by decide) | exact le1 (by assumption) (by decide) | exact le2 (by assumption) (by assumption) (by decide) | lia | omega)
        rw [e]; exact hT.keep Keep.refl.app)
      have e2 : (toldV cells s many 7).enc = .tup [.str "cumulative", .tup (avN (rowNat cells s many)), .tup ((List.range (rowNat cells s many).length).map fun i => AV.int (1 + takeV cells (s + rowN cells s + i) 2)), .tup ((List.range (rowNat cells s many).length).map fun i => AV.int (1 + takeV cells (s + rowN cells s + (rowNat cells s many).length + i) 2)), .int 2] := by
        have m : ∀ sp k, avI ((takes cells sp 2 k).map (1 + ·)) = (List.range k).map fun i => AV.int (1 + takeV cells (sp + i) 2) := fun sp k => by unfold avI takes; rw [List.map_map, List.map_map]; rfl
        show AV.tup [.str "cumulative", .tup (avN _), .tup (avI _), .tup (avI _), .int 2] = _
        rw [m, m]
      rw [e2] at this
      first | exact this | exact ⟨by first | exact lb rfl | simp, this⟩
theorem c_told {kt kc many kind : Nat} {cells : List Int} {s : Nat} (hC : C.Ok recs) (T : Tape σ kt kc cells s) (hm : 3 ≤ many) (hm' : many ≤ 5) (hz : cells.length ≤ 60) (hs : s ≤ 700) (hk : kind < 14)
    (h : ∀ σ', Keep [kt] σ σ' → Tape σ' kt kc cells (s + toldN cells s many kind) → Q (toldV cells s many kind).enc σ') : CallF C (n + 4) "_law_told" [.ref kt, .int (many : Int), .int (kind : Int)] σ Q := by
  rcases kinds14 kind hk with rfl | rfl | rfl | rfl | rfl | rfl | rfl | rfl | rfl | rfl | rfl | rfl | rfl | rfl
  · exact c_told_lin hC T hm hm' hz hs (by decide) h
  · exact c_told_lin hC T hm hm' hz hs (by decide) h
  · exact c_told_three hC T hm hm' hz hs (.inl rfl) h
  · exact c_told_three hC T hm hm' hz hs (.inr rfl) h
  · exact c_told_mxn hC T hm hm' hz hs (.inl rfl) h
  · exact c_told_mxn hC T hm hm' hz hs (.inr rfl) h
  · exact c_told_count hC T hm hm' hz hs h
  · exact c_told_cumul hC T hm hm' hz hs h
  · exact c_told_clause hC T hm hm' hz hs h
  · exact c_told_element hC T hm hm' hz hs h
  · exact c_told_table hC T hm hm' hz hs h
  · exact c_told_reif hC T hm hm' hz hs h
  · exact c_told_incr hC T hm hm' hz hs h
  · exact c_told_alldiff hC T hm hm' hz hs h
end

-- part W27

noncomputable def dN (l : List Nat) : List PyData := toPyL (avN l)

noncomputable def partD : Told → Nat → PyData
  | .times a b c, x => .tuple [.int ((places [a, b] x).length : Nat), .bool ((x : Int) == (c : Int))]
  | .xor a b c, x => .int ((places [a, b, c] x).length : Nat)
  | .mx r z, x => .tuple [.bool (decide ((0 : Int) < ((places r x).length : Nat))), .bool ((x : Int) == (z : Int))]
  | .nvalue r z, x => .tuple [.int ((places r x).length : Nat), .bool ((x : Int) == (z : Int))]
  | .count r z, x => .tuple [.int ((places r x).length : Nat), .bool ((x : Int) == (z : Int))]
  | .cumul r a b, x => .list (toPyL ((sortT ((places r x).map fun k => [a.getD k 0, b.getD k 0])).map tupI))
  | .clause r q, x => .tuple [.bool (decide (x ∈ r)), .bool (decide (x ∈ q))]
  | .element i r z, x => .tuple [.bool ((x : Int) == (i : Int)), .list (dN (places r x)), .bool ((x : Int) == (z : Int))]
  | .incr r, x => .list (dN (places r x))
  | .alldiff r, x => .int ((places r x).length : Nat)
  | .lin _, _ => .none
  | .reif _ _, _ => .none
  | .table _ _ _, _ => .none
noncomputable def isPartT : Told → Bool
  | .lin _ => false
  | .reif _ _ => false
  | .table _ _ _ => false
  | _ => true
section
variable {C : Cx} {n : Nat} {σ : List AO} {Q : AV → List AO → Prop}
theorem anyN {x : Nat} {r : List Nat} : ((toPyL (avN r)).any fun y => PyData.eqv y (.int (x : Int))) = decide (x ∈ r) := by
  induction r with
  | nil => rfl
  | cons y r ih =>
    simp only [avN, List.map_cons, toPyL, toPy, List.any_cons] at ih ⊢
    rw [ih]
    by_cases h : x = y
    · subst h; simp [PyData.eqv]
    · have h' : ¬ (y : Int) = (x : Int) := fun e => h (Int.ofNat.inj e).symm
      simp [PyData.eqv, h, h']
theorem cmp_in_nats {x : Nat} {r : List Nat} {Q : Bool → List AO → Prop} (h : Q (decide (x ∈ r)) σ) : CmpR C n .In (.int (x : Int)) (.tup (avN r)) σ Q :=
  cmp_in_tup (.int _) (pyOfL (pureN r)) rfl (lay_pyL (pureN r)) (Nat.le_trans (Nat.min_le_right _ _) (Nat.le_of_ble_eq_true rfl)) (by rw [anyN]; exact h)
theorem cmp_notin_nats {x : Nat} {r : List Nat} {Q : Bool → List AO → Prop} (h : Q (!decide (x ∈ r)) σ) : CmpR C n .NotIn (.int (x : Int)) (.tup (avN r)) σ Q :=
  cmp_notin_tup (.int _) (pyOfL (pureN r)) rfl (lay_pyL (pureN r)) (Nat.le_trans (Nat.min_le_right _ _) (Nat.le_of_ble_eq_true rfl)) (by rw [anyN]; exact h)
theorem pureT (l : List (List Int)) : avPureL (l.map tupI) = true := by
  have hI : ∀ l : List Int, avPureL (l.map .int) = true := fun l => by
    induction l with
    | nil => rfl
    | cons x l ih => simp only [List.map_cons, avPureL, avPure, Bool.true_and]; exact ih
  induction l with
  | nil => rfl
  | cons x l ih =>
    simp only [List.map_cons, avPureL, Bool.and_eq_true]
    exact ⟨by show avPure (.tup (x.map .int)) = true; simp only [avPure]; exact hI x, ih⟩

theorem c_part_times {a b c x : Nat} (hC : C.Ok recs) (h : ∀ σ' v, Keep [] σ σ' → PyOf σ' v (partD (.times a b c) x) → Q v σ') : CallF C (n + 2) "_law_part" [(Told.times a b c).enc, .int (x : Int)] σ Q := by
  refine callF hC d17_mem d17_ok rfl ?_
  refine ex_cons ?_
  show Ex1 _ _ _ [("told", AV.tup [.str "times", .int (a : Int), .int (b : Int), .int (c : Int)]), ("x", .int (x : Int))] _ _ _
  repeat ktr_rel
  refine evB_len hC rfl ?_
  refine evl_cons (ev_callF hC d16_mem rfl rfl ?_)
  refine evl_cons (ev_slice_tup (a := 1) (ub := some 3) rfl rfl (by decide) ?_)
  repeat ktr_rel
  refine ⟨_, rfl, by simp, by simp, by simp, ?_⟩
  repeat ktr_rel
  refine c_places (r := [a, b]) hC (by first | exact nn | exact lb rfl | simp) fun σ1 k hK hk => ?_
  refine evl_nil ?_
  have hl : (places [a, b] x).length ≤ 2 := by
    have := List.length_filter_le (fun p : Nat × Nat => decide (p.1 = x)) ([a, b].zipIdx)
    simpa [places] using this
  refine cv_len_list hk (by first | exact avN_le (by assumption) (by decide) | (simp [avN]; (first | assumption | decide | exact le0 (by assumption) (by decide) | exact le1 (by assumption) (by decide) | exact le2 (by assumption) (by assumption) (by decide) | lia | omega))) ?_
  refine evl_cons (ev_cmp ?_)
  repeat ktr_rel
  refine cmp_eq_int ?_
  refine evl_nil ⟨by first | exact lb rfl | simp, ?_⟩
  refine h σ1 _ hK ?_
  have e : ((avN (places [a, b] x)).length : Int) = ((places [a, b] x).length : Int) := by simp [avN]
  rw [e]
  exact .tup (.cons (.int _) (.cons (.bool _) .nil))
end

-- part W28
section
variable {C : Cx} {n : Nat} {σ : List AO} {Q : AV → List AO → Prop}
theorem places_lt {r : List Nat} {x : Nat} : (places r x).length ≤ r.length := by
  have := List.length_filter_le (fun p : Nat × Nat => decide (p.1 = x)) (r.zipIdx)
  simpa [places] using this
theorem c_part_xor {a b c x : Nat} (hC : C.Ok recs) (h : ∀ σ' v, Keep [] σ σ' → PyOf σ' v (partD (.xor a b c) x) → Q v σ') : CallF C (n + 2) "_law_part" [(Told.xor a b c).enc, .int (x : Int)] σ Q := by
  refine callF hC d17_mem d17_ok rfl ?_
  refine ex_cons ?_
  show Ex1 _ _ _ [("told", AV.tup [.str "xor", .int (a : Int), .int (b : Int), .int (c : Int)]), ("x", .int (x : Int))] _ _ _
  repeat ktr_rel
  refine evB_len hC rfl ?_
  refine evl_cons (ev_callF hC d16_mem rfl rfl ?_)
  refine evl_cons (ev_ifexp ?_)
  iterate 4 ktr_rel
  refine ev_slice_tup (a := 1) (ub := Option.none) rfl rfl (by decide) ?_
  repeat ktr_rel
  refine ⟨_, rfl, by simp, by simp, by simp, ?_⟩
  repeat ktr_rel
  refine c_places (r := [a, b, c]) hC (by first | exact nn | exact lb rfl | simp) fun σ1 k hK hk => ?_
  refine evl_nil ?_
  have hl := places_lt (r := [a, b, c]) (x := x)
  refine cv_len_list hk (by simp [avN] at hl ⊢; (first | assumption | decide | exact le0 (by assumption) (by decide) | exact le1 (by assumption) (by decide) | exact le2 (by assumption) (by assumption) (by decide) | lia | omega)) ?_
  refine h σ1 _ hK ?_
  have e : ((avN (places [a, b, c] x)).length : Int) = ((places [a, b, c] x).length : Int) := by simp [avN]
  rw [e]
  exact .int _
theorem c_part_alldiff {r : List Nat} {x : Nat} (hC : C.Ok recs) (hz : r.length ≤ 5) (h : ∀ σ' v, Keep [] σ σ' → PyOf σ' v (partD (.alldiff r) x) → Q v σ') : CallF C (n + 2) "_law_part" [(Told.alldiff r).enc, .int (x : Int)] σ Q := by
  refine callF hC d17_mem d17_ok rfl ?_
  refine ex_cons ?_
  show Ex1 _ _ _ [("told", AV.tup [.str "all_different", .tup (avN r), .str "values"]), ("x", .int (x : Int))] _ _ _
  repeat ktr_rel
  refine evB_len hC rfl ?_
  refine evl_cons (ev_callF hC d16_mem rfl rfl ?_)
  repeat ktr_rel
  refine c_places (r := r) hC (by (first | assumption | decide | exact le0 (by assumption) (by decide) | exact le1 (by assumption) (by decide) | exact le2 (by assumption) (by assumption) (by decide) | lia | omega)) fun σ1 k hK hk => ?_
  refine evl_nil ?_
  have hl := places_lt (r := r) (x := x)
  refine cv_len_list hk (by first | exact avN_le (by assumption) (by decide) | (simp [avN]; (first | assumption | decide | exact le0 (by assumption) (by decide) | exact le1 (by assumption) (by decide) | exact le2 (by assumption) (by assumption) (by decide) | lia | omega))) ?_
  refine h σ1 _ hK ?_
  have e : ((avN (places r x)).length : Int) = ((places r x).length : Int) := by simp [avN]
  rw [e]
  exact .int _
theorem part3 : ∀ nm ∈ (["max", "nvalue", "count"] : List Str), (nm == "times") = false ∧ (["xor", "all_different"] : List Str).any (· == nm) = false ∧ (["max", "nvalue", "count"] : List Str).any (· == nm) = true := by decide +kernel
theorem c_part_three {nm : Str} {r : List Nat} {rest : List AV} {z x : Nat} (hC : C.Ok recs) (hn : nm ∈ (["max", "nvalue", "count"] : List Str)) (hz : r.length ≤ 5)
    (h1 : nm = "max" → ∀ σ', Keep [] σ σ' → Q (.tup [.bool (decide ((0 : Int) < ((places r x).length : Nat))), .bool ((x : Int) == (z : Int))]) σ') (h2 : ∀ σ', Keep [] σ σ' → Q (.tup [.int ((places r x).length : Nat), .bool ((x : Int) == (z : Int))]) σ' ∨ nm = "max") :
    CallF C (n + 2) "_law_part" [.tup ((.str nm :: .tup (avN r) :: rest) ++ [.int (z : Int)]), .int (x : Int)] σ Q := by
  obtain ⟨f1, f2, f3⟩ := part3 nm hn
  refine callF hC d17_mem d17_ok rfl ?_
  refine ex_cons ?_
  show Ex1 _ _ _ [("told", AV.tup (.str nm :: .tup (avN r) :: (rest ++ [.int (z : Int)]))), ("x", .int (x : Int))] _ _ _
  repeat ktr_rel
  refine cmp_eq_str_f f1 ?_
  repeat ktr_rel
  refine cmp_in_strs_f (by repeat constructor) f2 ?_
  repeat ktr_rel
  refine cmp_in_strs_t (by repeat constructor) f3 ?_
  repeat ktr_rel
  refine evB_len hC rfl ?_
  refine evl_cons (ev_callF hC d16_mem rfl rfl ?_)
  repeat ktr_rel
  refine c_places (r := r) hC (by (first | assumption | decide | exact le0 (by assumption) (by decide) | exact le1 (by assumption) (by decide) | exact le2 (by assumption) (by assumption) (by decide) | lia | omega)) fun σ1 k hK hk => ?_
  refine evl_nil ?_
  have hl := places_lt (r := r) (x := x)
  refine cv_len_list hk (by first | exact avN_le (by assumption) (by decide) | (simp [avN]; (first | assumption | decide | exact le0 (by assumption) (by decide) | exact le1 (by assumption) (by decide) | exact le2 (by assumption) (by assumption) (by decide) | lia | omega))) ?_
  have e : ((avN (places r x)).length : Int) = ((places r x).length : Int) := by simp [avN]
  rw [e]
  refine ex_cons (ex_return (ev_tuple (hs := rfl) (evl_cons (ev_ifexp (eb_cmp ?_)))))
  repeat ktr_rel
  refine cmp_ne_str ?_
  have last : ∀ {ρ : List (Str × AV)} {v : AV} {K : AV → List AO → Prop}, K (.int (z : Int)) σ1 → SubR C (n + 1) (AV.tup (.str nm :: .tup (avN r) :: (rest ++ [.int (z : Int)]))) (.int (-1)) σ1 K := fun q => sub_last (l := .str nm :: .tup (avN r) :: rest) q
  by_cases hm : nm = "max"
  · have e1 : (nm != ("max" : Str)) = false := by simp [hm]
    rw [e1]
    show EvE _ _ _ _ _ _ _
    repeat ktr_rel
    refine cmp_gt_int ?_
    repeat ktr_rel
    refine ⟨_, rfl, ?_⟩
    refine last (ρ := []) (v := .none) ?_
    exact cmp_eq_int (evl_nil ⟨by first | exact lb rfl | simp, h1 hm σ1 hK⟩)
  · have e1 : (nm != ("max" : Str)) = true := by simpa using hm
    rw [e1]
    show EvE _ _ _ _ _ _ _
    repeat ktr_rel
    refine ⟨_, rfl, ?_⟩
    refine last (ρ := []) (v := .none) ?_
    exact cmp_eq_int (evl_nil ⟨by first | exact lb rfl | simp, (h2 σ1 hK).resolve_right hm⟩)
theorem c_part_mx {r : List Nat} {z x : Nat} (hC : C.Ok recs) (hz : r.length ≤ 5) (h : ∀ σ' v, Keep [] σ σ' → PyOf σ' v (partD (.mx r z) x) → Q v σ') : CallF C (n + 2) "_law_part" [(Told.mx r z).enc, .int (x : Int)] σ Q :=
  c_part_three (nm := "max") (rest := []) hC (by decide) hz (fun _ σ' hK => h σ' _ hK (.tup (.cons (.bool _) (.cons (.bool _) .nil)))) fun _ _ => .inr rfl
theorem c_part_nvalue {r : List Nat} {z x : Nat} (hC : C.Ok recs) (hz : r.length ≤ 5) (h : ∀ σ' v, Keep [] σ σ' → PyOf σ' v (partD (.nvalue r z) x) → Q v σ') : CallF C (n + 2) "_law_part" [(Told.nvalue r z).enc, .int (x : Int)] σ Q :=
  c_part_three (nm := "nvalue") (rest := []) hC (by decide) hz (fun e => absurd e (by decide)) fun σ' hK => .inl (h σ' _ hK (.tup (.cons (.int _) (.cons (.bool _) .nil))))
theorem c_part_count {r : List Nat} {z x : Nat} (hC : C.Ok recs) (hz : r.length ≤ 5) (h : ∀ σ' v, Keep [] σ σ' → PyOf σ' v (partD (.count r z) x) → Q v σ') : CallF C (n + 2) "_law_part" [(Told.count r z).enc, .int (x : Int)] σ Q :=
  c_part_three (nm := "count") (rest := [.int 1]) hC (by decide) hz (fun e => absurd e (by decide)) fun σ' hK => .inl (h σ' _ hK (.tup (.cons (.int _) (.cons (.bool _) .nil))))
theorem c_part_clause {r q : List Nat} {x : Nat} (hC : C.Ok recs) (h : ∀ σ' v, Keep [] σ σ' → PyOf σ' v (partD (.clause r q) x) → Q v σ') : CallF C (n + 2) "_law_part" [(Told.clause r q).enc, .int (x : Int)] σ Q := by
  refine callF hC d17_mem d17_ok rfl ?_
  refine ex_cons ?_
  show Ex1 _ _ _ [("told", AV.tup [.str "clause", .tup (avN r), .tup (avN q)]), ("x", .int (x : Int))] _ _ _
  repeat ktr_rel
  refine cmp_in_nats ?_
  refine evl_cons (ev_cmp ?_)
  repeat ktr_rel
  refine cmp_in_nats ?_
  refine evl_nil ⟨by first | exact lb rfl | simp, ?_⟩
  exact h σ _ Keep.refl (.tup (.cons (.bool _) (.cons (.bool _) .nil)))
theorem c_part_incr {r : List Nat} {x : Nat} (hC : C.Ok recs) (hz : r.length ≤ 5) (h : ∀ σ' v, Keep [] σ σ' → PyOf σ' v (partD (.incr r) x) → Q v σ') : CallF C (n + 2) "_law_part" [(Told.incr r).enc, .int (x : Int)] σ Q := by
  refine callF hC d17_mem d17_ok rfl ?_
  refine ex_cons ?_
  show Ex1 _ _ _ [("told", AV.tup [.str "increasing", .tup (avN r)]), ("x", .int (x : Int))] _ _ _
  repeat ktr_rel
  refine ev_callF hC d16_mem rfl rfl ?_
  repeat ktr_rel
  refine c_places (r := r) hC (by (first | assumption | decide | exact le0 (by assumption) (by decide) | exact le1 (by assumption) (by decide) | exact le2 (by assumption) (by assumption) (by decide) | lia | omega)) fun σ1 k hK hk => ?_
  exact h σ1 _ hK (.ref hk (pyOfL (pureN _)))
theorem c_part_element {r : List Nat} {i z x : Nat} (hC : C.Ok recs) (hz : r.length ≤ 5) (h : ∀ σ' v, Keep [] σ σ' → PyOf σ' v (partD (.element i r z) x) → Q v σ') : CallF C (n + 2) "_law_part" [(Told.element i r z).enc, .int (x : Int)] σ Q := by
  refine callF hC d17_mem d17_ok rfl ?_
  refine ex_cons ?_
  show Ex1 _ _ _ [("told", AV.tup [.str "element", .int (i : Int), .tup (avN r), .int (z : Int)]), ("x", .int (x : Int))] _ _ _
  repeat ktr_rel
  refine cmp_eq_int ?_
  refine evl_cons (ev_callF hC d16_mem rfl rfl ?_)
  repeat ktr_rel
  refine c_places (r := r) hC (by (first | assumption | decide | exact le0 (by assumption) (by decide) | exact le1 (by assumption) (by decide) | exact le2 (by assumption) (by assumption) (by decide) | lia | omega)) fun σ1 k hK hk => ?_
  refine evl_cons (ev_cmp ?_)
  repeat ktr_rel
  refine cmp_eq_int ?_
  refine evl_nil ⟨by first | exact lb rfl | simp, ?_⟩
  exact h σ1 _ hK (.tup (.cons (.bool _) (.cons (.ref hk (pyOfL (pureN _))) (.cons (.bool _) .nil))))
theorem c_part_cumul {r : List Nat} {a b : List Int} {x : Nat} (hC : C.Ok recs) (hz : r.length ≤ 5) (ha : a.length = r.length) (hb : b.length = r.length) (h : ∀ σ' v, Keep [] σ σ' → PyOf σ' v (partD (.cumul r a b) x) → Q v σ') : CallF C (n + 2) "_law_part" [(Told.cumul r a b).enc, .int (x : Int)] σ Q := by
  refine callF hC d17_mem d17_ok rfl ?_
  refine ex_cons ?_
  show Ex1 _ _ _ [("told", AV.tup [.str "cumulative", .tup (avN r), .tup (avI a), .tup (avI b), .int 2]), ("x", .int (x : Int))] _ _ _
  repeat ktr_rel
  refine evB_sorted hC rfl ?_
  refine evl_cons (ev_comp ⟨rfl, by decide, rfl, rfl⟩ (fun _ _ => rfl) ?_)
  refine evi_list rfl ?_
  refine ev_callF hC d16_mem rfl rfl ?_
  repeat ktr_rel
  refine c_places (r := r) hC (by (first | assumption | decide | exact le0 (by assumption) (by decide) | exact le1 (by assumption) (by decide) | exact le2 (by assumption) (by assumption) (by decide) | lia | omega)) fun σ1 k hK hk => ?_
  refine ⟨_, _, rfl, hk, ?_⟩
  have hl := places_lt (r := r) (x := x)
  refine comp_pure (X := []) (xs := places r x) (enc := fun (v : Nat) => .int (v : Int)) (g := fun k => tupI [a.getD k 0, b.getD k 0]) (p := fun _ => true) rfl (by (first | assumption | decide | exact le0 (by assumption) (by decide) | exact le1 (by assumption) (by decide) | exact le2 (by assumption) (by assumption) (by decide) | lia | omega)) (fun σi hi => hi.get hk (by first | exact nn | exact lb rfl | simp)) (fun v hv σj hj => ?_) (fun σj hj => ?_)
  · have hvl : v < r.length := by
      obtain ⟨p, hp, rfl⟩ := List.mem_map.mp hv
      have := List.mem_zipIdx (List.mem_filter.mp hp).1
      (first | assumption | decide | exact le0 (by assumption) (by decide) | exact le1 (by assumption) (by decide) | exact le2 (by assumption) (by assumption) (by decide) | lia | omega)
    refine as_name rfl ?_
    show EvE _ _ _ _ _ _ _
    repeat ktr_rel
    refine sub_at (by (first | assumption | decide | exact le0 (by assumption) (by decide) | exact le1 (by assumption) (by decide) | exact le2 (by assumption) (by assumption) (by decide) | lia | omega)) (by (first | assumption | decide | exact le0 (by assumption) (by decide) | exact le1 (by assumption) (by decide) | exact le2 (by assumption) (by assumption) (by decide) | lia | omega)) (a := .int (a.getD v 0)) (by simp [avI, List.getElem?_map, List.getD_eq_getElem?_getD, List.getElem?_eq_getElem (show v < a.length by (first | assumption | decide | exact le0 (by assumption) (by decide) | exact le1 (by assumption) (by decide) | exact le2 (by assumption) (by assumption) (by decide) | lia | omega))]) ?_
    refine evl_cons (ev_sub ?_)
    repeat ktr_rel
    refine sub_at (by (first | assumption | decide | exact le0 (by assumption) (by decide) | exact le1 (by assumption) (by decide) | exact le2 (by assumption) (by assumption) (by decide) | lia | omega)) (by (first | assumption | decide | exact le0 (by assumption) (by decide) | exact le1 (by assumption) (by decide) | exact le2 (by assumption) (by assumption) (by decide) | lia | omega)) (a := .int (b.getD v 0)) (by simp [avI, List.getElem?_map, List.getD_eq_getElem?_getD, List.getElem?_eq_getElem (show v < b.length by (first | assumption | decide | exact le0 (by assumption) (by decide) | exact le1 (by assumption) (by decide) | exact le2 (by assumption) (by assumption) (by decide) | lia | omega))]) ?_
    refine evl_nil ⟨by first | exact lb rfl | simp, ?_⟩
    exact ⟨rfl, rfl, hj⟩
  · refine evl_nil ?_
    have ef : ((places r x).filter fun _ => true) = places r x := List.filter_eq_self.mpr fun _ _ => rfl
    rw [ef]
    have e1 : ((places r x).map fun k => tupI [a.getD k 0, b.getD k 0]) = ((places r x).map fun k => [a.getD k 0, b.getD k 0]).map fun l => AV.tup (l.map .int) := by rw [List.map_map]; rfl
    rw [e1]
    refine cv_sorted_tups (xs := (places r x).map fun k => [a.getD k 0, b.getD k 0]) (by first | exact .inl (.inr ⟨_, rfl, get_app⟩) | exact .inr ⟨_, rfl, get_app⟩) (fun l hl => by obtain ⟨k, _, rfl⟩ := List.mem_map.mp hl; simp) (by first | exact map_le (by assumption) (by decide) | (rw [List.length_map]; (first | assumption | decide | exact le0 (by assumption) (by decide) | exact le1 (by assumption) (by decide) | exact le2 (by assumption) (by assumption) (by decide) | lia | omega))) fun ys hp hs => ?_
    rw [sortT_of hp hs]
    exact h _ _ ((hK.trans hj).app.app) (.ref get_app (pyOfL (pureT _)))
theorem c_part {t : Told} {x : Nat} (hC : C.Ok recs) (ht : t.Ok) (hm : t.More) (hp : isPartT t = true) (h : ∀ σ' v, Keep [] σ σ' → PyOf σ' v (partD t x) → Q v σ') : CallF C (n + 2) "_law_part" [t.enc, .int (x : Int)] σ Q := by
  have few := ht.few
  cases t with
  | lin l => cases hp
  | reif z l => cases hp
  | table p q rows => cases hp
  | times a b c => exact c_part_times hC h
  | xor a b c => exact c_part_xor hC h
  | mx r z => exact c_part_mx hC (few (.V r) (by simp [Told.parts])) h
  | nvalue r z => exact c_part_nvalue hC (few (.V r) (by simp [Told.parts])) h
  | count r z => exact c_part_count hC (few (.V r) (by simp [Told.parts])) h
  | cumul r a b => exact c_part_cumul hC (few (.V r) (by simp [Told.parts])) hm.2.1 hm.2.2 h
  | clause r q => exact c_part_clause hC h
  | element i r z => exact c_part_element hC (few (.V r) (by simp [Told.parts])) h
  | incr r => exact c_part_incr hC (few (.V r) (by simp [Told.parts])) h
  | alldiff r => exact c_part_alldiff hC (few (.V r) (by simp [Told.parts])) h
end

-- part W29
mutual
theorem PyOf.keep {σ σ' : List AO} (K : Keep [] σ σ') : ∀ {a : AV} {d : PyData}, PyOf σ a d → PyOf σ' a d
  | _, _, .none => .none
  | _, _, .bool b => .bool b
  | _, _, .int i => .int i
  | _, _, .str x => .str x
  | _, _, .tup p => .tup (PyOfL.keep K p)
  | _, _, .ref h p => .ref (K.get h (by first | exact nn | exact lb rfl | simp)) (PyOfL.keep K p)
theorem PyOfL.keep {σ σ' : List AO} (K : Keep [] σ σ') : ∀ {a : List AV} {d : List PyData}, PyOfL σ a d → PyOfL σ' a d
  | _, _, .nil => .nil
  | _, _, .cons p q => .cons (PyOf.keep K p) (PyOfL.keep K q)
end
theorem depN (l : List Nat) : PyData.depthAll (dN l) ≤ 1 := by
  unfold dN
  induction l with
  | nil => exact Nat.le_of_ble_eq_true rfl
  | cons x l ih =>
    simp only [avN, List.map_cons, toPyL, toPy, PyData.depthAll, PyData.depth] at ih ⊢
    (first | assumption | decide | exact le0 (by assumption) (by decide) | exact le1 (by assumption) (by decide) | exact le2 (by assumption) (by assumption) (by decide) | lia | omega)
theorem depI (l : List Int) : PyData.depthAll (toPyL (l.map .int)) ≤ 1 := by
  induction l with
  | nil => exact Nat.le_of_ble_eq_true rfl
  | cons x l ih =>
    simp only [List.map_cons, toPyL, toPy, PyData.depthAll, PyData.depth] at ih ⊢
    (first | assumption | decide | exact le0 (by assumption) (by decide) | exact le1 (by assumption) (by decide) | exact le2 (by assumption) (by assumption) (by decide) | lia | omega)
theorem depT (l : List (List Int)) : PyData.depthAll (toPyL (l.map tupI)) ≤ 2 := by
  induction l with
  | nil => exact Nat.le_of_ble_eq_true rfl
  | cons x l ih =>
    have := depI x
    simp only [List.map_cons, toPyL, toPy, tupI, PyData.depthAll, PyData.depth] at ih ⊢
    (first | assumption | decide | exact le0 (by assumption) (by decide) | exact le1 (by assumption) (by decide) | exact le2 (by assumption) (by assumption) (by decide) | lia | omega)
theorem part_lay (t : Told) (x : Nat) : (partD t x).canLay0 = true := by
  have hN : ∀ l, PyData.canLayAll0 (dN l) = true := fun l => lay_pyL (pureN l)
  have hT : ∀ l : List (List Int), PyData.canLayAll0 (toPyL (l.map tupI)) = true := fun l => lay_pyL (pureT l)
  cases t with
  | cumul r c d => exact hT _
  | incr r => exact hN _
  | element i r z => exact (by rw [hN]; rfl : (true && (PyData.canLayAll0 (dN (places r x)) && (true && true))) = true)
  | _ => rfl
theorem part_depth (t : Told) (x : Nat) : (partD t x).depth ≤ 10 := by
  cases t with
  | cumul r a b => exact Nat.le_trans (Nat.succ_le_succ (depT _)) (by decide)
  | element i r z => exact Nat.le_trans (Nat.succ_le_succ (Nat.max_le.mpr ⟨Nat.zero_le _, Nat.max_le.mpr ⟨Nat.succ_le_succ (depN (places r x)), Nat.zero_le _⟩⟩)) (by decide)
  | incr r => exact Nat.le_trans (Nat.succ_le_succ (depN _)) (by decide)
  | _ => exact Nat.le_of_ble_eq_true rfl

-- part W30
noncomputable def rev2 (l : List Int) : List Int := [l.getD 1 0, l.getD 0 0]

noncomputable def alikeLaw (t : Told) (x y : Nat) : Bool :=
  match t with
  | .lin l => sumAlike l x y
  | .reif z l => !decide ((z : Int) = (x : Int) ∨ (z : Int) = (y : Int)) && sumAlike l x y
  | .table p q rows => if decide (x ∈ [p, q]) && decide (y ∈ [p, q]) then PyData.eqvAll (toPyL ((sortT (rows.map rev2)).map tupI)) (toPyL ((sortT rows).map tupI)) else !decide (x ∈ [p, q]) && !decide (y ∈ [p, q])
  | t => PyData.eqv (partD t x) (partD t y)
section
variable {C : Cx} {n : Nat} {σ : List AO} {Q : AV → List AO → Prop}
theorem lin_cut : ∀ nm ∈ linNames, (strCut nm 6 == "linear") = true ∧ (strCut nm 6).length ≤ 1000 := by decide +kernel
theorem c_alike_lin {l : Lin} {x y : Nat} (hC : C.Ok recs) (hn : l.name ∈ linNames) (hz : l.vars.length ≤ 5) (h : ∀ σ', Keep [] σ σ' → Q (.bool (sumAlike l x y)) σ') : CallF C (n + 3) "_law_is_alike" [l.enc, .int (x : Int), .int (y : Int)] σ Q := by
  refine callF hC d19_mem d19_ok rfl ?_
  refine ex_cons ?_
  show Ex1 _ _ _ [("told", AV.tup [.str l.name, .tup (avI l.coefs), .tup (avN l.vars), .int l.c]), ("x", .int (x : Int)), ("y", .int (y : Int))] _ _ _
  refine ex_if (eb_cmp ?_)
  refine ev_slice_str (b := 6) rfl ?_
  repeat ktr_rel
  refine ⟨_, rfl, (lin_cut _ hn).2, ?_⟩
  repeat ktr_rel
  refine cmp_eq_str_t (lin_cut _ hn).1 ?_
  repeat ktr_rel
  refine ev_callF hC d18_mem rfl rfl ?_
  repeat ktr_rel
  exact c_sum_alike (n := n + 1) hC hz h
theorem c_alike_reif {z : Nat} {l : Lin} {x y : Nat} (hC : C.Ok recs) (hz : l.vars.length ≤ 5) (h : ∀ σ', Keep [] σ σ' → Q (.bool (alikeLaw (.reif z l) x y)) σ') : CallF C (n + 3) "_law_is_alike" [(Told.reif z l).enc, .int (x : Int), .int (y : Int)] σ Q := by
  refine callF hC d19_mem d19_ok rfl ?_
  refine ex_cons ?_
  show Ex1 _ _ _ [("told", AV.tup [.str "reif", .int (z : Int), l.enc]), ("x", .int (x : Int)), ("y", .int (y : Int))] _ _ _
  refine ex_if (eb_cmp ?_)
  refine ev_slice_str (b := 6) rfl ?_
  repeat ktr_rel
  refine ⟨_, rfl, by decide +kernel, ?_⟩
  repeat ktr_rel
  refine ev_and ?_
  repeat ktr_rel
  refine ⟨by first | exact lb rfl | simp, cmp_notin2 ?_⟩
  refine ⟨_, rfl, ?_⟩
  by_cases hb : (z : Int) = (x : Int) ∨ (z : Int) = (y : Int)
  · have e : (!decide ((z : Int) = (x : Int) ∨ (z : Int) = (y : Int))) = false := by simp [hb]
    rw [e]
    have := h σ Keep.refl
    have e2 : alikeLaw (.reif z l) x y = false := by
      show (!decide ((z : Int) = (x : Int) ∨ (z : Int) = (y : Int)) && sumAlike l x y) = false
      rw [e]; rfl
    rw [e2] at this
    exact this
  · have e : (!decide ((z : Int) = (x : Int) ∨ (z : Int) = (y : Int))) = true := by simp [hb]
    rw [e]
    refine ev_callF hC d18_mem rfl rfl ?_
    repeat ktr_rel
    refine c_sum_alike (n := n + 1) hC hz fun σ' hK => ?_
    have := h σ' hK
    have e2 : alikeLaw (.reif z l) x y = sumAlike l x y := by
      show (!decide ((z : Int) = (x : Int) ∨ (z : Int) = (y : Int)) && sumAlike l x y) = _
      rw [e]; rfl
    rw [e2] at this
    exact this
theorem c_alike_table {p q : Nat} {rows : List (List Int)} {x y : Nat} (hC : C.Ok recs) (hr : ∀ l ∈ rows, l.length = 2) (hz : rows.length ≤ 5) (h : ∀ σ', Keep [] σ σ' → Q (.bool (alikeLaw (.table p q rows) x y)) σ') : CallF C (n + 3) "_law_is_alike" [(Told.table p q rows).enc, .int (x : Int), .int (y : Int)] σ Q := by
  refine callF hC d19_mem d19_ok rfl ?_
  refine ex_cons ?_
  show Ex1 _ _ _ [("told", AV.tup [.str "table", .tup (avN [p, q]), .tup (rows.map fun l => .tup (avI l))]), ("x", .int (x : Int)), ("y", .int (y : Int))] _ _ _
  refine ex_if (eb_cmp ?_)
  refine ev_slice_str (b := 6) rfl ?_
  repeat ktr_rel
  refine ⟨_, rfl, by decide +kernel, ?_⟩
  repeat ktr_rel
  refine eb_bool (eva_and ?_)
  repeat ktr_rel
  refine cmp_in_nats ?_
  have e0 : alikeLaw (.table p q rows) x y = if decide (x ∈ [p, q]) && decide (y ∈ [p, q]) then PyData.eqvAll (toPyL ((sortT (rows.map rev2)).map tupI)) (toPyL ((sortT rows).map tupI)) else !decide (x ∈ [p, q]) && !decide (y ∈ [p, q]) := rfl
  cases hx : decide (x ∈ [p, q]) with
  | true =>
    refine eva_and ?_
    repeat ktr_rel
    refine cmp_in_nats ?_
    cases hy : decide (y ∈ [p, q]) with
    | true =>
      refine eva_and0 ?_
      refine ex_cons (ex_return (ev_cmp ?_))
      refine evB_sorted hC rfl ?_
      refine evl_cons (ev_comp ⟨rfl, by decide, rfl, rfl⟩ (fun _ _ => rfl) ?_)
      refine evi_tup2 rfl ?_
      repeat ktr_rel
      refine ⟨_, rfl, ?_⟩
      refine comp_pure (X := []) (xs := rows) (enc := fun l => AV.tup (avI l)) (g := fun l => tupI (rev2 l)) (p := fun _ => true) rfl (by (first | assumption | decide | exact le0 (by assumption) (by decide) | exact le1 (by assumption) (by decide) | exact le2 (by assumption) (by assumption) (by decide) | lia | omega)) (fun _ _ => trivial) (fun l hl σj hj => ?_) (fun σj hj => ?_)
      · have h2 := hr l hl
        match l, h2 with
        | [u, v], _ =>
          show AsT _ _ _ _ _ (AV.tup [.int u, .int v]) _ _
          refine as_tup rfl rfl rfl ?_
          show EvE _ _ _ _ _ _ _
          repeat ktr_rel
          first | exact ⟨by first | exact lb rfl | simp, rfl, rfl, hj⟩ | exact ⟨rfl, rfl, hj⟩ | exact ⟨rfl, hj⟩
      · refine evl_nil ?_
        have ef : (rows.filter fun _ => true) = rows := List.filter_eq_self.mpr fun _ _ => rfl
        rw [ef]
        have e1 : (rows.map fun l => tupI (rev2 l)) = (rows.map rev2).map fun l => AV.tup (l.map .int) := by rw [List.map_map]; rfl
        rw [e1]
        refine cv_sorted_tups (xs := rows.map rev2) (by first | exact .inl (.inr ⟨_, rfl, get_app⟩) | exact .inr ⟨_, rfl, get_app⟩) (fun l hl => by obtain ⟨k, _, rfl⟩ := List.mem_map.mp hl; simp [rev2]) (by first | exact map_le (by assumption) (by decide) | (rw [List.length_map]; (first | assumption | decide | exact le0 (by assumption) (by decide) | exact le1 (by assumption) (by decide) | exact le2 (by assumption) (by assumption) (by decide) | lia | omega))) fun ys hp hs => ?_
        rw [sortT_of hp hs]
        refine evB_sorted hC rfl ?_
        repeat ktr_rel
        refine cv_sorted_tups (xs := rows) (by first | exact .inl (.inl rfl) | exact .inl rfl) (fun l hl e => by have := hr l hl; rw [e] at this; cases this) hz fun zs hp' hs' => ?_
        rw [sortT_of hp' hs']
        refine cmp_eq (.ref ((Keep.refl (X := [])).app.get get_app (by first | exact nn | exact lb rfl | simp)) (pyOfL (pureT _))) (.ref get_app (pyOfL (pureT _))) (lay_pyL (pureT _)) (lay_pyL (pureT _)) (Nat.le_trans (Nat.min_le_left _ _) (show (PyData.list (toPyL ((sortT (rows.map rev2)).map tupI))).depth ≤ 10 by have := depT (sortT (rows.map rev2)); simp only [PyData.depth]; (first | assumption | decide | exact le0 (by assumption) (by decide) | exact le1 (by assumption) (by decide) | exact le2 (by assumption) (by assumption) (by decide) | lia | omega))) ?_
        have := h _ (((hj.app (o := .list ((rows.map rev2).map fun l => AV.tup (l.map .int)))).app (o := .list ((sortT (rows.map rev2)).map tupI))).app (o := .list ((sortT rows).map tupI)))
        rw [e0, hx, hy] at this
        exact this
    | false =>
      refine ex_nil ?_
      refine ex_cons (ex_return (ev_and ?_))
      repeat ktr_rel
      refine cmp_notin_nats ⟨_, rfl, ?_⟩
      rw [hx]
      have := h σ Keep.refl
      rw [e0, hx, hy] at this
      exact this
  | false =>
    refine ex_nil ?_
    refine ex_cons (ex_return (ev_and ?_))
    repeat ktr_rel
    refine cmp_notin_nats ⟨_, rfl, ?_⟩
    rw [hx]
    refine ev_cmp ?_
    repeat ktr_rel
    refine cmp_notin_nats ?_
    have := h σ Keep.refl
    rw [e0, hx] at this
    exact this
theorem part_lit : ∀ s ∈ (["times", "xor", "max", "nvalue", "count", "cumulative", "clause", "element", "increasing", "all_different"] : List Str), (strCut s 6 == "linear") = false ∧ (strCut s 6).length ≤ 1000 ∧ (s == "reif") = false ∧ (s == "table") = false := by decide +kernel
theorem part_names {t : Told} (hp : isPartT t = true) : (strCut t.name 6 == "linear") = false ∧ (strCut t.name 6).length ≤ 1000 ∧ (t.name == "reif") = false ∧ (t.name == "table") = false := by
  cases t with
  | lin l => cases hp
  | reif z l => cases hp
  | table p q rows => cases hp
  | times a b c => exact part_lit "times" (by decide)
  | xor a b c => exact part_lit "xor" (by decide)
  | mx r x => exact part_lit "max" (by decide)
  | nvalue r x => exact part_lit "nvalue" (by decide)
  | count r x => exact part_lit "count" (by decide)
  | cumul r a b => exact part_lit "cumulative" (by decide)
  | clause r q => exact part_lit "clause" (by decide)
  | element i r x => exact part_lit "element" (by decide)
  | incr r => exact part_lit "increasing" (by decide)
  | alldiff r => exact part_lit "all_different" (by decide)
theorem c_alike_part {t : Told} {x y : Nat} (hC : C.Ok recs) (ht : t.Ok) (hm : t.More) (hp : isPartT t = true) (h : ∀ σ', Keep [] σ σ' → Q (.bool (PyData.eqv (partD t x) (partD t y))) σ') : CallF C (n + 3) "_law_is_alike" [t.enc, .int (x : Int), .int (y : Int)] σ Q := by
  obtain ⟨n1, n2, n3, n4⟩ := part_names hp
  have s0 : ∀ {Q' : AV → List AO → Prop}, Q' (.str t.name) σ → SubR C (n + 2) t.enc (.int 0) σ Q' := fun q => sub_at (l := .str t.name :: t.parts.map Part.enc) (by decide) (by decide) rfl q
  have cp : ∀ {σ z} {Q' : AV → List AO → Prop}, (∀ σ' v, Keep [] σ σ' → PyOf σ' v (partD t z) → Q' v σ') → CallF C (n + 2) "_law_part" [t.enc, .int (z : Int)] σ Q' := fun q => c_part hC ht hm hp q
  generalize t.enc = e at s0 cp ⊢
  refine callF hC d19_mem d19_ok rfl ?_
  refine ex_cons (ex_if (eb_cmp ?_))
  refine ev_slice_str (b := 6) rfl (ev_sub ?_)
  repeat ktr_rel
  refine s0 ⟨_, rfl, n2, ?_⟩
  repeat ktr_rel
  refine cmp_eq_str_f n1 ?_
  repeat ktr_rel
  refine s0 ?_
  repeat ktr_rel
  refine cmp_eq_str_f n3 ?_
  repeat ktr_rel
  refine s0 ?_
  repeat ktr_rel
  refine cmp_eq_str_f n4 ?_
  repeat ktr_rel
  refine ev_callF hC d17_mem rfl rfl ?_
  repeat ktr_rel
  refine cp fun σ1 v hK pv => ?_
  refine ev_callF hC d17_mem rfl rfl ?_
  repeat ktr_rel
  refine cp fun σ2 w hK2 pw => ?_
  exact cmp_eq (pv.keep hK2) pw (part_lay _ _) (part_lay _ _) (Nat.le_trans (Nat.min_le_left _ _) (part_depth _ _)) (h σ2 (hK.trans hK2))
theorem c_alike {t : Told} {x y : Nat} (hC : C.Ok recs) (ht : t.Ok) (hm : t.More) (h : ∀ σ', Keep [] σ σ' → Q (.bool (alikeLaw t x y)) σ') : CallF C (n + 3) "_law_is_alike" [t.enc, .int (x : Int), .int (y : Int)] σ Q := by
  have few := ht.few
  cases t with
  | lin l => exact c_alike_lin hC (ht.lin l (.inl rfl)) (few (.V l.vars) (by simp [Told.parts, Lin.parts])) h
  | reif z l => exact c_alike_reif hC (few (.t l) (by simp [Told.parts])) h
  | table p q rows =>
    obtain ⟨b1, b2, b3⟩ := base_facts hm.2 p q
    exact c_alike_table hC b2 b3 h
  | _ => exact c_alike_part hC ht hm rfl h
end

-- part P3
section
variable {a b : Nat}
theorem count_inv {α : Type} [BEq α] [LawfulBEq α] {f : α → α} (hf : ∀ x, f (f x) = x) (l : List α) (v : α) : (l.map f).count v = l.count (f v) := by
  induction l with
  | nil => rfl
  | cons x l ih =>
    rw [List.map_cons, List.count_cons, List.count_cons, ih]
    by_cases h : f x = v
    · have h' : x = f v := by rw [← h, hf]
      simp [h, h', hf]
    · have h' : ¬ x = f v := fun e => h (by rw [e, hf])
      have e1 : (f x == v) = false := beq_eq_false_iff_ne.mpr h
      have e2 : (x == f v) = false := beq_eq_false_iff_ne.mpr h'
      rw [e1, e2]
theorem eqvN {l m : List Nat} : PyData.eqvAll (dN l) (dN m) = true ↔ l = m := by
  unfold dN
  rw [eqv_pyL (pureN l) (pureN m)]
  exact ⟨avN_inj, fun h => by rw [h]⟩
theorem tupI_inj {x y : List Int} (h : tupI x = tupI y) : x = y := avI_inj (AV.tup.inj h)
theorem mapT_inj {x y : List (List Int)} (h : x.map tupI = y.map tupI) : x = y := (List.map_inj_right (fun _ _ e => tupI_inj e)).mp h
theorem eqvT {l m : List (List Int)} : PyData.eqvAll (toPyL (l.map tupI)) (toPyL (m.map tupI)) = true ↔ l = m := by
  rw [eqv_pyL (pureT l) (pureT m)]
  exact ⟨mapT_inj, fun h => by rw [h]⟩
theorem eqI {x y : Nat} : ((x : Int) == (y : Int)) = decide (x = y) := by
  by_cases h : x = y
  · simp [h]
  · have : ¬ (x : Int) = (y : Int) := fun e => h (Int.ofNat.inj e)
    simp [h, this]

theorem sole (hab : a ≠ b) (z : Nat) : z = swp a b z ↔ decide (a = z) = decide (b = z) := by
  rw [eq_comm, swp_fix hab]
  by_cases h1 : z = a
  · subst h1
    have : ¬ b = z := fun e => hab e.symm
    simp [this]
  · by_cases h2 : z = b
    · subst h2; simp [hab]
    · have h1' : ¬ a = z := fun e => h1 e.symm
      have h2' : ¬ b = z := fun e => h2 e.symm
      simp [h1, h2, h1', h2']
noncomputable def mm (u v : Nat) : Int × Int := (if (v : Int) < u then (v : Int) else u, if (v : Int) > u then (v : Int) else u)
theorem pair_dec : ((List.range 5).all fun a => (List.range 5).all fun b => (List.range 5).all fun u => (List.range 5).all fun v => decide (a = b) || (decide (mm u v = mm (swp a b u) (swp a b v)) == decide ([u, v].count a = [u, v].count b))) = true := by decide +kernel
theorem pair5 {a b u v : Nat} (hab : a ≠ b) (ha : a < 5) (hb : b < 5) (hu : u < 5) (hv : v < 5) : mm u v = mm (swp a b u) (swp a b v) ↔ [u, v].count a = [u, v].count b := by
  have h := List.all_eq_true.mp (List.all_eq_true.mp (List.all_eq_true.mp (List.all_eq_true.mp pair_dec a (List.mem_range.mpr ha)) b (List.mem_range.mpr hb)) u (List.mem_range.mpr hu)) v (List.mem_range.mpr hv)
  rw [decide_eq_false hab, Bool.false_or] at h
  exact decide_eq_decide.mp (beq_iff_eq.mp h)
theorem alike_times (hab : a ≠ b) (ha : a < 5) (hb : b < 5) {u v : Nat} (hu : u < 5) (hv : v < 5) (w : Nat) : (Told.times u v w).pl = ((Told.times u v w).ren (swp a b)).pl ↔ alikeLaw (.times u v w) a b = true := by
  show ([AV.int (mm u v).1, AV.int (mm u v).2, AV.int _] : List AV) = [AV.int (mm (swp a b u) (swp a b v)).1, AV.int (mm (swp a b u) (swp a b v)).2, AV.int _] ↔ (PyData.eqv (.tuple [.int _, .bool _]) (.tuple [.int _, .bool _])) = true
  simp only [List.cons.injEq, AV.int.injEq, and_true, PyData.eqv, PyData.eqvAll, Bool.and_true, Bool.and_eq_true, beq_iff_eq]
  rw [← and_assoc, ← Prod.ext_iff, places_len, places_len, eqI, eqI]
  have e : ∀ x y : Nat, ((x : Int) = (y : Int)) ↔ x = y := fun x y => ⟨Int.ofNat.inj, fun h => by rw [h]⟩
  rw [e, e, pair5 hab ha hb hu hv, sole hab]
theorem alike_xor (u v w : Nat) : (Told.xor u v w).pl = ((Told.xor u v w).ren (swp a b)).pl ↔ alikeLaw (.xor u v w) a b = true := by
  show (sortI (natI [u, v, w])).map AV.int = (sortI (natI ([u, v, w].map (swp a b)))).map AV.int ↔ (PyData.eqv (.int _) (.int _)) = true
  simp only [PyData.eqv, beq_iff_eq]
  rw [places_len, places_len]
  have e : ∀ x y : Nat, ((x : Int) = (y : Int)) ↔ x = y := fun x y => ⟨Int.ofNat.inj, fun h => by rw [h]⟩
  rw [e, ← sort_swp]
  exact List.map_inj_right fun _ _ e => AV.int.inj e
theorem alike_alldiff (r : List Nat) : (Told.alldiff r).pl = ((Told.alldiff r).ren (swp a b)).pl ↔ alikeLaw (.alldiff r) a b = true := by
  show ([tupI (sortI (natI r)), AV.str _] : List AV) = [tupI (sortI (natI (r.map (swp a b)))), AV.str _] ↔ (PyData.eqv (.int _) (.int _)) = true
  simp only [List.cons.injEq, and_true, PyData.eqv, beq_iff_eq]
  rw [places_len, places_len]
  have e : ∀ x y : Nat, ((x : Int) = (y : Int)) ↔ x = y := fun x y => ⟨Int.ofNat.inj, fun h => by rw [h]⟩
  rw [e, ← sort_swp]
  exact ⟨tupI_inj, fun h => by rw [h]⟩
theorem alike_nvalue (hab : a ≠ b) (r : List Nat) (z : Nat) : (Told.nvalue r z).pl = ((Told.nvalue r z).ren (swp a b)).pl ↔ alikeLaw (.nvalue r z) a b = true := by
  show ([tupI (sortI (natI r)), AV.int _] : List AV) = [tupI (sortI (natI (r.map (swp a b)))), AV.int _] ↔ (PyData.eqv (.tuple [.int _, .bool _]) (.tuple [.int _, .bool _])) = true
  simp only [List.cons.injEq, and_true, PyData.eqv, PyData.eqvAll, Bool.and_true, Bool.and_eq_true, beq_iff_eq, AV.int.injEq]
  rw [places_len, places_len]
  have e : ∀ x y : Nat, ((x : Int) = (y : Int)) ↔ x = y := fun x y => ⟨Int.ofNat.inj, fun h => by rw [h]⟩
  rw [e, e, ← sort_swp, eqI, eqI, ← sole hab]
  exact and_congr_left fun _ => ⟨tupI_inj, fun h => by rw [h]⟩
theorem alike_count (hab : a ≠ b) (r : List Nat) (z : Nat) : (Told.count r z).pl = ((Told.count r z).ren (swp a b)).pl ↔ alikeLaw (.count r z) a b = true := by
  show ([tupI (sortI (natI r)), AV.int 1, AV.int _] : List AV) = [tupI (sortI (natI (r.map (swp a b)))), AV.int 1, AV.int _] ↔ (PyData.eqv (.tuple [.int _, .bool _]) (.tuple [.int _, .bool _])) = true
  simp only [List.cons.injEq, and_true, true_and, PyData.eqv, PyData.eqvAll, Bool.and_true, Bool.and_eq_true, beq_iff_eq, AV.int.injEq]
  rw [places_len, places_len]
  have e : ∀ x y : Nat, ((x : Int) = (y : Int)) ↔ x = y := fun x y => ⟨Int.ofNat.inj, fun h => by rw [h]⟩
  rw [e, e, ← sort_swp, eqI, eqI, ← sole hab]
  exact and_congr_left fun _ => ⟨tupI_inj, fun h => by rw [h]⟩
theorem alike_mx (hab : a ≠ b) (ha : a < 5) (hb : b < 5) (r : List Nat) (z : Nat) : (Told.mx r z).pl = ((Told.mx r z).ren (swp a b)).pl ↔ alikeLaw (.mx r z) a b = true := by
  show ([AV.tup (avN (sset r)), AV.int _] : List AV) = [AV.tup (avN (sset (r.map (swp a b)))), AV.int _] ↔ (PyData.eqv (.tuple [.bool _, .bool _]) (.tuple [.bool _, .bool _])) = true
  simp only [List.cons.injEq, and_true, true_and, PyData.eqv, PyData.eqvAll, Bool.and_true, Bool.and_eq_true, beq_iff_eq, AV.int.injEq, AV.tup.injEq]
  rw [places_len, places_len]
  have e : ∀ x y : Nat, ((x : Int) = (y : Int)) ↔ x = y := fun x y => ⟨Int.ofNat.inj, fun h => by rw [h]⟩
  have p : ∀ x : Nat, decide ((0 : Int) < ((r.count x : Nat) : Int)) = decide (x ∈ r) := fun x => by
    have := List.count_pos_iff (a := x) (l := r)
    by_cases h : x ∈ r
    · have := this.mpr h; simp [h]
    · have h0 : r.count x = 0 := List.count_eq_zero.mpr h
      simp [h, h0]
  rw [e, eqI, eqI, ← sole hab, p, p]
  refine and_congr_left fun _ => ?_
  have : decide (a ∈ r) = decide (b ∈ r) ↔ (a ∈ r ↔ b ∈ r) := decide_eq_decide
  rw [this, ← sset_swp ha hb]
  exact ⟨avN_inj, fun h => by rw [h]⟩
theorem alike_clause (ha : a < 5) (hb : b < 5) (r q : List Nat) : (Told.clause r q).pl = ((Told.clause r q).ren (swp a b)).pl ↔ alikeLaw (.clause r q) a b = true := by
  show ([AV.tup (avN (sset r)), AV.tup (avN (sset q))] : List AV) = [AV.tup (avN (sset (r.map (swp a b)))), AV.tup (avN (sset (q.map (swp a b))))] ↔ (PyData.eqv (.tuple [.bool _, .bool _]) (.tuple [.bool _, .bool _])) = true
  simp only [List.cons.injEq, and_true, true_and, PyData.eqv, PyData.eqvAll, Bool.and_true, Bool.and_eq_true, beq_iff_eq, AV.int.injEq, AV.tup.injEq]
  rw [decide_eq_decide, decide_eq_decide, ← sset_swp ha hb, ← sset_swp ha hb]
  exact and_congr ⟨avN_inj, fun h => by rw [h]⟩ ⟨avN_inj, fun h => by rw [h]⟩
theorem alike_incr (hab : a ≠ b) (r : List Nat) : (Told.incr r).pl = ((Told.incr r).ren (swp a b)).pl ↔ alikeLaw (.incr r) a b = true := by
  show ([AV.tup (avN r)] : List AV) = [AV.tup (avN (r.map (swp a b)))] ↔ (PyData.eqv (.list _) (.list _)) = true
  simp only [List.cons.injEq, and_true, PyData.eqv, AV.tup.injEq]
  rw [eqvN, places_eq hab, ← map_swp_fix hab]
  exact ⟨fun h => (avN_inj h).symm, fun h => by rw [h]⟩
theorem alike_element (hab : a ≠ b) (i : Nat) (r : List Nat) (z : Nat) : (Told.element i r z).pl = ((Told.element i r z).ren (swp a b)).pl ↔ alikeLaw (.element i r z) a b = true := by
  show ([AV.int _, AV.tup (avN r), AV.int _] : List AV) = [AV.int _, AV.tup (avN (r.map (swp a b))), AV.int _] ↔ (PyData.eqv (.tuple [.bool _, .list _, .bool _]) (.tuple [.bool _, .list _, .bool _])) = true
  simp only [List.cons.injEq, and_true, PyData.eqv, PyData.eqvAll, Bool.and_true, Bool.and_eq_true, beq_iff_eq, AV.int.injEq, AV.tup.injEq]
  have e : ∀ x y : Nat, ((x : Int) = (y : Int)) ↔ x = y := fun x y => ⟨Int.ofNat.inj, fun h => by rw [h]⟩
  rw [eqvN, places_eq hab, ← map_swp_fix hab, e, e, eqI, eqI, eqI, eqI, ← sole hab, ← sole hab]
  exact and_congr_right fun _ => and_congr_left fun _ => ⟨fun h => (avN_inj h).symm, fun h => by rw [h]⟩
end

-- part P4
section
variable {a b : Nat}
theorem sortT_eq {xs ys : List (List Int)} : sortT xs = sortT ys ↔ xs.Perm ys :=
  ⟨fun h => (sortT_perm xs).symm.trans (h ▸ sortT_perm ys), fun h => sortT_of ((sortT_perm xs).trans h) (sortT_pw xs)⟩
theorem colsOf_inj {R R' : List (List Int)} (h3 : ∀ l ∈ R, l.length = 3) (h3' : ∀ l ∈ R', l.length = 3) (hl : R.length = R'.length) (h : colsOf R 3 = colsOf R' 3) : R = R' := by
  have hj : ∀ j, j < 3 → R.map (fun r => r.getD j 0) = R'.map (fun r => r.getD j 0) := fun j hj => by
    have := List.map_inj_left.mp h j (List.mem_range.mpr hj)
    exact this
  have g : ∀ (R R' : List (List Int)), R.length = R'.length → (∀ l ∈ R, l.length = 3) → (∀ l ∈ R', l.length = 3) → (∀ j, j < 3 → R.map (fun r => r.getD j 0) = R'.map (fun r => r.getD j 0)) → R = R' := by
    intro R
    induction R with
    | nil => intro R' hl _ _ _; cases R' with
      | nil => rfl
      | cons x r => cases hl
    | cons x r ih =>
      intro R' hl h3 h3' hj
      cases R' with
      | nil => cases hl
      | cons y q =>
        have e : x = y := by
          have x3 := h3 x (.head _)
          have y3 := h3' y (.head _)
          match x, x3, y, y3 with
          | [x0, x1, x2], _, [y0, y1, y2], _ =>
            have h0 := hj 0 (by (first | assumption | decide | exact le0 (by assumption) (by decide) | exact le1 (by assumption) (by decide) | exact le2 (by assumption) (by assumption) (by decide) | lia | omega))
            have h1 := hj 1 (by (first | assumption | decide | exact le0 (by assumption) (by decide) | exact le1 (by assumption) (by decide) | exact le2 (by assumption) (by assumption) (by decide) | lia | omega))
            have h2 := hj 2 (by (first | assumption | decide | exact le0 (by assumption) (by decide) | exact le1 (by assumption) (by decide) | exact le2 (by assumption) (by assumption) (by decide) | lia | omega))
            simp only [List.map_cons, List.cons.injEq] at h0 h1 h2
            have h0 : x0 = y0 := h0.1
            have h1 : x1 = y1 := h1.1
            have h2 : x2 = y2 := h2.1
            rw [h0, h1, h2]
        subst e
        rw [ih q (by simpa using hl) (fun l hl => h3 l (.tail _ hl)) (fun l hl => h3' l (.tail _ hl)) fun j h => by
          have := hj j h
          simp only [List.map_cons, List.cons.injEq, true_and] at this
          exact this]
  exact g R R' hl h3 h3' hj

noncomputable def tri (t : Nat × Int × Int) : List Int := [(t.1 : Int), t.2.1, t.2.2]
theorem tri_inj {s t : Nat × Int × Int} (h : tri s = tri t) : s = t := by
  obtain ⟨s1, s2, s3⟩ := s
  obtain ⟨t1, t2, t3⟩ := t
  simp only [tri, List.cons.injEq, and_true] at h
  obtain ⟨h1, h2, h3⟩ := h
  rw [Int.ofNat.inj h1, h2, h3]
noncomputable def tasks (r : List Nat) (c d : List Int) : List (Nat × Int × Int) := r.zipIdx.map fun p => (p.1, c.getD p.2 0, d.getD p.2 0)
theorem rows_tasks (r : List Nat) (c d : List Int) : rowsOf [natI r, c, d] r.length = (tasks r c d).map tri := by
  unfold rowsOf tasks
  refine List.ext_getElem (by first | exact nn | exact lb rfl | simp) fun i h1 h2 => ?_
  have hi : i < r.length := by simpa using h1
  simp [tri, natI, List.getD_eq_getElem?_getD, hi]
theorem tasks_swp (r : List Nat) (c d : List Int) : tasks (r.map (swp a b)) c d = (tasks r c d).map fun t => (swp a b t.1, t.2) := by
  unfold tasks
  rw [List.zipIdx_map, List.map_map, List.map_map]
  rfl
theorem perm_map_inj {α β : Type} [DecidableEq α] {f : α → β} (hf : ∀ x y, f x = f y → x = y) : ∀ {l m : List α}, (l.map f).Perm (m.map f) → l.Perm m
  | [], m, h => by
    have := h.length_eq
    simp only [List.map_nil, List.length_nil, List.length_map] at this
    rw [List.length_eq_zero_iff.mp this.symm]
  | x :: l, m, h => by
    have hx : f x ∈ m.map f := h.mem_iff.mp (by first | exact nn | exact lb rfl | simp)
    obtain ⟨y, hy, e⟩ := List.mem_map.mp hx
    have e := hf _ _ e
    subst e
    have p := List.perm_cons_erase hy
    have h' := h.trans (p.map f)
    rw [List.map_cons, List.map_cons] at h'
    have := perm_map_inj hf ((List.perm_cons _).mp h')
    exact (this.cons _).trans p.symm
theorem part_tasks (r : List Nat) (c d : List Int) (x : Nat) : (places r x).map (fun k => [c.getD k 0, d.getD k 0]) = ((tasks r c d).filter fun t => decide (t.1 = x)).map fun t => [t.2.1, t.2.2] := by
  unfold places tasks
  rw [List.filter_map, List.map_map, List.map_map]
  rfl
theorem count_part (T : List (Nat × Int × Int)) (x : Nat) (p : Int × Int) : ((T.filter fun t => decide (t.1 = x)).map fun t => t.2).count p = T.count (x, p) := by
  induction T with
  | nil => rfl
  | cons t T ih =>
    obtain ⟨y, q⟩ := t
    rw [List.filter_cons, List.count_cons]
    by_cases h : y = x
    · subst h
      simp only [decide_true, if_true, List.map_cons, List.count_cons, ih]
      by_cases h2 : q = p
      · simp [h2]
      · have e1 : (q == p) = false := beq_eq_false_iff_ne.mpr h2
        have e2 : ((y, q) == (y, p)) = false := beq_eq_false_iff_ne.mpr fun e => h2 (Prod.mk.inj e).2
        rw [e1, e2]
    · have e2 : ((y, q) == (x, p)) = false := beq_eq_false_iff_ne.mpr fun e => h (Prod.mk.inj e).1
      simp only [h, decide_false, Bool.false_eq_true, if_false, ih, e2, Nat.add_zero]
theorem tasks_perm (T : List (Nat × Int × Int)) : T.Perm (T.map fun t => (swp a b t.1, t.2)) ↔ ((T.filter fun t => decide (t.1 = a)).map fun t => t.2).Perm ((T.filter fun t => decide (t.1 = b)).map fun t => t.2) := by
  rw [List.perm_iff_count, List.perm_iff_count]
  have key : ∀ t : Nat × Int × Int, (T.map fun t => (swp a b t.1, t.2)).count t = T.count (swp a b t.1, t.2) := fun t =>
    count_inv (f := fun t : Nat × Int × Int => (swp a b t.1, t.2)) (fun x => by simp [swp_swp]) T t
  constructor
  · intro h p
    rw [count_part, count_part, h, key]
    simp only [swp_l]
  · intro h t
    obtain ⟨v, p⟩ := t
    rw [key]
    simp only
    have hp := h p
    rw [count_part, count_part] at hp
    by_cases h1 : v = a
    · subst h1; rw [swp_l]; exact hp
    · by_cases h2 : v = b
      · subst h2; rw [swp_r]; exact hp.symm
      · rw [swp_o h1 h2]
theorem alike_cumul (r : List Nat) (c d : List Int) : (Told.cumul r c d).pl = ((Told.cumul r c d).ren (swp a b)).pl ↔ alikeLaw (.cumul r c d) a b = true := by
  show (sortCols [natI r, c, d] r.length).map tupI ++ [AV.int 2] = (sortCols [natI (r.map (swp a b)), c, d] (r.map (swp a b)).length).map tupI ++ [AV.int 2] ↔ (PyData.eqv (.list _) (.list _)) = true
  simp only [PyData.eqv]
  rw [eqvT, part_tasks, part_tasks]
  have e0 : ∀ x : Nat, (((tasks r c d).filter fun t => decide (t.1 = x)).map fun t => [t.2.1, t.2.2]) = ((((tasks r c d).filter fun t => decide (t.1 = x)).map fun t => t.2).map fun p : Int × Int => [p.1, p.2]) := fun x => by rw [List.map_map]; rfl
  rw [e0, e0, sortT_eq]
  have e1 : ((((tasks r c d).filter fun t => decide (t.1 = a)).map fun t => t.2).map fun p : Int × Int => [p.1, p.2]).Perm ((((tasks r c d).filter fun t => decide (t.1 = b)).map fun t => t.2).map fun p : Int × Int => [p.1, p.2]) ↔
      (((tasks r c d).filter fun t => decide (t.1 = a)).map fun t => t.2).Perm (((tasks r c d).filter fun t => decide (t.1 = b)).map fun t => t.2) :=
    ⟨perm_map_inj fun x y e => by
      obtain ⟨x1, x2⟩ := x
      obtain ⟨y1, y2⟩ := y
      simp only [List.cons.injEq, and_true] at e
      rw [e.1, e.2], fun h => h.map _⟩
  rw [e1, ← tasks_perm, List.append_cancel_right_eq]
  have el : (r.map (swp a b)).length = r.length := List.length_map _
  have hlen : ∀ q : List Nat, ∀ l ∈ sortT ((tasks q c d).map tri), l.length = 3 := fun q l hl => by
    obtain ⟨t, _, rfl⟩ := List.mem_map.mp ((sortT_perm _).mem_iff.mp hl)
    rfl
  unfold sortCols
  show (colsOf (sortT (rowsOf [natI r, c, d] r.length)) 3).map tupI = (colsOf (sortT (rowsOf [natI (r.map (swp a b)), c, d] (r.map (swp a b)).length)) 3).map tupI ↔ _
  rw [rows_tasks, rows_tasks]
  constructor
  · intro h
    have h := colsOf_inj (hlen _) (hlen _) (by rw [(sortT_perm _).length_eq, (sortT_perm _).length_eq]; simp [tasks]) (mapT_inj h)
    have h := perm_map_inj (fun x y e => tri_inj e) (sortT_eq.mp h)
    rw [tasks_swp] at h
    exact h
  · intro h
    rw [tasks_swp, sortT_eq.mpr (h.map tri)]
theorem perm_lt {p q : Nat} {l : List Int} (h : p < q) (h2 : l.length = 2) : permRow p q l = l := by
  match l, h2 with
  | [u, v], _ => unfold permRow ordOf; rw [if_pos h]; rfl
theorem perm_ge {p q : Nat} {l : List Int} (h : ¬ p < q) (h2 : l.length = 2) : permRow p q l = rev2 l := by
  match l, h2 with
  | [u, v], _ => unfold permRow ordOf; rw [if_neg h]; rfl
theorem tab_dec : ((List.range 5).all fun a => (List.range 5).all fun b => (List.range 5).all fun p => (List.range 5).all fun q => decide (a = b) || (decide (p = q) || (!decide ((if p < q then p else q) = (if swp a b p < swp a b q then swp a b p else swp a b q) ∧ (if p < q then q else p) = (if swp a b p < swp a b q then swp a b q else swp a b p)) || (decide (a = p ∨ a = q) == decide (b = p ∨ b = q))))) = true := by decide +kernel
theorem tab5 {a b p q : Nat} (hab : a ≠ b) (hpq : p ≠ q) (ha : a < 5) (hb : b < 5) (hp : p < 5) (hq : q < 5) (h : (if p < q then p else q) = (if swp a b p < swp a b q then swp a b p else swp a b q) ∧ (if p < q then q else p) = (if swp a b p < swp a b q then swp a b q else swp a b p)) : (a = p ∨ a = q) ↔ (b = p ∨ b = q) := by
  have d := List.all_eq_true.mp (List.all_eq_true.mp (List.all_eq_true.mp (List.all_eq_true.mp tab_dec a (List.mem_range.mpr ha)) b (List.mem_range.mpr hb)) p (List.mem_range.mpr hp)) q (List.mem_range.mpr hq)
  rw [decide_eq_false hab, decide_eq_false hpq, decide_eq_true h] at d
  exact decide_eq_decide.mp (beq_iff_eq.mp d)
theorem alike_table (hab : a ≠ b) (ha : a < 5) (hb : b < 5) {p q : Nat} (hp5 : p < 5) (hq5 : q < 5) {rows : List (List Int)} (hpq : p ≠ q) (h2 : ∀ l ∈ rows, l.length = 2) : (Told.table p q rows).pl = ((Told.table p q rows).ren (swp a b)).pl ↔ alikeLaw (.table p q rows) a b = true := by
  show ([AV.tup (avN [_, _]), AV.tup ((sortT (rows.map (permRow p q))).map tupI)] : List AV) = [AV.tup (avN [_, _]), AV.tup ((sortT (rows.map (permRow (swp a b p) (swp a b q)))).map tupI)] ↔
    (if decide (a ∈ [p, q]) && decide (b ∈ [p, q]) then PyData.eqvAll (toPyL ((sortT (rows.map rev2)).map tupI)) (toPyL ((sortT rows).map tupI)) else !decide (a ∈ [p, q]) && !decide (b ∈ [p, q])) = true
  have eN : ∀ u v x y : Nat, avN [u, v] = avN [x, y] ↔ u = x ∧ v = y := fun u v x y => ⟨fun h => by have := avN_inj h; simpa using this, fun h => by rw [h.1, h.2]⟩
  have eT : ∀ x y : List (List Int), x.map tupI = y.map tupI ↔ x = y := fun x y => ⟨mapT_inj, fun h => by rw [h]⟩
  simp only [List.cons.injEq, AV.tup.injEq, and_true]
  rw [eN, eT]
  have idm : ∀ f : List Int → List Int, (∀ l ∈ rows, f l = l) → rows.map f = rows := fun f hf => by
    have : rows.map f = rows.map id := List.map_congr_left hf
    rw [this, List.map_id]
  have rvm : ∀ f : List Int → List Int, (∀ l ∈ rows, f l = rev2 l) → rows.map f = rows.map rev2 := fun f hf => List.map_congr_left hf
  by_cases hA : a = p ∨ a = q
  · have dA : decide (a ∈ [p, q]) = true := by simpa using hA
    by_cases hB : b = p ∨ b = q
    · have dB : decide (b ∈ [p, q]) = true := by simpa using hB
      rw [dA, dB]
      simp only [Bool.and_self, if_true]
      rw [eqvT]
      have sp : swp a b p = q ∧ swp a b q = p := by
        rcases hA with e | e <;> rcases hB with e' | e'
        · exact absurd (e.trans e'.symm) hab
        · subst e; subst e'; exact ⟨swp_l, swp_r⟩
        · subst e; subst e'; exact ⟨swp_r, swp_l⟩
        · exact absurd (e.trans e'.symm) hab
      rw [sp.1, sp.2]
      by_cases hlt : p < q
      · have hge : ¬ q < p := by (first | assumption | decide | exact le0 (by assumption) (by decide) | exact le1 (by assumption) (by decide) | exact le2 (by assumption) (by assumption) (by decide) | lia | omega)
        rw [idm _ fun l hl => perm_lt hlt (h2 l hl), rvm _ fun l hl => perm_ge hge (h2 l hl)]
        simp only [if_pos hlt, if_neg hge, true_and, and_self]
        exact eq_comm
      · have hlt' : q < p := by (first | assumption | decide | exact le0 (by assumption) (by decide) | exact le1 (by assumption) (by decide) | exact le2 (by assumption) (by assumption) (by decide) | lia | omega)
        rw [idm _ fun l hl => perm_lt hlt' (h2 l hl), rvm _ fun l hl => perm_ge hlt (h2 l hl)]
        simp only [if_pos hlt', if_neg hlt, true_and, and_self]
    · have dB : decide (b ∈ [p, q]) = false := by simpa using hB
      rw [dA, dB]
      simp only [Bool.and_false, Bool.false_eq_true, if_false, Bool.not_true, Bool.false_and, iff_false]
      exact fun ⟨h, _⟩ => hB ((tab5 hab hpq ha hb hp5 hq5 h).mp hA)
  · have dA : decide (a ∈ [p, q]) = false := by simpa using hA
    by_cases hB : b = p ∨ b = q
    · have dB : decide (b ∈ [p, q]) = true := by simpa using hB
      rw [dA, dB]
      simp only [Bool.false_and, Bool.false_eq_true, if_false, Bool.not_true, Bool.and_false, iff_false]
      exact fun ⟨h, _⟩ => hA ((tab5 hab hpq ha hb hp5 hq5 h).mpr hB)
    · have dB : decide (b ∈ [p, q]) = false := by simpa using hB
      rw [dA, dB]
      rw [swp_o (v := p) (fun e => hA (.inl e.symm)) (fun e => hB (.inl e.symm)), swp_o (v := q) (fun e => hA (.inr e.symm)) (fun e => hB (.inr e.symm))]
      simp
theorem lin_rest_enc {l m : Lin} (h : l.name = m.name) : l.enc = m.enc ↔ l.rest = m.rest := by
  unfold Lin.enc Lin.rest
  rw [h]
  simp
theorem form_alike {t : Told} (ht : t.Ok) (hm : t.More) (hab : a ≠ b) (ha : a < 5) (hb : b < 5) : formOf t = formOf (t.ren (swp a b)) ↔ alikeLaw t a b = true := by
  have e0 : formOf t = formOf (t.ren (swp a b)) ↔ t.pl = (t.ren (swp a b)).pl := by
    unfold formOf
    rw [ren_name]
    simp
  rw [e0]
  have vars := ht.vars
  cases t with
  | lin l => exact lin_alike ha hb fun v hv => vars (.V l.vars) (by simp [Told.parts, Lin.parts]) v hv
  | times u v w => exact alike_times hab ha hb (vars (.v u) (by simp [Told.parts]) u (by simp [Part.vars])) (vars (.v v) (by simp [Told.parts]) v (by simp [Part.vars])) w
  | xor u v w => exact alike_xor u v w
  | mx r z => exact alike_mx hab ha hb r z
  | nvalue r z => exact alike_nvalue hab r z
  | count r z => exact alike_count hab r z
  | cumul r c d => exact alike_cumul r c d
  | clause r q => exact alike_clause ha hb r q
  | element i r z => exact alike_element hab i r z
  | table p q rows => exact alike_table hab ha hb (vars (.V [p, q]) (by simp [Told.parts]) p (by simp [Part.vars])) (vars (.V [p, q]) (by simp [Told.parts]) q (by simp [Part.vars])) hm.1 (base_facts hm.2 p q).2.1
  | incr r => exact alike_incr hab r
  | alldiff r => exact alike_alldiff r
  | reif z l =>
    show ([AV.int _, l.plain.enc] : List AV) = [AV.int _, (l.ren (swp a b)).plain.enc] ↔ (!decide ((z : Int) = (a : Int) ∨ (z : Int) = (b : Int)) && sumAlike l a b) = true
    simp only [List.cons.injEq, and_true, AV.int.injEq, Bool.and_eq_true, Bool.not_eq_true', decide_eq_false_iff_not]
    rw [lin_rest_enc (l := l.plain) (m := (l.ren (swp a b)).plain) rfl, ← lin_alike ha hb fun v hv => vars (.t l) (by simp [Told.parts]) v hv]
    refine and_congr_left fun _ => ?_
    have e : ∀ x y : Nat, ((x : Int) = (y : Int)) ↔ x = y := fun x y => ⟨Int.ofNat.inj, fun h => by rw [h]⟩
    rw [e, e, e, eq_comm, swp_fix hab]
    exact not_or.symm
end

-- part P5
section
variable {a b : Nat}
theorem Ok.ren {t : Told} (ht : t.Ok) (ha : a < 5) (hb : b < 5) : (t.ren (swp a b)).Ok := by
  refine ⟨fun l hl => ?_, fun p hp y hy => ?_, fun p hp => ?_⟩
  · cases t with
    | lin l0 =>
      rcases hl with e | ⟨x, e⟩
      · cases e; exact ht.lin l0 (.inl rfl)
      · cases e
    | reif x0 l0 =>
      rcases hl with e | ⟨x, e⟩
      · cases e
      · cases e; exact ht.lin l0 (.inr ⟨_, rfl⟩)
    | _ => rcases hl with e | ⟨x, e⟩ <;> cases e
  · rw [ren_parts] at hp
    obtain ⟨q, hq, rfl⟩ := List.mem_map.mp hp
    have hv := ht.vars q hq
    have e : (q.ren (swp a b)).vars = q.vars.map (swp a b) := by cases q <;> rfl
    rw [e] at hy
    obtain ⟨z, hz, rfl⟩ := List.mem_map.mp hy
    exact swp_lt ha hb (hv z hz)
  · rw [ren_parts] at hp
    obtain ⟨q, hq, rfl⟩ := List.mem_map.mp hp
    have e : (q.ren (swp a b)).vars = q.vars.map (swp a b) := by cases q <;> rfl
    rw [e, List.length_map]
    exact ht.few q hq
theorem More.ren {t : Told} (hm : t.More) : (t.ren (swp a b)).More := by
  cases t with
  | table p q rows => exact ⟨fun e => hm.1 (swp_inj e), hm.2⟩
  | cumul r c d => exact ⟨by have := hm.1; simpa using this, by have := hm.2.1; simpa using this, by have := hm.2.2; simpa using this⟩
  | nvalue r z => show 0 < (r.map _).length; rw [List.length_map]; exact hm
  | count r z => show 0 < (r.map _).length; rw [List.length_map]; exact hm
  | alldiff r => show 0 < (r.map _).length; rw [List.length_map]; exact hm
  | _ => trivial
theorem pureI (l : List Int) : avPureL (l.map .int) = true := by
  induction l with
  | nil => rfl
  | cons x l ih => simp only [List.map_cons, avPureL, avPure, Bool.true_and]; exact ih
theorem pureApp {l m : List AV} (h1 : avPureL l = true) (h2 : avPureL m = true) : avPureL (l ++ m) = true := by
  induction l with
  | nil => exact h2
  | cons x l ih =>
    simp only [List.cons_append, avPureL, Bool.and_eq_true] at h1 ⊢
    exact ⟨h1.1, ih h1.2⟩
theorem pure_name {x : Str} (h : x ∈ names) : avPure (.str x) = true :=
  List.all_eq_true.mp (show (names.all fun x => avPure (.str x)) = true by decide +kernel) x h
theorem form_pure {t : Told} (ht : t.Ok) : avPure (formOf t) = true := by
  show (avPure (.str t.name) && avPureL t.pl) = true
  rw [pure_name ht.name, Bool.true_and]
  have hI : ∀ l : List Int, avPureL (avI l) = true := pureI
  have hT : ∀ l : List Int, avPure (tupI l) = true := fun l => by show avPureL (l.map .int) = true; exact pureI l
  have hp : ∀ l : Lin, avPureL l.rest = true := fun l => by
    show (avPureL (avI l.coefs) && (avPureL (avN l.vars) && (true && true))) = true
    rw [hI, pureN]; rfl
  cases t with
  | lin l => exact hp l.plain
  | reif z l =>
    show (true && ((avPure (.str l.name) && avPureL l.plain.rest) && true)) = true
    rw [hp, pure_name (lin_names (ht.lin l (.inr ⟨_, rfl⟩)))]; rfl
  | times u v w => rfl
  | xor u v w => exact pureI _
  | mx r z => show (avPureL (avN (sset r)) && (true && true)) = true; rw [pureN]; rfl
  | nvalue r z => show (avPure (tupI _) && (true && true)) = true; rw [hT]; rfl
  | count r z => show (avPure (tupI _) && (true && (true && true))) = true; rw [hT]; rfl
  | cumul r c d => exact pureApp (pureT _) rfl
  | clause r q => show (avPureL (avN (sset r)) && (avPureL (avN (sset q)) && true)) = true; rw [pureN, pureN]; rfl
  | element i r z => show (true && (avPureL (avN r) && (true && true))) = true; rw [pureN]; rfl
  | table p q rows => show (avPureL (avN _) && (avPureL ((sortT _).map tupI) && true)) = true; rw [pureN, pureT]; rfl
  | incr r => show (avPureL (avN r) && true) = true; rw [pureN]; rfl
  | alldiff r => show (avPure (tupI _) && (avPure (.str "values") && true)) = true; rw [hT]; decide +kernel
theorem depC {a : AV} {l : List AV} {k : Nat} (h : (toPy a).depth ≤ k) (h' : PyData.depthAll (toPyL l) ≤ k) : PyData.depthAll (toPyL (a :: l)) ≤ k := Nat.max_le.mpr ⟨h, h'⟩
theorem dep0 {k : Nat} : PyData.depthAll (toPyL []) ≤ k := Nat.zero_le _
theorem depi {i : Int} {k : Nat} : (toPy (.int i)).depth ≤ k := Nat.zero_le _
theorem deps {x : Str} {k : Nat} : (toPy (.str x)).depth ≤ k := Nat.zero_le _
theorem dept {l : List AV} {k : Nat} (h : PyData.depthAll (toPyL l) ≤ k) : (toPy (.tup l)).depth ≤ k + 1 := Nat.succ_le_succ h
theorem depU {l : List AV} {j k : Nat} (h : PyData.depthAll (toPyL l) ≤ j) (hj : j ≤ k) : PyData.depthAll (toPyL l) ≤ k := Nat.le_trans h hj
theorem depApp {l m : List AV} {k : Nat} (h : PyData.depthAll (toPyL l) ≤ k) (h' : PyData.depthAll (toPyL m) ≤ k) : PyData.depthAll (toPyL (l ++ m)) ≤ k := by
  induction l with
  | nil => exact h'
  | cons x l ih => exact depC (Nat.le_trans (Nat.le_max_left _ _) h) (ih (Nat.le_trans (Nat.le_max_right _ _) h))
theorem rest_dep (l : Lin) : PyData.depthAll (toPyL l.rest) ≤ 2 := depC (dept (k := 1) (depI l.coefs)) (depC (dept (k := 1) (depN l.vars)) (depC depi dep0))
theorem form_dep (t : Told) : (toPy (formOf t)).depth ≤ 4 := by
  refine dept (k := 3) (depC deps ?_)
  have hN : ∀ l, (toPy (.tup (avN l))).depth ≤ 3 := fun l => dept (k := 2) (depU (depN l) (by decide))
  have hI : ∀ l, (toPy (tupI l)).depth ≤ 3 := fun l => dept (k := 2) (depU (depI l) (by decide))
  have hT : ∀ l : List (List Int), PyData.depthAll (toPyL (l.map tupI)) ≤ 3 := fun l => depU (depT l) (by decide)
  cases t with
  | lin l => exact depU (rest_dep l.plain) (by decide)
  | reif z l => exact depC depi (depC (dept (k := 2) (depC deps (rest_dep l.plain))) dep0)
  | times u v w => exact depC depi (depC depi (depC depi dep0))
  | xor u v w => exact depU (depI _) (by decide)
  | mx r z => exact depC (hN _) (depC depi dep0)
  | nvalue r z => exact depC (hI _) (depC depi dep0)
  | count r z => exact depC (hI _) (depC depi (depC depi dep0))
  | cumul r c d => exact depApp (hT _) (depC depi dep0)
  | clause r q => exact depC (hN _) (depC (hN _) dep0)
  | element i r z => exact depC depi (depC (hN _) (depC depi dep0))
  | table p q rows => exact depC (hN _) (depC (dept (k := 2) (depT _)) dep0)
  | incr r => exact depC (hN _) dep0
  | alldiff r => exact depC (hI _) (depC deps dep0)
theorem forms_dep (us : List Told) : PyData.depth (.list (toPyL (us.map formOf))) ≤ 10 := by
  have : PyData.depthAll (toPyL (us.map formOf)) ≤ 4 := by
    induction us with
    | nil => exact Nat.zero_le _
    | cons u us ih => exact depC (form_dep u) ih
  exact Nat.le_trans (Nat.succ_le_succ this) (by decide)
theorem name_antisymm {t u : Told} (h1 : ltN t u = false) (h2 : ltN u t = false) : t.name = u.name := by
  simp only [ltN, decide_eq_false_iff_not] at h1 h2
  have e : t.name.cps.toList = u.name.cps.toList := List.le_antisymm (List.not_lt.mp h2) (List.not_lt.mp h1)
  have : t.name.cps = u.name.cps := Array.toList_inj.mp e
  cases ht' : t.name; cases hu' : u.name
  rw [ht', hu'] at this
  simp only at this
  rw [this]
theorem name_inj {L : List Told} (hn : (L.map Told.name).Nodup) {t u : Told} (ht : t ∈ L) (hu : u ∈ L) (e2 : t.name = u.name) : t = u := by
  obtain ⟨i, hi, rfl⟩ := List.getElem_of_mem ht
  obtain ⟨j, hj', rfl⟩ := List.getElem_of_mem hu
  have hij : i = j := (List.getElem_inj (h₀ := by simpa using hi) (h₁ := by simpa using hj') hn).mp (by simpa using e2)
  subst hij; rfl
theorem sortN_map {L : List Told} {g : Told → Told} (hg : ∀ t, (g t).name = t.name) (hn : (L.map Told.name).Nodup) : sortN (L.map g) = (sortN L).map g := by
  have hl : ∀ t u, ltN (g t) (g u) = ltN t u := fun t u => by unfold ltN; rw [hg, hg]
  have hn' : ((L.map g).map Told.name).Nodup := by
    have e : (L.map g).map Told.name = L.map Told.name := by rw [List.map_map]; exact List.map_congr_left fun t _ => hg t
    rw [e]; exact hn
  refine uniq_gen (R := fun a b => ltN b a = false) ((sortN_perm _).trans ((sortN_perm L).symm.map g)) (sortN_pw _) ?_ ?_
  · rw [List.pairwise_map]
    exact (sortN_pw L).imp fun {x y} h => by rw [hl]; exact h
  · intro x hx y hy h1 h2
    exact name_inj hn' ((sortN_perm _).mem_iff.mp hx) ((sortN_perm _).mem_iff.mp hy) (name_antisymm h2 h1)
theorem ren_id {t : Told} {f : Nat → Nat} (h : ∀ p ∈ t.parts, ∀ y ∈ p.vars, f y = y) : t.ren f = t := by
  have hm : ∀ r : List Nat, (∀ y ∈ r, f y = y) → r.map f = r := fun r hr => map_fix.mpr hr
  cases t with
  | lin l =>
    have this : l.vars.map f = l.vars := hm _ (h (.V l.vars) (by simp [Told.parts, Lin.parts]))
    simp only [Told.ren, Lin.ren, this]
  | reif z l =>
    have h1 := h (.v z) (by simp [Told.parts]) z (by simp [Part.vars])
    have this : l.vars.map f = l.vars := hm _ (h (.t l) (by simp [Told.parts]))
    simp only [Told.ren, Lin.ren, this, h1]
  | times u v w =>
    have h1 := h (.v u) (by simp [Told.parts]) u (by simp [Part.vars])
    have h2 := h (.v v) (by simp [Told.parts]) v (by simp [Part.vars])
    have h3 := h (.v w) (by simp [Told.parts]) w (by simp [Part.vars])
    simp only [Told.ren, h1, h2, h3]
  | xor u v w =>
    have h1 := h (.v u) (by simp [Told.parts]) u (by simp [Part.vars])
    have h2 := h (.v v) (by simp [Told.parts]) v (by simp [Part.vars])
    have h3 := h (.v w) (by simp [Told.parts]) w (by simp [Part.vars])
    simp only [Told.ren, h1, h2, h3]
  | mx r z =>
    have h1 := h (.v z) (by simp [Told.parts]) z (by simp [Part.vars])
    have this : r.map f = r := hm _ (h (.V r) (by simp [Told.parts]))
    simp only [Told.ren, this, h1]
  | nvalue r z =>
    have h1 := h (.v z) (by simp [Told.parts]) z (by simp [Part.vars])
    have this : r.map f = r := hm _ (h (.V r) (by simp [Told.parts]))
    simp only [Told.ren, this, h1]
  | count r z =>
    have h1 := h (.v z) (by simp [Told.parts]) z (by simp [Part.vars])
    have this : r.map f = r := hm _ (h (.V r) (by simp [Told.parts]))
    simp only [Told.ren, this, h1]
  | cumul r c d =>
    have this : r.map f = r := hm _ (h (.V r) (by simp [Told.parts]))
    simp only [Told.ren, this]
  | clause r q =>
    have this : r.map f = r := hm _ (h (.V r) (by simp [Told.parts]))
    have h2 : q.map f = q := hm _ (h (.V q) (by simp [Told.parts]))
    simp only [Told.ren, this, h2]
  | element i r z =>
    have h1 := h (.v z) (by simp [Told.parts]) z (by simp [Part.vars])
    have h2 := h (.v i) (by simp [Told.parts]) i (by simp [Part.vars])
    have this : r.map f = r := hm _ (h (.V r) (by simp [Told.parts]))
    simp only [Told.ren, this, h1, h2]
  | table p q rows =>
    have h1 := h (.V [p, q]) (by simp [Told.parts]) p (by simp [Part.vars])
    have h2 := h (.V [p, q]) (by simp [Told.parts]) q (by simp [Part.vars])
    simp only [Told.ren, h1, h2]
  | incr r =>
    have this : r.map f = r := hm _ (h (.V r) (by simp [Told.parts]))
    simp only [Told.ren, this]
  | alldiff r =>
    have this : r.map f = r := hm _ (h (.V r) (by simp [Told.parts]))
    simp only [Told.ren, this]
theorem untouched {t : Told} (ht : t.Ok) (h : touchB (swpT a b) t = false) : t.ren (swp a b) = t := by
  have h0 : (t.vs.filter fun (x : Nat) => (getI (swpT a b) (x : Int)).isSome).length = 0 := by
    simp only [touchB, decide_eq_false_iff_not] at h
    (first | assumption | decide | exact le0 (by assumption) (by decide) | exact le1 (by assumption) (by decide) | exact le2 (by assumption) (by assumption) (by decide) | lia | omega)
  have h1 := List.filter_eq_nil_iff.mp (List.length_eq_zero_iff.mp h0)
  refine ren_id fun p hp y hy => ?_
  have hy5 := ht.vars p hp y hy
  have hv : y ∈ t.vs := by
    refine mem_sset.mpr ⟨hy5, List.mem_flatMap.mpr ⟨p, hp, ?_⟩⟩
    cases p with
    | t l => exact mem_sset.mpr ⟨hy5, hy⟩
    | _ => exact hy
  have := h1 y hv
  rw [swpT_some] at this
  simp only [Bool.or_eq_true, decide_eq_true_eq, not_or] at this
  exact swp_o this.1 this.2
theorem pureL_of {us : List Told} (h : ∀ u ∈ us, u.Ok) : avPureL (us.map formOf) = true := by
  induction us with
  | nil => rfl
  | cons u us ih =>
    simp only [List.map_cons, avPureL, Bool.and_eq_true]
    exact ⟨form_pure (h u (.head _)), ih fun v hv => h v (.tail _ hv)⟩

theorem alike_all {ts : List Told} (hab : a ≠ b) (ha : a < 5) (hb : b < 5) (hok : ∀ t ∈ ts, t.Ok ∧ t.More) (hn : (ts.map Told.name).Nodup) : alikeB (swpT a b) (swp a b) ts = ts.all fun t => alikeLaw t a b := by
  have hnF : ((ts.filter (touchB (swpT a b))).map Told.name).Nodup := List.Pairwise.sublist (List.Sublist.map _ (List.filter_sublist ..)) hn
  unfold alikeB
  rw [sortN_map (g := Told.ren (swp a b)) (fun t => ren_name _ t) hnF]
  have sub : ∀ t ∈ sortN (ts.filter (touchB (swpT a b))), t ∈ ts := fun t ht => (List.mem_filter.mp ((sortN_perm _).mem_iff.mp ht)).1
  rw [Bool.eq_iff_iff, eqv_pyL (pureL_of fun u hu => (hok u (sub u hu)).1) (pureL_of fun u hu => by
    obtain ⟨v, hv, rfl⟩ := List.mem_map.mp hu
    exact Ok.ren (hok v (sub v hv)).1 ha hb), List.map_map, List.map_inj_left, List.all_eq_true]
  constructor
  · intro h t ht
    rw [← form_alike (hok t ht).1 (hok t ht).2 hab ha hb]
    cases hT : touchB (swpT a b) t with
    | true => exact h t ((sortN_perm _).mem_iff.mpr (List.mem_filter.mpr ⟨ht, hT⟩))
    | false => rw [untouched (hok t ht).1 hT]
  · intro h t ht
    exact (form_alike (hok t (sub t ht)).1 (hok t (sub t ht)).2 hab ha hb).mpr (h t (sub t ht))
end
section
variable {C : Cx} {n : Nat} {σ : List AO} {Q : AV → List AO → Prop}
theorem c_exch {ts : List Told} {a b k : Nat} (hC : C.Ok recs) (hab : a ≠ b) (ha : a < 5) (hb : b < 5) (hk : σ[k]? = some (.list (ts.map Told.enc))) (hz : ts.length ≤ 5)
    (hok : ∀ t ∈ ts, t.Ok ∧ t.More) (hn : (ts.map Told.name).Nodup)
    (h : ∀ σ', Keep [] σ σ' → Q (.bool (ts.all fun t => alikeLaw t a b)) σ') : CallF C (n + 7) "exchanged" [.ref k, .int (a : Int), .int (b : Int)] σ Q := by
  refine c_exchanged hC hab hk hz hok (fun t ht => ⟨Ok.ren (hok t ht).1 ha hb, More.ren (hok t ht).2⟩) hn (fun t ht => ⟨form_pure (hok t ht).1, form_pure (Ok.ren (hok t ht).1 ha hb)⟩) forms_dep fun σ' hK => ?_
  rw [alike_all hab ha hb hok hn]
  exact h σ' hK
end

-- part W31

noncomputable def domA (i : Nat) : AV := if i < 2 then .tup [.tup [.int 0, .int 1]] else .tup [.tup [.int 0, .int 0], .tup [.int 2, .int 2]]
noncomputable def sameD (D : List Nat) (x y : Nat) : Bool := PyData.eqv (toPy (domA (D.getD x 0))) (toPy (domA (D.getD y 0)))
theorem domA_pure (i : Nat) : avPure (domA i) = true := by unfold domA; split <;> rfl
theorem domA_dep (i : Nat) : (toPy (domA i)).depth ≤ 10 := by unfold domA; split <;> exact Nat.le_of_ble_eq_true rfl
noncomputable def readR (D : List Nat) (ts : List Told) (x y : Nat) : Bool := sameD D x y && ts.all fun t => alikeLaw t x y

noncomputable def put (R : Nat → Nat → Bool) (x : Nat) : List (List Nat) → List (List Nat)
  | [] => [[x]]
  | l :: r => if R (l.headD 0) x then (l ++ [x]) :: r else l :: put R x r
noncomputable def lotsOf (R : Nat → Nat → Bool) (cand : List Nat) : List (List Nat) := cand.foldl (fun L x => put R x L) []
theorem put_none {R : Nat → Nat → Bool} {x : Nat} {P : List (Nat × List Nat)} (h : P.filter (fun p => R (p.2.headD 0) x) = []) : put R x (P.map (·.2)) = P.map (·.2) ++ [[x]] := by
  induction P with
  | nil => rfl
  | cons p P ih =>
    rw [List.filter_cons] at h
    cases hp : R (p.2.headD 0) x with
    | true => rw [hp] at h; simp at h
    | false =>
      rw [hp] at h
      simp only [Bool.false_eq_true, if_false] at h
      simp only [List.map_cons, put, hp, Bool.false_eq_true, if_false, ih h, List.cons_append]
theorem put_some {R : Nat → Nat → Bool} {x : Nat} {P F : List (Nat × List Nat)} {q : Nat × List Nat} (h : P.filter (fun p => R (p.2.headD 0) x) = q :: F) :
    ∃ P1 P2, P = P1 ++ q :: P2 ∧ put R x (P.map (·.2)) = P1.map (·.2) ++ (q.2 ++ [x]) :: P2.map (·.2) := by
  induction P with
  | nil => cases h
  | cons p P ih =>
    rw [List.filter_cons] at h
    cases hp : R (p.2.headD 0) x with
    | true =>
      rw [hp] at h
      simp only [if_true, List.cons.injEq] at h
      obtain ⟨rfl, _⟩ := h
      exact ⟨[], P, rfl, by simp only [List.map_cons, put, hp, if_true]; rfl⟩
    | false =>
      rw [hp] at h
      simp only [Bool.false_eq_true, if_false] at h
      obtain ⟨P1, P2, rfl, e⟩ := ih h
      exact ⟨p :: P1, P2, rfl, by simp only [List.map_cons, put, hp, Bool.false_eq_true, if_false, e, List.cons_append]⟩

structure Lots (σ σi : List AO) (kl kc : Nat) (cand : List Nat) (i : Nat) (P : List (Nat × List Nat)) : Prop where
  keep : Keep [] σ σi
  lots : σi[kl]? = some (.list (P.map fun p => .ref p.1))
  each : ∀ p ∈ P, σi[p.1]? = some (.list (avN p.2))
  nodup : (P.map (·.1)).Nodup
  low : ∀ p ∈ P, σ.length ≤ p.1 ∧ p.1 ≠ kl ∧ p.1 ≠ kc
  src : σi[kc]? = some (.list (avN cand))
  few : P.length ≤ i
  fill : ∀ p ∈ P, p.2 ≠ [] ∧ p.2.length ≤ i ∧ ∀ y ∈ p.2, y ∈ cand.take i
theorem Lots.go {σ σi σj : List AO} {kl kc i : Nat} {cand : List Nat} {P : List (Nat × List Nat)} (L : Lots σ σi kl kc cand i P) (K : Keep [] σi σj) : Lots σ σj kl kc cand i P :=
  ⟨L.keep.trans K, K.get L.lots (by first | exact nn | exact lb rfl | simp), fun p hp => K.get (L.each p hp) (by first | exact nn | exact lb rfl | simp), L.nodup, L.low, K.get L.src (by first | exact nn | exact lb rfl | simp), L.few, L.fill⟩
theorem avN_snoc (l : List Nat) (x : Nat) : avN (l ++ [x]) = avN l ++ [.int (x : Int)] := by simp [avN]
theorem set_ne {σ : List AO} {k j : Nat} {o : AO} {r : Option AO} (h : k ≠ j) (e : σ[j]? = r) : (σ.set k o)[j]? = r := by rw [List.getElem?_set_ne h]; exact e
theorem Lots.into {σ σi : List AO} {kl kc i x : Nat} {cand : List Nat} {P1 P2 : List (Nat × List Nat)} {q : Nat × List Nat} (L : Lots σ σi kl kc cand i (P1 ++ q :: P2)) (hx : cand[i]? = some x) :
    Lots σ (σi.set q.1 (.list (avN q.2 ++ [.int (x : Int)]))) kl kc cand (i + 1) (P1 ++ (q.1, q.2 ++ [x]) :: P2) := by
  have hq : q ∈ P1 ++ q :: P2 := by simp
  have lq := L.low q hq
  have tk : cand.take (i + 1) = cand.take i ++ [x] := by rw [List.take_add_one, hx]; rfl
  have nd := L.nodup
  rw [List.map_append, List.map_cons, List.nodup_append] at nd
  have n1 : ∀ p ∈ P1, p.1 ≠ q.1 := fun p hp => nd.2.2 _ (List.mem_map_of_mem hp) _ (by first | exact nn | exact lb rfl | simp)
  have n2 : ∀ p ∈ P2, p.1 ≠ q.1 := fun p hp e => (List.nodup_cons.mp nd.2.1).1 (e ▸ List.mem_map_of_mem hp)
  refine ⟨L.keep.set (.inl lq.1), ?_, fun p hp => ?_, ?_, fun p hp => ?_, set_ne lq.2.2 L.src, ?_, fun p hp => ?_⟩
  · refine set_ne lq.2.1 ?_
    have := L.lots
    simpa using this
  · rcases List.mem_append.mp hp with h | h
    · exact set_ne (Ne.symm (n1 p h)) (L.each p (List.mem_append_left _ h))
    · rcases List.mem_cons.mp h with h | h
      · subst h
        simp only
        rw [get_set (L.each q hq), avN_snoc]
      · exact set_ne (Ne.symm (n2 p h)) (L.each p (List.mem_append_right _ (.tail _ h)))
  · have := L.nodup
    simpa using this
  · rcases List.mem_append.mp hp with h | h
    · exact L.low p (List.mem_append_left _ h)
    · rcases List.mem_cons.mp h with h | h
      · subst h; exact lq
      · exact L.low p (List.mem_append_right _ (.tail _ h))
  · have := L.few
    simp only [List.length_append, List.length_cons] at this ⊢
    (first | assumption | decide | exact le0 (by assumption) (by decide) | exact le1 (by assumption) (by decide) | exact le2 (by assumption) (by assumption) (by decide) | lia | omega)
  · have wide : ∀ p ∈ P1 ++ q :: P2, p.2 ≠ [] ∧ p.2.length ≤ i + 1 ∧ ∀ y ∈ p.2, y ∈ cand.take (i + 1) := fun p hp => by
      obtain ⟨f1, f2, f3⟩ := L.fill p hp
      exact ⟨f1, by (first | assumption | decide | exact le0 (by assumption) (by decide) | exact le1 (by assumption) (by decide) | exact le2 (by assumption) (by assumption) (by decide) | lia | omega), fun y hy => by rw [tk]; exact List.mem_append_left _ (f3 y hy)⟩
    rcases List.mem_append.mp hp with h | h
    · exact wide p (List.mem_append_left _ h)
    · rcases List.mem_cons.mp h with h | h
      · subst h
        obtain ⟨f1, f2, f3⟩ := L.fill q hq
        refine ⟨by first | exact lb rfl | simp, by simp; (first | assumption | decide | exact le0 (by assumption) (by decide) | exact le1 (by assumption) (by decide) | exact le2 (by assumption) (by assumption) (by decide) | lia | omega), fun y hy => ?_⟩
        rw [tk]
        rcases List.mem_append.mp hy with hy | hy
        · exact List.mem_append_left _ (f3 y hy)
        · exact List.mem_append_right _ hy
      · exact wide p (List.mem_append_right _ (.tail _ h))
theorem Lots.fresh {σ σi : List AO} {kl kc i x : Nat} {cand : List Nat} {P : List (Nat × List Nat)} (L : Lots σ σi kl kc cand i P) (hx : cand[i]? = some x) (hkl : σ.length ≤ kl) (hne : kl ≠ kc) :
    Lots σ ((σi ++ [AO.list [.int (x : Int)]]).set kl (.list ((P.map fun p => AV.ref p.1) ++ [.ref σi.length]))) kl kc cand (i + 1) (P ++ [(σi.length, [x])]) := by
  have tk : cand.take (i + 1) = cand.take i ++ [x] := by rw [List.take_add_one, hx]; rfl
  have K1 : Keep [] σi (σi ++ [AO.list [.int (x : Int)]]) := Keep.refl.app
  have lkl := get_lt L.lots
  have lkc := get_lt L.src
  refine ⟨(L.keep.trans K1).set (.inl hkl), ?_, fun p hp => ?_, ?_, fun p hp => ?_, set_ne hne (K1.get L.src (by first | exact nn | exact lb rfl | simp)), ?_, fun p hp => ?_⟩
  · rw [get_set (K1.get L.lots (by first | exact nn | exact lb rfl | simp)), List.map_append]; rfl
  · rcases List.mem_append.mp hp with h | h
    · exact set_ne (Ne.symm (L.low p h).2.1) (K1.get (L.each p h) (by first | exact nn | exact lb rfl | simp))
    · simp at h; subst h
      refine set_ne (by simp only; (first | assumption | decide | exact le0 (by assumption) (by decide) | exact le1 (by assumption) (by decide) | exact le2 (by assumption) (by assumption) (by decide) | lia | omega)) ?_
      rw [get_app]; rfl
  · rw [List.map_append, List.nodup_append]
    refine ⟨L.nodup, by simp, fun y hy z hz e => ?_⟩
    simp at hz; subst hz; subst e
    obtain ⟨p, hp, e⟩ := List.mem_map.mp hy
    have := get_lt (L.each p hp)
    (first | assumption | decide | exact le0 (by assumption) (by decide) | exact le1 (by assumption) (by decide) | exact le2 (by assumption) (by assumption) (by decide) | lia | omega)
  · rcases List.mem_append.mp hp with h | h
    · exact L.low p h
    · simp at h; subst h
      have := L.keep.len
      simp only
      exact ⟨this, by (first | assumption | decide | exact le0 (by assumption) (by decide) | exact le1 (by assumption) (by decide) | exact le2 (by assumption) (by assumption) (by decide) | lia | omega), by (first | assumption | decide | exact le0 (by assumption) (by decide) | exact le1 (by assumption) (by decide) | exact le2 (by assumption) (by assumption) (by decide) | lia | omega)⟩
  · have := L.few; simp; (first | assumption | decide | exact le0 (by assumption) (by decide) | exact le1 (by assumption) (by decide) | exact le2 (by assumption) (by assumption) (by decide) | lia | omega)
  · rcases List.mem_append.mp hp with h | h
    · obtain ⟨f1, f2, f3⟩ := L.fill p h
      exact ⟨f1, by (first | assumption | decide | exact le0 (by assumption) (by decide) | exact le1 (by assumption) (by decide) | exact le2 (by assumption) (by assumption) (by decide) | lia | omega), fun y hy => by rw [tk]; exact List.mem_append_left _ (f3 y hy)⟩
    · simp at h; subst h
      refine ⟨by first | exact lb rfl | simp, by simp, fun y hy => ?_⟩
      rw [tk]; exact List.mem_append_right _ hy
section
variable {C : Cx} {n : Nat} {σ : List AO} {Q : AV → List AO → Prop}
theorem c_var_lots {ts : List Told} {D late : List Nat} {k kd : Nat} (hC : C.Ok recs) (hk : σ[k]? = some (.list (ts.map Told.enc))) (hkd : σ[kd]? = some (.list (D.map domA))) (hD : D.length ≤ 5) (hz : ts.length ≤ 5)
    (hok : ∀ t ∈ ts, t.Ok ∧ t.More) (hn : (ts.map Told.name).Nodup)
    (h : ∀ σ' k', Keep [] σ σ' → σ'[k']? = some (.list (((lotsOf (readR D ts) ((List.range D.length).filter fun x => !decide (x ∈ late))).filter fun l => decide (1 < l.length)).map fun l => .tup (avN l))) → Q (.ref k') σ') : CallF C (n + 8) "var_lots" [.ref k, .ref kd, .tup (avN late)] σ Q := by
  refine callF hC d11_mem d11_ok rfl ?_
  refine ex_cons ?_
  repeat ktr_rel
  refine ex_for ?_ (fun _ _ => rfl)
  refine evi_list rfl ?_
  refine ev_comp ⟨rfl, by decide, rfl, rfl⟩ (fun _ _ => rfl) ?_
  refine evi_range hC rfl rfl rfl rfl ?_
  refine evB_len hC rfl ?_
  repeat ktr_rel
  have hK0 : Keep [] σ (σ ++ [AO.list []]) := Keep.refl.app
  refine cv_len_list (hK0.get hkd (by first | exact nn | exact lb rfl | simp)) (by first | exact map_le (by assumption) (by decide) | (rw [List.length_map]; (first | assumption | decide | exact le0 (by assumption) (by decide) | exact le1 (by assumption) (by decide) | exact le2 (by assumption) (by assumption) (by decide) | lia | omega))) ?_
  refine ⟨_, rfl, by rw [List.length_map]; (first | assumption | decide | exact le0 (by assumption) (by decide) | exact le1 (by assumption) (by decide) | exact le2 (by assumption) (by assumption) (by decide) | lia | omega), ?_⟩
  have eD : (D.map domA).length = D.length := List.length_map _
  rw [eD]
  refine comp_pure (X := []) (xs := List.range D.length) (enc := fun (v : Nat) => .int (v : Int)) (g := fun (v : Nat) => .int (v : Int)) (p := fun x => !decide (x ∈ late)) rfl (by simp; (first | assumption | decide | exact le0 (by assumption) (by decide) | exact le1 (by assumption) (by decide) | exact le2 (by assumption) (by assumption) (by decide) | lia | omega)) (fun _ _ => trivial) (fun x hx σj hj => ?_) (fun σj hj => ?_)
  · refine as_name rfl ?_
    show EvB _ _ _ _ _ _ _
    repeat ktr_rel
    refine cmp_notin_nats ?_
    cases hb : (!decide (x ∈ late)) with
    | true =>
      show EvE _ _ _ _ _ _ _
      repeat ktr_rel
      first | exact ⟨rfl, rfl, hj⟩ | exact ⟨rfl, hj⟩ | exact hj
    | false => first | exact ⟨rfl, hj⟩ | exact hj
  · refine ⟨_, _, rfl, get_app, ?_⟩
    have ec : ∃ cand, cand = (List.range D.length).filter fun x => !decide (x ∈ late) := ⟨_, rfl⟩
    obtain ⟨cand, ec⟩ := ec
    rw [← ec] at h ⊢
    have hcn : cand.Nodup := by rw [ec]; exact List.Pairwise.filter _ List.nodup_range
    have hcl : ∀ x ∈ cand, x < D.length := fun x hx => by rw [ec] at hx; exact List.mem_range.mp (List.mem_filter.mp hx).1
    have hcz : cand.length ≤ 5 := by
      rw [ec]
      have := List.length_filter_le (fun x => !decide (x ∈ late)) (List.range D.length)
      rw [List.length_range] at this
      (first | assumption | decide | exact le0 (by assumption) (by decide) | exact le1 (by assumption) (by decide) | exact le2 (by assumption) (by assumption) (by decide) | lia | omega)
    have hj1 : Keep [] σ (σj ++ [AO.list (avN cand)]) := (hK0.trans hj).app
    have hl1 : (σj ++ [AO.list (avN cand)])[σ.length]? = some (.list []) := (hj.app (o := AO.list (avN cand))).get get_app (by first | exact nn | exact lb rfl | simp)
    have hkc : σ.length < σj.length := by have := hj.len; simp at this; (first | assumption | decide | exact le0 (by assumption) (by decide) | exact le1 (by assumption) (by decide) | exact le2 (by assumption) (by assumption) (by decide) | lia | omega)
    have hc1 : (σj ++ [AO.list (avN cand)])[σj.length]? = some (.list (avN cand)) := get_app
    show ∃ Inv : Nat → List AO → Prop, Inv 0 (σj ++ [AO.list (avN cand)]) ∧ _
    generalize hkcd : σj.length = kc at *
    generalize hσ1 : σj ++ [AO.list (avN cand)] = σ1 at *
    refine ⟨fun i σi => ∃ P, Lots σ σi σ.length kc cand i P ∧ P.map (·.2) = lotsOf (readR D ts) (cand.take i), ⟨[], ⟨hj1, hl1, by simp, by simp, by simp, hc1, by simp, by simp⟩, rfl⟩, fun i σi hi => by obtain ⟨P, L, _⟩ := hi; exact L.src, fun i av σi hav hi => ?_, fun σf hf' => ?_⟩
    · rw [List.getElem?_map] at hav
      cases hx : cand[i]? with
      | none => rw [hx] at hav; cases hav
      | some x =>
      rw [hx] at hav
      simp only [Option.map_some, Option.some.injEq] at hav
      subst hav
      obtain ⟨P, L, hP⟩ := hi
      have hxm : x ∈ cand := List.mem_of_getElem? hx
      have hil : i < cand.length := (List.getElem?_eq_some_iff.mp hx).1
      have hxD := hcl x hxm
      have tk : cand.take (i + 1) = cand.take i ++ [x] := by rw [List.take_add_one, hx]; rfl
      have hxn : x ∉ cand.take i := by
        have : (cand.take (i + 1)).Nodup := List.Nodup.sublist (List.take_sublist _ _) hcn
        rw [tk, List.nodup_append] at this
        exact fun hm => this.2.2 x hm x (by first | exact nn | exact lb rfl | simp) rfl
      have hstep : lotsOf (readR D ts) (cand.take (i + 1)) = put (readR D ts) x (P.map (·.2)) := by
        rw [tk, hP]; unfold lotsOf; rw [List.foldl_append]; rfl
      refine as_name rfl ?_
      refine ex_cons (ex_assignC ⟨rfl, by decide, rfl, rfl⟩ (fun _ _ => rfl) rfl ?_)
      refine evi_list rfl ?_
      repeat ktr_rel
      refine ⟨_, _, rfl, L.lots, ?_⟩
      refine comp_pure (X := []) (xs := P) (enc := fun p => .ref p.1) (g := fun p => .ref p.1) (p := fun p => readR D ts (p.2.headD 0) x) rfl (by have := L.few; (first | assumption | decide | exact le0 (by assumption) (by decide) | exact le1 (by assumption) (by decide) | exact le2 (by assumption) (by assumption) (by decide) | lia | omega)) (fun σk hk' => hk'.get L.lots (by first | exact nn | exact lb rfl | simp)) (fun p hp σk hk' => ?_) (fun σk hk' => ?_)
      · refine as_name rfl ?_
        show EvB _ _ _ _ _ _ _
        obtain ⟨f1, f2, f3⟩ := L.fill p hp
        have hpe := hk'.get (L.each p hp) (by first | exact nn | exact lb rfl | simp)
        obtain ⟨y, r, hyr⟩ : ∃ y r, p.2 = y :: r := by
          cases hq : p.2 with
          | nil => exact absurd hq f1
          | cons y r => exact ⟨y, r, rfl⟩
        have hy : y ∈ cand.take i := f3 y (by rw [hyr]; simp)
        have hyD : y < D.length := hcl y (List.mem_of_mem_take hy)
        have hyx : y ≠ x := fun e => hxn (e ▸ hy)
        have hhd : p.2.headD 0 = y := by rw [hyr]; rfl
        rw [hhd]
        have gD : ∀ v, v < D.length → (D.map domA)[(v : Int).toNat]? = some (domA (D.getD v 0)) := fun v hv => by
          simp [List.getD_eq_getElem?_getD, hv]
        have hkdk := (L.keep.trans hk').get hkd (by first | exact nn | exact lb rfl | simp)
        refine eb_bool (eva_and ?_)
        repeat ktr_rel
        refine sub_list (a := .int (y : Int)) hpe (by (first | assumption | decide | exact le0 (by assumption) (by decide) | exact le1 (by assumption) (by decide) | exact le2 (by assumption) (by assumption) (by decide) | lia | omega)) (by rw [hyr]; rfl) ?_
        refine sub_list (a := domA (D.getD y 0)) hkdk (by (first | assumption | decide | exact le0 (by assumption) (by decide) | exact le1 (by assumption) (by decide) | exact le2 (by assumption) (by assumption) (by decide) | lia | omega)) (gD y hyD) ?_ (by omega)
        repeat ktr_rel
        refine sub_list (a := domA (D.getD x 0)) hkdk (by (first | assumption | decide | exact le0 (by assumption) (by decide) | exact le1 (by assumption) (by decide) | exact le2 (by assumption) (by assumption) (by decide) | lia | omega)) (gD x hxD) ?_ (by omega)
        refine cmp_eq (pyOf (domA_pure _)) (pyOf (domA_pure _)) (lay_py (domA_pure _)) (lay_py (domA_pure _)) (Nat.le_trans (Nat.min_le_left _ _) (domA_dep _)) ?_
        show match sameD D y x with | true => _ | false => _
        unfold readR
        cases hs : sameD D y x with
        | true =>
          refine eva_and (eb_value ?_)
          refine ev_callF hC d10_mem rfl rfl ?_
          repeat ktr_rel
          refine sub_list (a := .int (y : Int)) hpe (by (first | assumption | decide | exact le0 (by assumption) (by decide) | exact le1 (by assumption) (by decide) | exact le2 (by assumption) (by assumption) (by decide) | lia | omega)) (by rw [hyr]; rfl) ?_
          repeat ktr_rel
          refine c_exch (n := n) (ts := ts) hC hyx (by (first | assumption | decide | exact le0 (by assumption) (by decide) | exact le1 (by assumption) (by decide) | exact le2 (by assumption) (by assumption) (by decide) | lia | omega)) (by (first | assumption | decide | exact le0 (by assumption) (by decide) | exact le1 (by assumption) (by decide) | exact le2 (by assumption) (by assumption) (by decide) | lia | omega)) ((L.keep.trans hk').get hk (by first | exact nn | exact lb rfl | simp)) hz hok hn fun σ2 hK2 => ?_
          refine ⟨_, rfl, ?_⟩
          cases hal : ts.all fun t => alikeLaw t y x with
          | true =>
            refine eva_and0 ?_
            show EvE _ _ _ _ _ _ _
            repeat ktr_rel
            first | exact ⟨rfl, rfl, hk'.trans hK2⟩ | exact ⟨rfl, hk'.trans hK2⟩ | exact hk'.trans hK2
          | false => first | exact ⟨rfl, hk'.trans hK2⟩ | exact hk'.trans hK2
        | false => exact ⟨rfl, hk'⟩
      · have hk1 : Keep [] σi (σk ++ [AO.list ((P.filter fun p => readR D ts (p.2.headD 0) x).map fun p => AV.ref p.1)]) := hk'.app
        have hhome : (σk ++ [AO.list ((P.filter fun p => readR D ts (p.2.headD 0) x).map fun p => AV.ref p.1)])[σk.length]? = some (.list ((P.filter fun p => readR D ts (p.2.headD 0) x).map fun p => AV.ref p.1)) := get_app
        generalize hσ2 : σk ++ [AO.list ((P.filter fun p => readR D ts (p.2.headD 0) x).map fun p => AV.ref p.1)] = σ2 at *
        have L2 := L.go hk1
        have hfl : (P.filter fun p => readR D ts (p.2.headD 0) x).length ≤ 5 := by
          have := List.length_filter_le (fun p : Nat × List Nat => readR D ts (p.2.headD 0) x) P
          have := L.few
          (first | assumption | decide | exact le0 (by assumption) (by decide) | exact le1 (by assumption) (by decide) | exact le2 (by assumption) (by assumption) (by decide) | lia | omega)
        refine ex_cons ?_
        repeat ktr_rel
        refine evB_len hC rfl ?_
        repeat ktr_rel
        refine cv_len_list hhome (by first | exact map_le (by assumption) (by decide) | (rw [List.length_map]; (first | assumption | decide | exact le0 (by assumption) (by decide) | exact le1 (by assumption) (by decide) | exact le2 (by assumption) (by assumption) (by decide) | lia | omega))) ?_
        repeat ktr_rel
        refine cmp_gt_int ?_
        rw [List.length_map]
        cases hF : P.filter fun p => readR D ts (p.2.headD 0) x with
        | nil =>
          show ExS _ _ _ _ _ _ _
          have hput := put_none hF
          repeat ktr_rel
          refine ev_append rfl rfl (by decide) ?_
          repeat ktr_rel
          refine ⟨_, _, rfl, L2.lots, ?_⟩
          repeat ktr_rel
          have L3 := L2.fresh hx (Nat.le_refl _) (by (first | assumption | decide | exact le0 (by assumption) (by decide) | exact le1 (by assumption) (by decide) | exact le2 (by assumption) (by assumption) (by decide) | lia | omega))
          refine ⟨by first | exact lb rfl | simp, _, ((Keep.refl (X := [])).app).get L2.lots (by first | exact nn | exact lb rfl | simp), by rw [List.length_map]; have := L.few; (first | assumption | decide | exact le0 (by assumption) (by decide) | exact le1 (by assumption) (by decide) | exact le2 (by assumption) (by assumption) (by decide) | lia | omega), ?_⟩
          refine ex_nil (ex_nil ?_)
          refine ⟨rfl, skip_name rfl (skip_name rfl fun _ _ h => h), _, L3, ?_⟩
          rw [hstep, hput, List.map_append]; rfl
        | cons q F =>
          have e9 : decide ((0 : Int) < (((q :: F).length : Nat) : Int)) = true := by simp only [List.length_cons, decide_eq_true_eq]; (first | assumption | decide | exact le0 (by assumption) (by decide) | exact le1 (by assumption) (by decide) | exact le2 (by assumption) (by assumption) (by decide) | lia | omega)
          rw [e9]
          show ExS _ _ _ _ _ _ _
          obtain ⟨P1, P2, hPe, hput⟩ := put_some hF
          rw [hF] at hhome
          refine ex_cons (ex_expr ?_ (by intro _; rfl))
          refine ev_append rfl rfl (by decide) ?_
          repeat ktr_rel
          refine sub_list (a := .ref q.1) hhome (by (first | assumption | decide | exact le0 (by assumption) (by decide) | exact le1 (by assumption) (by decide) | exact le2 (by assumption) (by assumption) (by decide) | lia | omega)) rfl ?_
          rw [hPe] at L2
          have hqe := L2.each q (by first | exact nn | exact lb rfl | simp)
          refine ⟨_, _, rfl, hqe, ?_⟩
          repeat ktr_rel
          have L3 := L2.into hx
          refine ⟨_, hqe, by have := (L2.fill q (by first | exact nn | exact lb rfl | simp)).2.1; simp [avN]; (first | assumption | decide | exact le0 (by assumption) (by decide) | exact le1 (by assumption) (by decide) | exact le2 (by assumption) (by assumption) (by decide) | lia | omega), ?_⟩
          refine ex_nil (ex_nil ?_)
          refine ⟨rfl, skip_name rfl (skip_name rfl fun _ _ h => h), _, L3, ?_⟩
          rw [hstep, hput, List.map_append]; rfl
    · obtain ⟨P, L, hP⟩ := hf'
      rw [List.length_map, List.take_length] at hP
      rw [← hP] at h
      rw [List.length_map] at L
      refine ex_cons (ex_return ?_)
      refine ev_comp ⟨rfl, by decide, rfl, rfl⟩ (fun _ _ => rfl) ?_
      refine evi_list rfl ?_
      repeat ktr_rel
      refine ⟨_, _, rfl, L.lots, ?_⟩
      refine comp_pure (X := []) (xs := P) (enc := fun p => .ref p.1) (g := fun p => .tup (avN p.2)) (p := fun p => decide (1 < p.2.length)) rfl (by have := L.few; (first | assumption | decide | exact le0 (by assumption) (by decide) | exact le1 (by assumption) (by decide) | exact le2 (by assumption) (by assumption) (by decide) | lia | omega)) (fun σk hk' => hk'.get L.lots (by first | exact nn | exact lb rfl | simp)) (fun p hp σk hk' => ?_) (fun σk hk' => ?_)
      · have hpe := hk'.get (L.each p hp) (by first | exact nn | exact lb rfl | simp)
        have hpl := (L.fill p hp).2.1
        refine as_name rfl ?_
        show EvB _ _ _ _ _ _ _
        repeat ktr_rel
        refine evB_len hC rfl ?_
        repeat ktr_rel
        refine cv_len_list hpe (by first | exact avN_le (by assumption) (by decide) | (simp [avN]; (first | assumption | decide | exact le0 (by assumption) (by decide) | exact le1 (by assumption) (by decide) | exact le2 (by assumption) (by assumption) (by decide) | lia | omega))) ?_
        repeat ktr_rel
        refine cmp_gt_int ?_
        have ed : decide ((1 : Int) < ((avN p.2).length : Int)) = decide (1 < p.2.length) := by
          simp only [avN, List.length_map]
          exact decide_eq_decide.mpr (by (first | assumption | decide | exact le0 (by assumption) (by decide) | exact le1 (by assumption) (by decide) | exact le2 (by assumption) (by assumption) (by decide) | lia | omega))
        rw [ed]
        cases hb : decide (1 < p.2.length) with
        | true =>
          show EvE _ _ _ _ _ _ _
          refine evB_tuple hC rfl ?_
          repeat ktr_rel
          refine cv_tuple_list hpe (by first | exact avN_le (by assumption) (by decide) | (simp [avN]; (first | assumption | decide | exact le0 (by assumption) (by decide) | exact le1 (by assumption) (by decide) | exact le2 (by assumption) (by assumption) (by decide) | lia | omega))) ?_
          first | exact ⟨rfl, rfl, hk'⟩ | exact ⟨rfl, hk'⟩
        | false => first | exact ⟨rfl, hk'⟩ | exact hk'
      · refine h _ _ (L.keep.trans hk'.app) ?_
        rw [get_app, List.filter_map, List.map_map]
        rfl
end

-- part P6
section
variable {x y z : Nat}
theorem sum_iff {l : Lin} {x y : Nat} : sumAlike l x y = true ↔ wtL (l.coefs.zip l.vars) x = wtL (l.coefs.zip l.vars) y ∨ (l.name ≠ "linear_le" ∧ l.c = 0 ∧ wtL (l.coefs.zip l.vars) x = - wtL (l.coefs.zip l.vars) y ∧ ∀ z, z ≠ x → z ≠ y → wtL (l.coefs.zip l.vars) z = 0) := by
  have hz : ∀ z, z ∉ keysOf (l.coefs.zip l.vars) → wtL (l.coefs.zip l.vars) z = 0 := fun z h => wt_zero fun m => h ((mem_keysOf _).mpr m)
  unfold sumAlike
  show (if wtL (l.coefs.zip l.vars) x = wtL (l.coefs.zip l.vars) y then true else if l.name = "linear_le" ∨ l.c ≠ 0 ∨ wtL (l.coefs.zip l.vars) x ≠ -wtL (l.coefs.zip l.vars) y then false else
    decide ((keysOf (l.coefs.zip l.vars)).filter (fun z => decide (z ≠ x ∧ z ≠ y ∧ wtL (l.coefs.zip l.vars) z ≠ 0)) = [])) = true ↔ _
  generalize wtL (l.coefs.zip l.vars) = W at *
  by_cases hab : W x = W y
  · rw [if_pos hab]; exact ⟨fun _ => .inl hab, fun _ => rfl⟩
  · rw [if_neg hab]
    by_cases hc : l.name = "linear_le" ∨ l.c ≠ 0 ∨ W x ≠ -W y
    · rw [if_pos hc]
      refine ⟨fun h => (by cases h), fun h => ?_⟩
      rcases h with h | ⟨h1, h2, h3, _⟩
      · exact absurd h hab
      · rcases hc with e | e | e
        · exact absurd e h1
        · exact absurd h2 e
        · exact absurd h3 e
    · rw [if_neg hc, decide_eq_true_eq, List.filter_eq_nil_iff]
      constructor
      · intro h
        refine .inr ⟨fun e => hc (.inl e), Classical.byContradiction fun e => hc (.inr (.inl e)), Classical.byContradiction fun e => hc (.inr (.inr e)), fun z h1 h2 => ?_⟩
        by_cases hm : z ∈ keysOf (l.coefs.zip l.vars)
        · have := h z hm
          rw [decide_eq_true_eq] at this
          exact Classical.byContradiction fun e => this ⟨h1, h2, e⟩
        · exact hz z hm
      · rintro (h | ⟨_, _, _, h⟩) z hz'
        · exact absurd h hab
        · rw [decide_eq_true_eq]
          exact fun ⟨n1, n2, n3⟩ => n3 (h z n1 n2)
theorem sum_symm {l : Lin} (h : sumAlike l x y = true) : sumAlike l y x = true := by
  rw [sum_iff] at h ⊢
  rcases h with h | ⟨h1, h2, h3, h4⟩
  · exact .inl h.symm
  · exact .inr ⟨h1, h2, by (first | assumption | decide | exact le0 (by assumption) (by decide) | exact le1 (by assumption) (by decide) | exact le2 (by assumption) (by assumption) (by decide) | lia | omega), fun z n1 n2 => h4 z n2 n1⟩
theorem sum_trans {l : Lin} (hxy : x ≠ y) (hyz : y ≠ z) (hxz : x ≠ z) (h : sumAlike l x y = true) (h' : sumAlike l y z = true) : sumAlike l x z = true := by
  rw [sum_iff] at h h' ⊢
  rcases h with h | ⟨h1, h2, h3, h4⟩ <;> rcases h' with h' | ⟨h1', h2', h3', h4'⟩
  · exact .inl (h.trans h')
  · have := h4' x hxy hxz
    left; (first | assumption | decide | exact le0 (by assumption) (by decide) | exact le1 (by assumption) (by decide) | exact le2 (by assumption) (by assumption) (by decide) | lia | omega)
  · have := h4 z (Ne.symm hxz) (Ne.symm hyz)
    left; (first | assumption | decide | exact le0 (by assumption) (by decide) | exact le1 (by assumption) (by decide) | exact le2 (by assumption) (by assumption) (by decide) | lia | omega)
  · left; (first | assumption | decide | exact le0 (by assumption) (by decide) | exact le1 (by assumption) (by decide) | exact le2 (by assumption) (by assumption) (by decide) | lia | omega)
theorem eqv_l {l m : List PyData} (h : PyData.eqvAll l m = true ↔ l = m) : PyData.eqv (.list l) (.list m) = true ↔ PyData.list l = .list m := ⟨fun q => by rw [h.mp q], fun q => h.mpr (PyData.list.inj q)⟩
theorem eqv_i (i j : Int) : PyData.eqv (.int i) (.int j) = true ↔ PyData.int i = .int j := by simp [PyData.eqv]
theorem eqv_ib (i j : Int) (b c : Bool) : PyData.eqv (.tuple [.int i, .bool b]) (.tuple [.int j, .bool c]) = true ↔ PyData.tuple [.int i, .bool b] = .tuple [.int j, .bool c] := by simp [PyData.eqv, PyData.eqvAll]
theorem eqv_bb (i j b c : Bool) : PyData.eqv (.tuple [.bool i, .bool b]) (.tuple [.bool j, .bool c]) = true ↔ PyData.tuple [.bool i, .bool b] = .tuple [.bool j, .bool c] := by simp [PyData.eqv, PyData.eqvAll]
theorem eqv_blb (i j b c : Bool) {l m : List PyData} (h : PyData.eqvAll l m = true ↔ l = m) : PyData.eqv (.tuple [.bool i, .list l, .bool b]) (.tuple [.bool j, .list m, .bool c]) = true ↔ PyData.tuple [.bool i, .list l, .bool b] = .tuple [.bool j, .list m, .bool c] := by
  simp only [PyData.eqv, PyData.eqvAll, Bool.and_true, Bool.and_eq_true, beq_iff_eq, PyData.tuple.injEq, List.cons.injEq, PyData.bool.injEq, PyData.list.injEq, and_true, h]
theorem eqvN' {l m : List Nat} : PyData.eqvAll (dN l) (dN m) = true ↔ dN l = dN m := ⟨fun h => by rw [eqvN.mp h], fun h => by rw [h, eqvN]⟩
theorem eqvT' {l m : List (List Int)} : PyData.eqvAll (toPyL (l.map tupI)) (toPyL (m.map tupI)) = true ↔ toPyL (l.map tupI) = toPyL (m.map tupI) := ⟨fun h => by rw [eqvT.mp h], fun h => by rw [h, eqvT]⟩
theorem part_eq {t : Told} {x y : Nat} : PyData.eqv (partD t x) (partD t y) = true ↔ partD t x = partD t y := by
  cases t with
  | lin l => exact ⟨fun _ => rfl, fun _ => rfl⟩
  | reif z l => exact ⟨fun _ => rfl, fun _ => rfl⟩
  | table p q rows => exact ⟨fun _ => rfl, fun _ => rfl⟩
  | cumul r c d => exact eqv_l eqvT'
  | incr r => exact eqv_l eqvN'
  | element i r z => exact eqv_blb _ _ _ _ eqvN'
  | times a b c => exact eqv_ib _ _ _ _
  | nvalue r z => exact eqv_ib _ _ _ _
  | count r z => exact eqv_ib _ _ _ _
  | mx r z => exact eqv_bb _ _ _ _
  | clause r q => exact eqv_bb _ _ _ _
  | xor a b c => exact eqv_i _ _
  | alldiff r => exact eqv_i _ _
theorem alike_symm {t : Told} (h : alikeLaw t x y = true) : alikeLaw t y x = true := by
  cases t with
  | lin l => exact sum_symm h
  | reif w l =>
    have h : (!decide ((w : Int) = (x : Int) ∨ (w : Int) = (y : Int)) && sumAlike l x y) = true := h
    show (!decide ((w : Int) = (y : Int) ∨ (w : Int) = (x : Int)) && sumAlike l y x) = true
    simp only [Bool.and_eq_true, Bool.not_eq_true', decide_eq_false_iff_not, not_or] at h ⊢
    exact ⟨⟨h.1.2, h.1.1⟩, sum_symm h.2⟩
  | table p q rows =>
    have h : (if decide (x ∈ [p, q]) && decide (y ∈ [p, q]) then PyData.eqvAll (toPyL ((sortT (rows.map rev2)).map tupI)) (toPyL ((sortT rows).map tupI)) else !decide (x ∈ [p, q]) && !decide (y ∈ [p, q])) = true := h
    show (if decide (y ∈ [p, q]) && decide (x ∈ [p, q]) then PyData.eqvAll (toPyL ((sortT (rows.map rev2)).map tupI)) (toPyL ((sortT rows).map tupI)) else !decide (y ∈ [p, q]) && !decide (x ∈ [p, q])) = true
    rw [Bool.and_comm, Bool.and_comm (!decide (y ∈ [p, q]))]
    exact h
  | _ => exact part_eq.mpr (part_eq.mp h).symm
theorem alike_trans {t : Told} (hxy : x ≠ y) (hyz : y ≠ z) (hxz : x ≠ z) (h : alikeLaw t x y = true) (h' : alikeLaw t y z = true) : alikeLaw t x z = true := by
  cases t with
  | lin l => exact sum_trans hxy hyz hxz h h'
  | reif w l =>
    have h : (!decide ((w : Int) = (x : Int) ∨ (w : Int) = (y : Int)) && sumAlike l x y) = true := h
    have h' : (!decide ((w : Int) = (y : Int) ∨ (w : Int) = (z : Int)) && sumAlike l y z) = true := h'
    show (!decide ((w : Int) = (x : Int) ∨ (w : Int) = (z : Int)) && sumAlike l x z) = true
    simp only [Bool.and_eq_true, Bool.not_eq_true', decide_eq_false_iff_not, not_or] at h h' ⊢
    exact ⟨⟨h.1.1, h'.1.2⟩, sum_trans hxy hyz hxz h.2 h'.2⟩
  | table p q rows =>
    have h : (if decide (x ∈ [p, q]) && decide (y ∈ [p, q]) then PyData.eqvAll (toPyL ((sortT (rows.map rev2)).map tupI)) (toPyL ((sortT rows).map tupI)) else !decide (x ∈ [p, q]) && !decide (y ∈ [p, q])) = true := h
    have h' : (if decide (y ∈ [p, q]) && decide (z ∈ [p, q]) then PyData.eqvAll (toPyL ((sortT (rows.map rev2)).map tupI)) (toPyL ((sortT rows).map tupI)) else !decide (y ∈ [p, q]) && !decide (z ∈ [p, q])) = true := h'
    show (if decide (x ∈ [p, q]) && decide (z ∈ [p, q]) then PyData.eqvAll (toPyL ((sortT (rows.map rev2)).map tupI)) (toPyL ((sortT rows).map tupI)) else !decide (x ∈ [p, q]) && !decide (z ∈ [p, q])) = true
    generalize decide (x ∈ [p, q]) = X at *
    generalize decide (y ∈ [p, q]) = Y at *
    generalize decide (z ∈ [p, q]) = Z at *
    cases X <;> cases Y <;> cases Z <;> simp_all
  | _ => exact part_eq.mpr ((part_eq.mp h).trans (part_eq.mp h'))
theorem same_iff {D : List Nat} : sameD D x y = true ↔ domA (D.getD x 0) = domA (D.getD y 0) := eqv_py (domA_pure _) (domA_pure _)
theorem readR_symm {D : List Nat} {ts : List Told} (h : readR D ts x y = true) : readR D ts y x = true := by
  unfold readR at h ⊢
  simp only [Bool.and_eq_true, List.all_eq_true] at h ⊢
  exact ⟨same_iff.mpr (same_iff.mp h.1).symm, fun t ht => alike_symm (h.2 t ht)⟩
theorem readR_trans {D : List Nat} {ts : List Told} (hxy : x ≠ y) (hyz : y ≠ z) (hxz : x ≠ z) (h : readR D ts x y = true) (h' : readR D ts y z = true) : readR D ts x z = true := by
  unfold readR at h h' ⊢
  simp only [Bool.and_eq_true, List.all_eq_true] at h h' ⊢
  exact ⟨same_iff.mpr ((same_iff.mp h.1).trans (same_iff.mp h'.1)), fun t ht => alike_trans hxy hyz hxz (h.2 t ht) (h'.2 t ht)⟩
end
section
variable {R : Nat → Nat → Bool}
noncomputable def eqR (R : Nat → Nat → Bool) (x y : Nat) : Bool := decide (x = y) || R x y
noncomputable def cls (R : Nat → Nat → Bool) (pre : List Nat) (h : Nat) : List Nat := pre.filter (eqR R h)
noncomputable def isFirst (R : Nat → Nat → Bool) (pre : List Nat) (h : Nat) : Bool := decide ((cls R pre h).head? = some h)
theorem put_map {x : Nat} {c : Nat → List Nat} : ∀ {F : List Nat}, (∀ h ∈ F, (c h).headD 0 = h) → F.Pairwise (fun h h' => ¬ (R h x = true ∧ R h' x = true)) →
    put R x (F.map c) = if F.any (fun h => R h x) then F.map (fun h => if R h x then c h ++ [x] else c h) else F.map c ++ [[x]]
  | [], _, _ => rfl
  | h :: F, hc, hu => by
    have ih := put_map (x := x) (c := c) (F := F) (fun h hh => hc h (.tail _ hh)) (List.pairwise_cons.mp hu).2
    have hh := hc h (.head _)
    have hn := (List.pairwise_cons.mp hu).1
    rw [List.map_cons]
    show (if R ((c h).headD 0) x then (c h ++ [x]) :: F.map c else c h :: put R x (F.map c)) = _
    rw [hh, List.any_cons]
    cases hR : R h x with
    | true =>
      simp only [if_true, Bool.true_or, List.map_cons, hR]
      congr 1
      refine List.map_congr_left fun h' hh' => ?_
      have : ¬ R h' x = true := fun e => hn h' hh' ⟨hR, e⟩
      rw [if_neg this]
    | false =>
      simp only [Bool.false_eq_true, if_false, Bool.false_or, List.map_cons, hR, ih]
      split <;> rfl
theorem lots_eq (hs : ∀ x y, R x y = true → R y x = true) (ht : ∀ x y z, x ≠ y → y ≠ z → x ≠ z → R x y = true → R y z = true → R x z = true) (cand : List Nat) (hn : cand.Nodup) :
    lotsOf R cand = (cand.filter (isFirst R cand)).map (cls R cand) := by
  have es : ∀ x y, eqR R x y = true → eqR R y x = true := fun x y h => by
    simp only [eqR, Bool.or_eq_true, decide_eq_true_eq] at h ⊢
    rcases h with h | h
    · exact .inl h.symm
    · exact .inr (hs _ _ h)
  have et : ∀ x y z, eqR R x y = true → eqR R y z = true → eqR R x z = true := fun x y z h h' => by
    by_cases hxz : x = z
    · simp [eqR, hxz]
    · simp only [eqR, Bool.or_eq_true, decide_eq_true_eq] at h h' ⊢
      rcases h with h | h
      · subst h; exact h'
      · rcases h' with h' | h'
        · subst h'; exact .inr h
        · by_cases hxy : x = y
          · subst hxy; exact .inr h'
          · by_cases hyz : y = z
            · subst hyz; exact .inr h
            · exact .inr (ht _ _ _ hxy hyz hxz h h')
  have refl : ∀ x, eqR R x x = true := fun x => by simp [eqR]
  revert hn
  refine snoc_ind (P := fun cand => cand.Nodup → lotsOf R cand = (cand.filter (isFirst R cand)).map (cls R cand)) (fun _ => rfl) (fun pre x ih hn => ?_) cand
  have hxn : x ∉ pre := fun hm => by
    rw [List.nodup_append] at hn
    exact hn.2.2 x hm x (by first | exact nn | exact lb rfl | simp) rfl
  have hnp : pre.Nodup := List.Nodup.sublist (List.sublist_append_left _ _) hn
  have e1 : lotsOf R (pre ++ [x]) = put R x (lotsOf R pre) := by unfold lotsOf; rw [List.foldl_append]; rfl
  rw [e1, ih hnp]
  have hcls : ∀ h, cls R (pre ++ [x]) h = cls R pre h ++ (if eqR R h x then [x] else []) := fun h => by
    unfold cls
    rw [List.filter_append]
    congr 1
    cases hq : eqR R h x <;> simp [List.filter_cons, hq]
  have mem_self : ∀ h ∈ pre, h ∈ cls R pre h := fun h hh => List.mem_filter.mpr ⟨hh, refl h⟩
  have clsne : ∀ h ∈ pre, ∃ y r, cls R pre h = y :: r := fun h hh => by
    cases hc : cls R pre h with
    | nil => have := mem_self h hh; rw [hc] at this; cases this
    | cons y r => exact ⟨y, r, rfl⟩
  have hfirst : ∀ h ∈ pre, isFirst R (pre ++ [x]) h = isFirst R pre h := fun h hh => by
    obtain ⟨y, r, e⟩ := clsne h hh
    unfold isFirst
    rw [hcls, e]; rfl
  have clseq : ∀ h h', eqR R h h' = true → cls R pre h = cls R pre h' := fun h h' e => by
    unfold cls
    refine List.filter_congr fun v _ => ?_
    rw [Bool.eq_iff_iff]
    exact ⟨fun q => et _ _ _ (es _ _ e) q, fun q => et _ _ _ e q⟩
  have ef : (pre ++ [x]).filter (isFirst R (pre ++ [x])) = pre.filter (isFirst R pre) ++ (if isFirst R (pre ++ [x]) x then [x] else []) := by
    rw [List.filter_append]
    congr 1
    · exact List.filter_congr fun h hh => hfirst h hh
    · cases hq : isFirst R (pre ++ [x]) x <;> simp [List.filter_cons, hq]
  have hheads : ∀ h ∈ pre.filter (isFirst R pre), h ∈ pre ∧ (cls R pre h).head? = some h := fun h hh => by
    have := List.mem_filter.mp hh
    exact ⟨this.1, by have := this.2; simpa [isFirst] using this⟩
  rw [put_map (fun h hh => by
    have := (hheads h hh).2
    cases hc : cls R pre h with
    | nil => rw [hc] at this; cases this
    | cons y r => rw [hc] at this; simp at this; exact this) (by
    have hnd : (pre.filter (isFirst R pre)).Pairwise (· ≠ ·) := List.Pairwise.filter _ hnp
    refine List.Pairwise.imp_of_mem ?_ hnd
    intro h h' hh hh' hne ⟨r1, r2⟩
    have e : eqR R h h' = true := et _ _ _ (show eqR R h x = true by simp [eqR, r1]) (es _ _ (show eqR R h' x = true by simp [eqR, r2]))
    have c := clseq h h' e
    have a1 := (hheads h hh).2
    have a2 := (hheads h' hh').2
    rw [c, a2] at a1
    exact hne (Option.some.inj a1).symm)]
  rw [ef, List.map_append]
  have eR : ∀ h ∈ pre, eqR R h x = R h x := fun h hh => by
    have : h ≠ x := fun e => hxn (e ▸ hh)
    simp [eqR, this]
  have emap : (pre.filter (isFirst R pre)).map (cls R (pre ++ [x])) = (pre.filter (isFirst R pre)).map fun h => if R h x then cls R pre h ++ [x] else cls R pre h := by
    refine List.map_congr_left fun h hh => ?_
    rw [hcls, eR h (hheads h hh).1]
    cases R h x <;> simp
  rw [emap]
  cases hany : (pre.filter (isFirst R pre)).any fun h => R h x with
  | true =>
    obtain ⟨h, hh, hR⟩ := List.any_eq_true.mp hany
    have hnf : isFirst R (pre ++ [x]) x = false := by
      have hp := (hheads h hh).1
      have hc : ∃ y r, cls R pre x = y :: r := by
        have : h ∈ cls R pre x := List.mem_filter.mpr ⟨hp, es _ _ (by rw [eR h hp]; exact hR)⟩
        cases hc : cls R pre x with
        | nil => rw [hc] at this; cases this
        | cons y r => exact ⟨y, r, rfl⟩
      obtain ⟨y, r, e⟩ := hc
      have hy : y ∈ pre := by
        have : y ∈ cls R pre x := by rw [e]; simp
        exact (List.mem_filter.mp this).1
      unfold isFirst
      rw [hcls, e]
      simp only [List.cons_append, List.head?_cons, Option.some.injEq, decide_eq_false_iff_not]
      exact fun e => hxn (e ▸ hy)
    rw [hnf]
    simp
  | false =>
    have hall : ∀ h ∈ pre.filter (isFirst R pre), R h x = false := fun h hh => by
      have := List.any_eq_false.mp hany h hh
      simpa using this
    have hempty : cls R pre x = [] := by
      cases hc : cls R pre x with
      | nil => rfl
      | cons y r =>
        exfalso
        have hy : y ∈ cls R pre x := by rw [hc]; simp
        have hyp := (List.mem_filter.mp hy).1
        have hey := es _ _ (List.mem_filter.mp hy).2
        have hcy : cls R pre y = y :: r := by rw [clseq y x hey, hc]
        have hyF : y ∈ pre.filter (isFirst R pre) := List.mem_filter.mpr ⟨hyp, by unfold isFirst; rw [hcy]; simp⟩
        have := hall y hyF
        rw [← eR y hyp, hey] at this
        cases this
    have hxf : isFirst R (pre ++ [x]) x = true := by
      unfold isFirst
      rw [hcls, hempty, refl]; simp
    rw [hxf]
    have e2 : cls R (pre ++ [x]) x = [x] := by rw [hcls, hempty, refl]; rfl
    simp only [Bool.false_eq_true, if_false, if_true, List.map_cons, List.map_nil, e2]
    congr 1
    refine List.map_congr_left fun h hh => ?_
    rw [hall h hh]; rfl
end

noncomputable def lotD (D late : List Nat) (ts : List Told) (x : Nat) : List Nat :=
  ((List.range D.length).filter fun y => !decide (y ∈ late) && sameD D x y).filter fun y => decide (y = x) || decide (ts.filter (fun t => !alikeLaw t x y) = [])
noncomputable def dueC (D late : List Nat) (ts : List Told) (x : Nat) : Bool := !decide (x ∈ late) && (decide ((lotD D late ts x).headD 0 = x) && decide (1 < (lotD D late ts x).length))
theorem lotD_cls {D late : List Nat} {ts : List Told} {x : Nat} : lotD D late ts x = cls (readR D ts) ((List.range D.length).filter fun y => !decide (y ∈ late)) x := by
  unfold lotD cls
  rw [List.filter_filter, List.filter_filter]
  refine List.filter_congr fun y _ => ?_
  have e1 : decide (ts.filter (fun t => !alikeLaw t x y) = []) = ts.all fun t => alikeLaw t x y := by
    rw [Bool.eq_iff_iff, decide_eq_true_eq, List.filter_eq_nil_iff, List.all_eq_true]
    exact ⟨fun h t ht => by have := h t ht; simpa using this, fun h t ht => by simp [h t ht]⟩
  rw [e1]
  unfold eqR readR
  by_cases h : y = x
  · subst h
    have : sameD D y y = true := same_iff.mpr rfl
    simp [this]
  · have h' : ¬ x = y := fun e => h e.symm
    simp only [h, h', decide_false, Bool.false_or]
    cases sameD D x y <;> cases (!decide (y ∈ late)) <;> simp
theorem lots_due (D late : List Nat) (ts : List Told) : (lotsOf (readR D ts) ((List.range D.length).filter fun x => !decide (x ∈ late))).filter (fun l => decide (1 < l.length)) = ((List.range D.length).filter (dueC D late ts)).map (lotD D late ts) := by
  rw [lots_eq (fun x y => readR_symm) (fun x y z => readR_trans) _ (List.Pairwise.filter _ List.nodup_range)]
  rw [List.filter_map, List.filter_filter, List.filter_filter]
  have e : (List.map (cls (readR D ts) ((List.range D.length).filter fun y => !decide (y ∈ late)))) = List.map (lotD D late ts) := by
    congr 1
    exact funext fun x => lotD_cls.symm
  rw [e]
  congr 1
  refine List.filter_congr fun x hx => ?_
  unfold dueC isFirst
  rw [← lotD_cls]
  simp only [Function.comp]
  by_cases hl : x ∈ late
  · simp [hl]
  · have e2 : decide ((lotD D late ts x).head? = some x) = decide ((lotD D late ts x).headD 0 = x) := by
      have hm : x ∈ lotD D late ts x := by
        rw [lotD_cls]
        exact List.mem_filter.mpr ⟨List.mem_filter.mpr ⟨hx, by simp [hl]⟩, by simp [eqR]⟩
      cases hc : lotD D late ts x with
      | nil => rw [hc] at hm; cases hm
      | cons y r => simp
    rw [e2, ← lotD_cls]
    simp only [hl, decide_false, Bool.not_false, Bool.true_and, Bool.and_true]
    rw [Bool.and_comm]

-- part P7
section
variable {cells : List Int} {s many : Nat}
theorem rowNat_len (hm : 3 ≤ many) (hm' : many ≤ 5) : 2 ≤ (rowNat cells s many).length ∧ (rowNat cells s many).length ≤ 5 := by
  have := rowV_facts (cells := cells) (spot := s) hm hm'
  have e : (rowNat cells s many).length = (rowV cells s many).length := List.length_map _
  rw [e]; exact ⟨this.1, this.2.1⟩
theorem rowNat_lt (hm : 3 ≤ many) (hm' : many ≤ 5) : ∀ v ∈ rowNat cells s many, v < many := fun v hv => by
  obtain ⟨x, hx, rfl⟩ := List.mem_map.mp hv
  have := (rowV_facts (cells := cells) (spot := s) hm hm').2.2 x hx
  (first | assumption | decide | exact le0 (by assumption) (by decide) | exact le1 (by assumption) (by decide) | exact le2 (by assumption) (by assumption) (by decide) | lia | omega)
theorem sumV_vars (nm : Str) : (sumV cells s many nm).vars = rowNat cells s many := by unfold sumV; simp only; split <;> rfl
theorem sumV_name (nm : Str) : (sumV cells s many nm).name = nm := by unfold sumV; simp only; split <;> rfl
theorem nmOf_mem (i : Nat) : nmOf i ∈ linNames := by
  unfold nmOf
  split
  · decide +kernel
  · split <;> decide +kernel
noncomputable def PartOk (p : Part) : Prop := (∀ y ∈ p.vars, y < 5) ∧ p.vars.length ≤ 5
theorem ok_of {t : Told} (hl : ∀ l, (t = .lin l ∨ ∃ x, t = .reif x l) → l.name ∈ linNames) (h : ∀ p ∈ t.parts, PartOk p) : t.Ok := ⟨hl, fun p hp => (h p hp).1, fun p hp => (h p hp).2⟩
theorem all1 {P : Part → Prop} {a : Part} (ha : P a) : ∀ p ∈ [a], P p := List.forall_mem_cons.mpr ⟨ha, fun _ h => nomatch h⟩
theorem all2 {P : Part → Prop} {a b : Part} (ha : P a) (hb : P b) : ∀ p ∈ [a, b], P p := List.forall_mem_cons.mpr ⟨ha, all1 hb⟩
theorem all3 {P : Part → Prop} {a b c : Part} (ha : P a) (hb : P b) (hc : P c) : ∀ p ∈ [a, b, c], P p := List.forall_mem_cons.mpr ⟨ha, all2 hb hc⟩
theorem okN (a : AV) : PartOk (.n a) := ⟨fun _ h => (nomatch h), Nat.zero_le _⟩
theorem okv {v : Nat} (h : v < 5) : PartOk (.v v) := ⟨fun y hy => (List.mem_singleton.mp hy) ▸ h, Nat.le_of_ble_eq_true rfl⟩
theorem okR (hm : 3 ≤ many) (hm' : many ≤ 5) (sp : Nat) : PartOk (.V (rowNat cells sp many)) := ⟨fun y hy => Nat.lt_of_lt_of_le (rowNat_lt hm hm' y hy) hm', (rowNat_len hm hm').2⟩
theorem okT (hm : 3 ≤ many) (hm' : many ≤ 5) (hw : 0 < many) (sp : Nat) : PartOk (.v (takeN cells sp many)) := okv (Nat.lt_of_lt_of_le (takeN_lt hw) hm')
theorem okS (hm : 3 ≤ many) (hm' : many ≤ 5) (sp : Nat) (nm : Str) : PartOk (.V (sumV cells sp many nm).vars) := by rw [sumV_vars]; exact okR hm hm' sp
noncomputable def hasLin : Told → Bool
  | .lin _ => true
  | .reif _ _ => true
  | _ => false
theorem nolin {t : Told} (h : hasLin t = false) : ∀ l, (t = .lin l ∨ ∃ x, t = .reif x l) → l.name ∈ linNames := by
  rintro l (rfl | ⟨x, rfl⟩) <;> cases h
theorem onlin {m : Lin} (h : m.name ∈ linNames) : ∀ l, (Told.lin m = .lin l ∨ ∃ x, Told.lin m = .reif x l) → l.name ∈ linNames := by
  rintro l (e | ⟨x, e⟩) <;> cases e
  exact h
theorem onreif {z : Nat} {m : Lin} (h : m.name ∈ linNames) : ∀ l, (Told.reif z m = .lin l ∨ ∃ x, Told.reif z m = .reif x l) → l.name ∈ linNames := by
  rintro l (e | ⟨x, e⟩) <;> cases e
  exact h
theorem modne_dec : ((List.range 6).all fun m => (List.range 5).all fun p => (List.range 5).all fun q => !decide (p < m) || (!decide (q < m - 1) || decide (p ≠ (p + 1 + q) % m))) = true := by decide +kernel
theorem modne (m : Nat) (hm : m < 6) (p : Nat) (hp : p < 5) (q : Nat) (hq : q < 5) (h1 : p < m) (h2 : q < m - 1) : p ≠ (p + 1 + q) % m := by
  have h := List.all_eq_true.mp (List.all_eq_true.mp (List.all_eq_true.mp modne_dec m (List.mem_range.mpr hm)) p (List.mem_range.mpr hp)) q (List.mem_range.mpr hq)
  rw [decide_eq_true h1, decide_eq_true h2] at h
  exact of_decide_eq_true h
theorem told_ok (hm : 3 ≤ many) (hm' : many ≤ 5) {kind : Nat} (hk : kind < 14) : (toldV cells s many kind).Ok ∧ (toldV cells s many kind).More := by
  have hm0 : 0 < many := Nat.lt_of_lt_of_le (by decide) hm
  have R := okR (cells := cells) hm hm'
  have V := okT (cells := cells) hm hm' hm0
  have S := okS (cells := cells) hm hm'
  have hL0 : ∀ sp, 0 < (rowNat cells sp many).length := fun sp => Nat.lt_of_lt_of_le (by decide) (rowNat_len hm hm').1
  rcases kinds14 kind hk with rfl | rfl | rfl | rfl | rfl | rfl | rfl | rfl | rfl | rfl | rfl | rfl | rfl | rfl
  · exact ⟨ok_of (onlin (by rw [sumV_name]; decide +kernel)) (all3 (okN _) (S _ _) (okN _)), trivial⟩
  · exact ⟨ok_of (onlin (by rw [sumV_name]; decide +kernel)) (all3 (okN _) (S _ _) (okN _)), trivial⟩
  · exact ⟨ok_of (nolin rfl) (all3 (V _) (V _) (V _)), trivial⟩
  · exact ⟨ok_of (nolin rfl) (all3 (V _) (V _) (V _)), trivial⟩
  · exact ⟨ok_of (nolin rfl) (all2 (R _) (V _)), trivial⟩
  · exact ⟨ok_of (nolin rfl) (all2 (R _) (V _)), hL0 _⟩
  · exact ⟨ok_of (nolin rfl) (all3 (R _) (okN _) (V _)), hL0 _⟩
  · exact ⟨ok_of (nolin rfl) (List.forall_mem_cons.mpr ⟨R _, all3 (okN _) (okN _) (okN _)⟩), hL0 _, by simp [takes], by simp [takes]⟩
  · exact ⟨ok_of (nolin rfl) (all2 (R _) (R _)), trivial⟩
  · exact ⟨ok_of (nolin rfl) (all3 (V _) (R _) (V _)), trivial⟩
  · have hp0 : takeN cells s many < many := takeN_lt hm0
    have hq0 : takeN cells (s + 2) (many - 1) < many - 1 := takeN_lt (by (first | assumption | decide | exact le0 (by assumption) (by decide) | exact le1 (by assumption) (by decide) | exact le2 (by assumption) (by assumption) (by decide) | lia | omega))
    have hq : (takeN cells s many + 1 + takeN cells (s + 2) (many - 1)) % many < many := Nat.mod_lt _ hm0
    exact ⟨ok_of (nolin rfl) (all2 ⟨List.forall_mem_cons.mpr ⟨Nat.lt_of_lt_of_le hp0 hm', List.forall_mem_cons.mpr ⟨Nat.lt_of_lt_of_le hq hm', fun _ h => nomatch h⟩⟩, Nat.le_of_ble_eq_true rfl⟩ (okN _)), modne many (Nat.lt_succ_of_le hm') _ (Nat.lt_of_lt_of_le hp0 hm') _ (Nat.lt_of_lt_of_le hq0 (Nat.le_trans (Nat.sub_le _ _) hm')) hp0 hq0, lines_base (takeN_lt (by decide))⟩
  · exact ⟨ok_of (onreif (by rw [sumV_name]; exact nmOf_mem _)) (all2 (V _) (S _ _)), trivial⟩
  · exact ⟨ok_of (nolin rfl) (all1 (R _)), trivial⟩
  · exact ⟨ok_of (nolin rfl) (all2 (R _) (okN _)), hL0 _⟩
theorem sumN_le (hm : 3 ≤ many) (hm' : many ≤ 5) : sumN cells s many ≤ 12 := by
  have := rowN_le (cells := cells) (spot := s)
  have := (rowNat_len (cells := cells) (s := s) hm hm').2
  unfold sumN
  simp only
  split <;> (first | assumption | decide | exact le0 (by assumption) (by decide) | exact le1 (by assumption) (by decide) | exact le2 (by assumption) (by assumption) (by decide) | lia | omega)
theorem toldN_le (hm : 3 ≤ many) (hm' : many ≤ 5) {kind : Nat} (hk : kind < 14) : toldN cells s many kind ≤ 20 := by
  have hr := fun sp => rowN_le (cells := cells) (spot := sp)
  have hl := (rowNat_len (cells := cells) (s := s) hm hm').2
  have hs := fun sp => sumN_le (cells := cells) (s := sp) hm hm'
  have w : ∀ {a}, a ≤ 12 → a ≤ 20 := fun h => Nat.le_trans h (by decide)
  rcases kinds14 kind hk with rfl | rfl | rfl | rfl | rfl | rfl | rfl | rfl | rfl | rfl | rfl | rfl | rfl | rfl
  · exact w (hs _)
  · exact w (hs _)
  · exact (by decide : 3 ≤ 20)
  · exact (by decide : 3 ≤ 20)
  · exact Nat.le_trans (Nat.add_le_add_right (hr _) 1) (by decide)
  · exact Nat.le_trans (Nat.add_le_add_right (hr _) 1) (by decide)
  · exact Nat.le_trans (Nat.add_le_add_right (hr _) 1) (by decide)
  · exact Nat.le_trans (Nat.add_le_add (Nat.add_le_add (hr _) hl) hl) (by decide)
  · exact Nat.le_trans (Nat.add_le_add (hr _) (hr _)) (by decide)
  · exact Nat.le_trans (Nat.add_le_add_right (hr _) 2) (by decide)
  · exact (by decide : 3 ≤ 20)
  · exact Nat.le_trans (Nat.add_le_add_left (hs _) 2) (by decide)
  · exact Nat.le_trans (hr _) (by decide)
  · exact Nat.le_trans (hr _) (by decide)
end

-- part W32
section
variable {C : Cx} {n : Nat} {sc : Scope} {ρ : List (Str × AV)} {As As₁ : List Addr} {σ σ₁ : List AO} {s s₁ : Shared} {A : Around} {E : Value → Shared → Prop} {recs : List DefRec}
theorem ints_rep {h : Heap} {As : List Addr} : ∀ {ws : List Value} {xs : List Int}, IntsAre ws xs → RepL h As (xs.map .int) ws
  | _, _, .nil => RepL.nil
  | _, _, .cons i t q => RepL.cons ⟨t, rfl⟩ (ints_rep q)
theorem ints_take {ws : List Value} {xs : List Int} (h : IntsAre ws xs) : ∀ b : Nat, IntsAre (ws.take b) (xs.take b) := by
  induction h with
  | nil => intro b; simp; exact .nil
  | cons i t q ih =>
    intro b
    cases b with
    | zero => simp; exact .nil
    | succ b => simp; exact .cons i t (ih b)

theorem ev_slice_fix {x : Expr} {hi : Option Expr} {p pos : Pos} {b : Nat} {a : Addr} {ws : List Value} {xs : List Int} {Q : AV → List AO → Prop} (hhi : isPart hi (some b) = true) (hB : C.B.IsList a ws.toArray) (hI : IntsAre ws xs) (hz : xs.length ≤ 1000)
    (h : EvE C n sc ρ x σ fun v σ₁ => v = .fix a ∧ Q (.ref σ₁.length) (σ₁ ++ [.list ((xs.take b).map .int)])) : EvE C n sc ρ (.Subscript x (.Slice Option.none hi Option.none p) pos) σ Q := ⟨fun A R env As s E F S => by
  refine Subscript_ (EvE.use h R F S fun u s₁ av σ₁ As₁ X₁ S₁ F₁ q r₁ => ?_)
  obtain ⟨rfl, q⟩ := q
  refine wpAny_Slice (part_use (k := Option.none) rfl R F₁ S₁ fun vl s₂ As₂ X₂ S₂ F₂ pl => part_use hhi R F₂ S₂ fun vu s₃ As₃ X₃ S₃ F₃ pu => ?_)
  rw [evalPart_none]
  refine wpAny_pure ?_
  obtain ⟨S₄, X₄⟩ := S₃.push { cls := .type "slice", data := .fields #[vl, vu, .none] }
  unfold Rep at r₁
  subst r₁
  have pl' := hB.at (fun o e => S₄.base _ o e)
  have rl : RepL (s₃.heap.push { cls := .type "slice", data := .fields #[vl, vu, .none] }) As₃ (xs.map .int) ws := ints_rep hI
  have hz' : ws.toArray.size = xs.length := by have := rl.length; rw [List.length_map] at this; simpa using this
  refine subTail pl'.typeIs list_getitem_lookup (wpAny_getItem_list_slice pl' (Heap.IsSliceOf.new ..) pl pu .none (by first | exact nn | exact lb rfl | simp) ?_ (by rw [hz', sizeLine_eq]; (first | assumption | decide | exact le0 (by assumption) (by decide) | exact le1 (by assumption) (by decide) | exact le2 (by assumption) (by assumption) (by decide) | lia | omega)))
  refine PostE.lift (((X₁.trans X₂).trans X₃).trans X₄) ?_
  have hp : slicePick ws.toArray (Option.map Int.ofNat Option.none) (Option.map Int.ofNat (some b)) Option.none = (ws.take b).toArray := by
    have e : sliceBounds (Option.map Int.ofNat Option.none) (Option.map Int.ofNat (some b)) Option.none ws.toArray.size = (((0 : Nat) : Int), ((min b ws.toArray.size : Nat) : Int), 1) := by
      simp only [Option.map_none, Option.map_some, sliceBounds, Option.getD_none]
      have h1 : ¬ ((Int.ofNat b) < 0) := by have := Int.natCast_nonneg b; exact Int.not_lt.mpr this
      simp only [h1, if_false]
      refine Prod.ext (by first | exact nn | exact lb rfl | simp) (Prod.ext ?_ rfl)
      show max 0 (min ((b : Nat) : Int) ((ws.toArray.size : Nat) : Int)) = ((min b ws.toArray.size : Nat) : Int)
      (first | assumption | decide | exact le0 (by assumption) (by decide) | exact le1 (by assumption) (by decide) | exact le2 (by assumption) (by assumption) (by decide) | lia | omega)
    rw [kmk_pick_nat ws.toArray e]
    simp only [List.drop_zero, Nat.sub_zero]
    congr 1
    rw [List.size_toArray]
    rcases Nat.le_total b ws.length with h | h
    · rw [Nat.min_eq_left h]
    · rw [Nat.min_eq_right h, List.take_length, List.take_of_length_le h]
  rw [hp]
  have rr : RepL (s₃.heap.push { cls := .type "slice", data := .fields #[vl, vu, .none] }) As₃ ((xs.take b).map .int) (ws.take b) := by
    exact ints_rep (ints_take hI b)
  exact PostE.list S₄ rr q⟩
end

-- part W33
theorem encs_pure {t : Told} (ht : t.Ok) : avPure t.enc = true := by
  show (avPure (.str t.name) && avPureL (t.parts.map Part.enc)) = true
  rw [pure_name ht.name, Bool.true_and]
  have hI : ∀ l : List Int, avPureL (avI l) = true := pureI
  have hp : ∀ l : Lin, avPureL l.rest = true := fun l => by
    show (avPureL (avI l.coefs) && (avPureL (avN l.vars) && (true && true))) = true
    rw [hI, pureN]; rfl
  cases t with
  | lin l => exact hp l
  | reif z l =>
    show (true && ((avPure (.str l.name) && avPureL l.rest) && true)) = true
    rw [hp, pure_name (lin_names (ht.lin l (.inr ⟨_, rfl⟩)))]; rfl
  | times u v w => rfl
  | xor u v w => rfl
  | mx r z => show (avPureL (avN r) && (true && true)) = true; rw [pureN]; rfl
  | nvalue r z => show (avPureL (avN r) && (true && true)) = true; rw [pureN]; rfl
  | count r z => show (avPureL (avN r) && (true && (true && true))) = true; rw [pureN]; rfl
  | cumul r c d => show (avPureL (avN r) && (avPureL (avI c) && (avPureL (avI d) && (true && true)))) = true; rw [pureN, hI, hI]; rfl
  | clause r q => show (avPureL (avN r) && (avPureL (avN q) && true)) = true; rw [pureN, pureN]; rfl
  | element i r z => show (true && (avPureL (avN r) && (true && true))) = true; rw [pureN]; rfl
  | table p q rows => show (avPureL (avN [p, q]) && (avPureL (rows.map tupI) && true)) = true; rw [pureN, pureT]; rfl
  | incr r => show (avPureL (avN r) && true) = true; rw [pureN]; rfl
  | alldiff r => show (avPureL (avN r) && (avPure (.str "values") && true)) = true; rw [pureN]; decide +kernel
theorem encsL_pure {us : List Told} (h : ∀ u ∈ us, u.Ok) : avPureL (us.map Told.enc) = true := by
  induction us with
  | nil => rfl
  | cons u us ih =>
    simp only [List.map_cons, avPureL, Bool.and_eq_true]
    exact ⟨encs_pure (h u (.head _)), ih fun v hv => h v (.tail _ hv)⟩
theorem pureTN (L : List (List Nat)) : avPureL (L.map fun l => .tup (avN l)) = true := by
  induction L with
  | nil => rfl
  | cons x l ih =>
    simp only [List.map_cons, avPureL, Bool.and_eq_true]
    exact ⟨pureN x, ih⟩
theorem depTN (L : List (List Nat)) : PyData.depthAll (toPyL (L.map fun l => .tup (avN l))) ≤ 2 := by
  induction L with
  | nil => exact Nat.le_of_ble_eq_true rfl
  | cons x l ih =>
    have := depN x
    unfold dN at this
    simp only [List.map_cons, toPyL, toPy, PyData.depthAll, PyData.depth] at ih ⊢
    (first | assumption | decide | exact le0 (by assumption) (by decide) | exact le1 (by assumption) (by decide) | exact le2 (by assumption) (by assumption) (by decide) | lia | omega)
section
variable {C : Cx} {n : Nat} {σ : List AO} {Q : AV → List AO → Prop}
theorem law_6 {ts : List Told} {D late : List Nat} {kl kd kt many mask : Nat} {a : Addr} (hC : C.Ok recs) (hkl : σ[kl]? = some (.list (ts.map Told.enc))) (hkd : σ[kd]? = some (.list (D.map domA))) (hD : D.length = many) (h5 : many ≤ 5) (hts : ts.length ≤ 5)
    (hok : ∀ t ∈ ts, t.Ok ∧ t.More) (hn : (ts.map Told.name).Nodup) (h : ∀ σ', Q (.bool true) σ') :
    ExS C (n + 8) d20.scope ([("late", .tup (avN late)), ("mask", .int (mask : Int)), ("domains", .ref kd), ("many", .int (many : Int)), ("tolds", .ref kl), ("tape", .ref kt), ("script", .fix a)] : List (Str × AV)) (d20.body.drop 6) σ fun o _ σ' => Q (o.getD .none) σ' := by
  refine ex_cons ?_
  repeat ktr_rel
  have hkd1 : (σ ++ [AO.list []])[kd]? = some (.list (D.map domA)) := (Keep.refl (X := [])).app.get hkd (by first | exact nn | exact lb rfl | simp)
  have hkl1 : (σ ++ [AO.list []])[kl]? = some (.list (ts.map Told.enc)) := (Keep.refl (X := [])).app.get hkl (by first | exact nn | exact lb rfl | simp)
  have hkdn := get_lt hkd
  have hkln := get_lt hkl
  refine ex_for ?_ (fun _ _ => rfl)
  refine evi_range hC rfl rfl rfl rfl ?_
  repeat ktr_rel
  refine ⟨many, rfl, by (first | assumption | decide | exact le0 (by assumption) (by decide) | exact le1 (by assumption) (by decide) | exact le2 (by assumption) (by assumption) (by decide) | lia | omega), ?_⟩
  refine ⟨fun i σi => Keep [σ.length] (σ ++ [AO.list []]) σi ∧ σi[σ.length]? = some (.list (((List.range i).filter (dueC D late ts)).map fun x => AV.tup (avN (lotD D late ts x)))), ⟨Keep.refl, by simp⟩, fun i σi hi => trivial, fun i av σi hav hi => ?_, fun σf hf' => ?_⟩
  · rw [List.getElem?_map] at hav
    have hil : i < many := by
      cases hr : (List.range many)[i]? with
      | none => rw [hr] at hav; cases hav
      | some v => have := (List.getElem?_eq_some_iff.mp hr).1; simpa using this
    have : av = .int (i : Int) := by simp [hil] at hav; exact hav.symm
    subst this
    obtain ⟨hK, hdue⟩ := hi
    have hkdi := hK.get hkd1 (by simp; (first | assumption | decide | exact le0 (by assumption) (by decide) | exact le1 (by assumption) (by decide) | exact le2 (by assumption) (by assumption) (by decide) | lia | omega))
    have hkli := hK.get hkl1 (by simp; (first | assumption | decide | exact le0 (by assumption) (by decide) | exact le1 (by assumption) (by decide) | exact le2 (by assumption) (by assumption) (by decide) | lia | omega))
    have gD : ∀ v, v < many → (D.map domA)[(v : Int).toNat]? = some (domA (D.getD v 0)) := fun v hv => by
      simp [List.getD_eq_getElem?_getD, show v < D.length by (first | assumption | decide | exact le0 (by assumption) (by decide) | exact le1 (by assumption) (by decide) | exact le2 (by assumption) (by assumption) (by decide) | lia | omega)]
    refine as_name rfl ?_
    refine ex_cons (ex_assignC ⟨rfl, by decide, rfl, rfl⟩ (fun _ _ => rfl) rfl ?_)
    refine evi_range hC rfl rfl rfl rfl ?_
    repeat ktr_rel
    refine ⟨many, rfl, by (first | assumption | decide | exact le0 (by assumption) (by decide) | exact le1 (by assumption) (by decide) | exact le2 (by assumption) (by assumption) (by decide) | lia | omega), ?_⟩
    refine comp_pure (X := []) (xs := List.range many) (enc := fun (v : Nat) => .int (v : Int)) (g := fun (v : Nat) => .int (v : Int)) (p := fun y => !decide (y ∈ late) && sameD D i y) rfl (by simp; (first | assumption | decide | exact le0 (by assumption) (by decide) | exact le1 (by assumption) (by decide) | exact le2 (by assumption) (by assumption) (by decide) | lia | omega)) (fun _ _ => trivial) (fun y hy σj hj => ?_) (fun σj hj => ?_)
    · have hym := List.mem_range.mp hy
      have hkdj := hj.get hkdi (by first | exact nn | exact lb rfl | simp)
      refine as_name rfl ?_
      show EvB _ _ _ _ _ _ _
      refine eb_bool (eva_and ?_)
      repeat ktr_rel
      refine cmp_notin_nats ?_
      cases hb : (!decide (y ∈ late)) with
      | false => exact ⟨by simp [hb], hj⟩
      | true =>
        refine eva_and ?_
        repeat ktr_rel
        refine sub_list (a := domA (D.getD i 0)) hkdj (by (first | assumption | decide | exact le0 (by assumption) (by decide) | exact le1 (by assumption) (by decide) | exact le2 (by assumption) (by assumption) (by decide) | lia | omega)) (gD i hil) ?_ (by omega)
        repeat ktr_rel
        refine sub_list (a := domA (D.getD y 0)) hkdj (by (first | assumption | decide | exact le0 (by assumption) (by decide) | exact le1 (by assumption) (by decide) | exact le2 (by assumption) (by assumption) (by decide) | lia | omega)) (gD y hym) ?_ (by omega)
        refine cmp_eq (pyOf (domA_pure _)) (pyOf (domA_pure _)) (lay_py (domA_pure _)) (lay_py (domA_pure _)) (Nat.le_trans (Nat.min_le_left _ _) (domA_dep _)) ?_
        show match sameD D i y with | true => _ | false => _
        cases hs : sameD D i y with
        | true =>
          refine eva_and0 ?_
          show EvE _ _ _ _ _ _ _
          repeat ktr_rel
          first | exact ⟨rfl, rfl, hj⟩ | exact ⟨rfl, hj⟩
        | false => exact ⟨rfl, hj⟩
    · have hj1 := hj.app (o := .list (avN ((List.range many).filter fun y => !decide (y ∈ late) && sameD D i y)))
      have hf1 : (σj ++ [AO.list (avN ((List.range many).filter fun y => !decide (y ∈ late) && sameD D i y))])[σj.length]? = some (.list (avN ((List.range many).filter fun y => !decide (y ∈ late) && sameD D i y))) := get_app
      have hfl : ((List.range many).filter fun y => !decide (y ∈ late) && sameD D i y).length ≤ 5 := by
        have := List.length_filter_le (fun y => !decide (y ∈ late) && sameD D i y) (List.range many)
        rw [List.length_range] at this
        (first | assumption | decide | exact le0 (by assumption) (by decide) | exact le1 (by assumption) (by decide) | exact le2 (by assumption) (by assumption) (by decide) | lia | omega)
      have elot : lotD D late ts i = ((List.range many).filter fun y => !decide (y ∈ late) && sameD D i y).filter fun y => decide (y = i) || decide (ts.filter (fun t => !alikeLaw t i y) = []) := by unfold lotD; rw [hD]
      have hFn : ∀ y ∈ ((List.range many).filter fun y => !decide (y ∈ late) && sameD D i y), y < many := fun y hy => List.mem_range.mp (List.mem_filter.mp hy).1
      generalize ((List.range many).filter fun y => !decide (y ∈ late) && sameD D i y) = fellows at *
      show ExS _ _ _ _ _ _ _
      refine ex_cons (ex_assignC ⟨rfl, by decide, rfl, rfl⟩ (fun _ _ => rfl) rfl ?_)
      refine evi_list rfl ?_
      repeat ktr_rel
      refine ⟨_, _, rfl, hf1, ?_⟩
      have hl1 : (σj ++ [AO.list (avN fellows)])[kl]? = some (.list (ts.map Told.enc)) := hj1.get hkli (by first | exact nn | exact lb rfl | simp)
      refine comp_pure (X := []) (xs := fellows) (enc := fun (v : Nat) => .int (v : Int)) (g := fun (v : Nat) => .int (v : Int)) (p := fun y => decide (y = i) || decide (ts.filter (fun t => !alikeLaw t i y) = [])) rfl (by (first | assumption | decide | exact le0 (by assumption) (by decide) | exact le1 (by assumption) (by decide) | exact le2 (by assumption) (by assumption) (by decide) | lia | omega)) (fun σk hk' => hk'.get hf1 (by first | exact nn | exact lb rfl | simp)) (fun y hy σk hk' => ?_) (fun σk hk' => ?_)
      · have hlk := hk'.get hl1 (by first | exact nn | exact lb rfl | simp)
        refine as_name rfl ?_
        show EvB _ _ _ _ _ _ _
        refine eb_bool (eva_or ?_)
        repeat ktr_rel
        refine cmp_eq_int ?_
        rw [eqI]
        cases hyi : decide (y = i) with
        | true =>
          show EvE _ _ _ _ _ _ _
          repeat ktr_rel
          first | exact ⟨rfl, rfl, hk'⟩ | exact ⟨rfl, hk'⟩
        | false =>
          refine eva_or (eb_cmp ?_)
          refine ev_comp ⟨rfl, by decide, rfl, rfl⟩ (fun _ _ => rfl) ?_
          refine evi_list rfl ?_
          repeat ktr_rel
          refine ⟨_, _, rfl, hlk, ?_⟩
          refine comp_pure (X := []) (xs := ts) (enc := Told.enc) (g := Told.enc) (p := fun t => !alikeLaw t i y) rfl (by (first | assumption | decide | exact le0 (by assumption) (by decide) | exact le1 (by assumption) (by decide) | exact le2 (by assumption) (by assumption) (by decide) | lia | omega)) (fun σm hm => hm.get hlk (by first | exact nn | exact lb rfl | simp)) (fun t ht σm hm => ?_) (fun σm hm => ?_)
          · refine as_name rfl ?_
            show EvB _ _ _ _ _ _ _
            refine eb_not (eb_value ?_)
            refine ev_callF hC d19_mem rfl rfl ?_
            repeat ktr_rel
            refine c_alike (n := n + 5) hC (hok t ht).1 (hok t ht).2 fun σv hv => ?_
            refine ⟨_, rfl, ?_⟩
            cases hal : alikeLaw t i y with
            | true => exact ⟨rfl, hm.trans hv⟩
            | false =>
              show EvE _ _ _ _ _ _ _
              repeat ktr_rel
              first | exact ⟨rfl, rfl, hm.trans hv⟩ | exact ⟨rfl, hm.trans hv⟩
          · repeat ktr_rel
            have p1 : avPureL ((ts.filter (fun t => !alikeLaw t i y)).map Told.enc) = true := encsL_pure fun u hu => (hok u (List.mem_filter.mp hu).1).1
            refine cmp_eq (.ref ((Keep.refl (X := [])).app.get get_app (by first | exact nn | exact lb rfl | simp)) (pyOfL p1)) (.ref get_app (.nil)) (lay_pyL p1) rfl (Nat.le_trans (Nat.min_le_right _ _) (Nat.le_of_ble_eq_true rfl)) ?_
            have e8 : PyData.eqv (.list (toPyL ((ts.filter (fun t => !alikeLaw t i y)).map Told.enc))) (.list []) = decide (ts.filter (fun t => !alikeLaw t i y) = []) := by
              cases ts.filter (fun t => !alikeLaw t i y) <;> simp [toPyL, PyData.eqv, PyData.eqvAll]
            rw [e8]
            have hm2 := hk'.trans ((hm.app (o := .list ((ts.filter (fun t => !alikeLaw t i y)).map Told.enc))).app (o := .list []))
            cases hd : decide (ts.filter (fun t => !alikeLaw t i y) = []) with
            | true =>
              show EvE _ _ _ _ _ _ _
              repeat ktr_rel
              first | exact ⟨rfl, rfl, hm2⟩ | exact ⟨rfl, hm2⟩
            | false =>
              refine eva_or0 ?_
              first | exact ⟨rfl, hm2⟩ | exact hm2
      · rw [← elot]
        have elot' : (fellows.filter fun y => decide (y = i) || decide (ts.filter (fun t => !alikeLaw t i y) = [])) = lotD D late ts i := elot.symm
        have hlot : (σk ++ [AO.list ((lotD D late ts i).map fun (v : Nat) => AV.int (v : Int))])[σk.length]? = some (.list (avN (lotD D late ts i))) := get_app
        have hK2 : Keep [σ.length] (σ ++ [AO.list []]) (σk ++ [AO.list ((lotD D late ts i).map fun (v : Nat) => AV.int (v : Int))]) := hK.trans ((hj1.trans (hk'.app (o := .list ((lotD D late ts i).map fun (v : Nat) => AV.int (v : Int))))).wide (by first | exact nn | exact lb rfl | simp))
        have hdue2 : (σk ++ [AO.list ((lotD D late ts i).map fun (v : Nat) => AV.int (v : Int))])[σ.length]? = _ := (hj1.trans (hk'.app (o := .list ((lotD D late ts i).map fun (v : Nat) => AV.int (v : Int))))).get hdue (by first | exact nn | exact lb rfl | simp)
        generalize hσ2 : σk ++ [AO.list ((lotD D late ts i).map fun (v : Nat) => AV.int (v : Int))] = σ2 at *
        have ell : (lotD D late ts i).length ≤ 5 := by
          rw [elot]
          exact Nat.le_trans (List.length_filter_le _ _) hfl
        have erange : (List.range (i + 1)).filter (dueC D late ts) = (List.range i).filter (dueC D late ts) ++ (if dueC D late ts i then [i] else []) := by
          rw [List.range_succ, List.filter_append]
          congr 1
          cases hq : dueC D late ts i <;> simp [List.filter_cons, hq]
        have noadd : dueC D late ts i = false → Keep [σ.length] (σ ++ [AO.list []]) σ2 ∧ σ2[σ.length]? = some (.list (((List.range (i + 1)).filter (dueC D late ts)).map fun x => AV.tup (avN (lotD D late ts x)))) := fun e => by
          refine ⟨hK2, ?_⟩
          rw [erange, e, hdue2]; simp
        refine ex_cons (ex_if (eb_bool (eva_and ?_)))
        repeat ktr_rel
        refine cmp_notin_nats ?_
        cases hb : (!decide (i ∈ late)) with
        | false =>
          refine ex_nil (ex_nil ?_)
          exact ⟨rfl, skip_name rfl (skip_name rfl (skip_name rfl fun _ _ h => h)), noadd (by unfold dueC; rw [hb]; rfl)⟩
        | true =>
          have hmem : i ∈ lotD D late ts i := by
            rw [lotD_cls]
            exact List.mem_filter.mpr ⟨List.mem_filter.mpr ⟨List.mem_range.mpr (by (first | assumption | decide | exact le0 (by assumption) (by decide) | exact le1 (by assumption) (by decide) | exact le2 (by assumption) (by assumption) (by decide) | lia | omega)), hb⟩, by simp [eqR]⟩
          obtain ⟨y, r, hyr⟩ : ∃ y r, lotD D late ts i = y :: r := by
            cases hq : lotD D late ts i with
            | nil => rw [hq] at hmem; cases hmem
            | cons y r => exact ⟨y, r, rfl⟩
          refine eva_and ?_
          repeat ktr_rel
          refine sub_list (a := .int (y : Int)) hlot (by (first | assumption | decide | exact le0 (by assumption) (by decide) | exact le1 (by assumption) (by decide) | exact le2 (by assumption) (by assumption) (by decide) | lia | omega)) (by rw [hyr]; rfl) ?_
          repeat ktr_rel
          refine cmp_eq_int ?_
          rw [eqI]
          have ehd : (lotD D late ts i).headD 0 = y := by rw [hyr]; rfl
          cases hyi : decide (y = i) with
          | false =>
            refine ex_nil (ex_nil ?_)
            exact ⟨rfl, skip_name rfl (skip_name rfl (skip_name rfl fun _ _ h => h)), noadd (by unfold dueC; rw [hb, ehd, hyi]; rfl)⟩
          | true =>
            refine eva_and ?_
            repeat ktr_rel
            refine evB_len hC rfl ?_
            repeat ktr_rel
            refine cv_len_list hlot (by first | exact avN_le (by assumption) (by decide) | (simp [avN]; (first | assumption | decide | exact le0 (by assumption) (by decide) | exact le1 (by assumption) (by decide) | exact le2 (by assumption) (by assumption) (by decide) | lia | omega))) ?_
            repeat ktr_rel
            refine cmp_gt_int ?_
            have ed : decide ((1 : Int) < ((avN (lotD D late ts i)).length : Int)) = decide (1 < (lotD D late ts i).length) := by
              simp only [avN, List.length_map]
              exact decide_eq_decide.mpr (by (first | assumption | decide | exact le0 (by assumption) (by decide) | exact le1 (by assumption) (by decide) | exact le2 (by assumption) (by assumption) (by decide) | lia | omega))
            rw [ed]
            cases hlen : decide (1 < (lotD D late ts i).length) with
            | false =>
              refine ex_nil (ex_nil ?_)
              exact ⟨rfl, skip_name rfl (skip_name rfl (skip_name rfl fun _ _ h => h)), noadd (by unfold dueC; rw [hb, ehd, hyi, hlen]; rfl)⟩
            | true =>
              refine eva_and0 ?_
              refine ex_cons (ex_expr ?_ (by intro _; rfl))
              refine ev_append rfl rfl (by decide) ?_
              repeat ktr_rel
              refine ⟨_, _, rfl, hdue2, ?_⟩
              refine evB_tuple hC rfl ?_
              repeat ktr_rel
              refine cv_tuple_list hlot (by first | exact avN_le (by assumption) (by decide) | (simp [avN]; (first | assumption | decide | exact le0 (by assumption) (by decide) | exact le1 (by assumption) (by decide) | exact le2 (by assumption) (by assumption) (by decide) | lia | omega))) ?_
              refine ⟨_, hdue2, by
                rw [List.length_map]
                have := List.length_filter_le (dueC D late ts) (List.range i)
                rw [List.length_range] at this
                (first | assumption | decide | exact le0 (by assumption) (by decide) | exact le1 (by assumption) (by decide) | exact le2 (by assumption) (by assumption) (by decide) | lia | omega), ?_⟩
              refine ex_nil (ex_nil ?_)
              refine ⟨rfl, skip_name rfl (skip_name rfl (skip_name rfl fun _ _ h => h)), hK2.set (.inr (by first | exact nn | exact lb rfl | simp)), ?_⟩
              have edue : dueC D late ts i = true := by unfold dueC; rw [hb, ehd, hyi, hlen]; rfl
              rw [get_set hdue2, erange, edue, List.map_append]
              rfl
  · rw [List.length_map, List.length_range] at hf'
    obtain ⟨hK, hdue⟩ := hf'
    have hkdi := hK.get hkd1 (by simp; (first | assumption | decide | exact le0 (by assumption) (by decide) | exact le1 (by assumption) (by decide) | exact le2 (by assumption) (by assumption) (by decide) | lia | omega))
    have hkli := hK.get hkl1 (by simp; (first | assumption | decide | exact le0 (by assumption) (by decide) | exact le1 (by assumption) (by decide) | exact le2 (by assumption) (by assumption) (by decide) | lia | omega))
    refine ex_cons (ex_return (ev_cmp ?_))
    refine ev_callF hC d11_mem rfl rfl ?_
    repeat ktr_rel
    refine c_var_lots (n := n) (late := late) (D := D) (ts := ts) hC hkli hkdi (by (first | assumption | decide | exact le0 (by assumption) (by decide) | exact le1 (by assumption) (by decide) | exact le2 (by assumption) (by assumption) (by decide) | lia | omega)) hts hok hn fun σ1 k1 hK1 hk1 => ?_
    repeat ktr_rel
    have hdue1 := hK1.get hdue (by first | exact nn | exact lb rfl | simp)
    rw [lots_due, List.map_map, hD] at hk1
    have e2 : (fun x => AV.tup (avN (lotD D late ts x))) = (fun l => AV.tup (avN l)) ∘ lotD D late ts := rfl
    rw [e2] at hdue1
    have p1 : avPureL (((List.range many).filter (dueC D late ts)).map ((fun l => AV.tup (avN l)) ∘ lotD D late ts)) = true := by rw [← List.map_map]; exact pureTN _
    have hdp : PyData.depthAll (toPyL (((List.range many).filter (dueC D late ts)).map ((fun l => AV.tup (avN l)) ∘ lotD D late ts))) ≤ 2 := by rw [← List.map_map]; exact depTN _
    refine cmp_eq (.ref hk1 (pyOfL p1)) (.ref hdue1 (pyOfL p1)) (lay_pyL p1) (lay_pyL p1) (Nat.le_trans (Nat.min_le_left _ _) (by simp only [PyData.depth]; (first | assumption | decide | exact le0 (by assumption) (by decide) | exact le1 (by assumption) (by decide) | exact le2 (by assumption) (by assumption) (by decide) | lia | omega))) ?_
    have e8 : ∀ l, avPureL l = true → PyData.eqv (.list (toPyL l)) (.list (toPyL l)) = true := fun l hl => by
      show PyData.eqvAll (toPyL l) (toPyL l) = true
      exact (eqv_pyL hl hl).mpr rfl
    rw [e8 _ p1]
    exact h σ1
end

-- part W34
theorem namesL_pure {us : List Told} (h : ∀ u ∈ us, u.Ok) : avPureL (us.map fun t => .str t.name) = true := by
  induction us with
  | nil => rfl
  | cons u us ih =>
    simp only [List.map_cons, avPureL, Bool.and_eq_true]
    exact ⟨pure_name (h u (.head _)).name, ih fun v hv => h v (.tail _ hv)⟩
theorem anyS {x : Str} {us : List Told} : ((toPyL (us.map fun t => .str t.name)).any fun y => PyData.eqv y (.str x)) = decide (x ∈ us.map Told.name) := by
  induction us with
  | nil => rfl
  | cons u us ih =>
    simp only [List.map_cons, toPyL, toPy, List.any_cons] at ih ⊢
    rw [ih]
    by_cases h : x = u.name
    · subst h; simp [PyData.eqv]
    · have h' : ¬ u.name = x := fun e => h e.symm
      simp [PyData.eqv, h, h']
theorem Tape.setk {σ : List AO} {kt kc k : Nat} {cells : List Int} {spot : Nat} {o : AO} (T : Tape σ kt kc cells spot) (h1 : k ≠ kt) (h2 : k ≠ kc) : Tape (σ.set k o) kt kc cells spot :=
  ⟨by rw [List.getElem?_set_ne h1]; exact T.dict, by rw [List.getElem?_set_ne h2]; exact T.cells, T.ne⟩
section
variable {C : Cx} {n : Nat} {σ : List AO} {Q : AV → List AO → Prop}
theorem domA_if (i : Nat) (h : i < 3) : (if i = 0 then AV.tup [.tup [.int 0, .int 1]] else if i = 1 then AV.tup [.tup [.int 0, .int 1]] else AV.tup [.tup [.int 0, .int 0], .tup [.int 2, .int 2]]) = domA i := by
  rcases (by (first | assumption | decide | exact le0 (by assumption) (by decide) | exact le1 (by assumption) (by decide) | exact le2 (by assumption) (by assumption) (by decide) | lia | omega) : i = 0 ∨ i = 1 ∨ i = 2) with rfl | rfl | rfl <;> rfl
theorem c_law {a : Addr} {ws : List Value} {script : List Int} (hC : C.Ok recs) (hB : C.B.IsList a ws.toArray) (hI : IntsAre ws script) (hz : script.length ≤ 63) (h : ∀ σ', Q (.bool true) σ') : CallF C (n + 9) "law" [.fix a] σ Q := by
  refine callF hC d20_mem d20_ok rfl ?_
  refine ex_cons ?_
  refine ex_unpack rfl rfl ?_ (by intro _; rfl) (by intro env h; obtain ⟨⟩ := env; cases h; rfl)
  repeat ktr_rel
  refine ev_dictS2 ?_
  repeat ktr_rel
  refine ev_comp ⟨rfl, by decide, rfl, rfl⟩ (fun _ _ => rfl) ?_
  refine evi_list rfl ?_
  refine ev_slice_fix (b := 60) rfl hB hI (by (first | assumption | decide | exact le0 (by assumption) (by decide) | exact le1 (by assumption) (by decide) | exact le2 (by assumption) (by assumption) (by decide) | lia | omega)) ?_
  repeat ktr_rel
  refine ⟨rfl, _, _, rfl, get_app, ?_⟩
  have hcl : (script.take 60).length ≤ 60 := by rw [List.length_take]; (first | assumption | decide | exact le0 (by assumption) (by decide) | exact le1 (by assumption) (by decide) | exact le2 (by assumption) (by assumption) (by decide) | lia | omega)
  generalize script.take 60 = cells at *
  refine comp_pure (X := []) (xs := cells) (enc := .int) (g := .int) (p := fun _ => true) rfl (by (first | assumption | decide | exact le0 (by assumption) (by decide) | exact le1 (by assumption) (by decide) | exact le2 (by assumption) (by assumption) (by decide) | lia | omega)) (fun σi hi => hi.get get_app (by first | exact nn | exact lb rfl | simp)) (fun x hx σj hj => ?_) (fun σj hj => ?_)
  · refine as_name rfl ?_
    show EvE _ _ _ _ _ _ _
    refine evB_int hC rfl ?_
    repeat ktr_rel
    refine cv_int ?_
    exact ⟨rfl, rfl, hj⟩
  · have ef : (cells.filter fun _ => true) = cells := List.filter_eq_self.mpr fun _ _ => rfl
    rw [ef]
    repeat ktr_rel
    refine ⟨_, _, rfl, rfl, ?_⟩
    have hKc : Keep [] (σ ++ [AO.list (cells.map .int)]) (σj ++ [AO.list (cells.map .int)]) := hj.app
    have hc1 : (σj ++ [AO.list (cells.map AV.int)])[σj.length]? = some (.list (cells.map .int)) := get_app
    generalize hs2 : σj ++ [AO.list (cells.map AV.int)] = σ2 at *
    generalize hkc : σj.length = kc at *
    have T0 : Tape (σ2 ++ [AO.dictS [("cells", .ref kc), ("spot", .int ((0 : Nat) : Int))]] ++ [AO.list []]) σ2.length kc cells 0 := by
      have hlt := get_lt hc1
      refine ⟨?_, ?_, by (first | assumption | decide | exact le0 (by assumption) (by decide) | exact le1 (by assumption) (by decide) | exact le2 (by assumption) (by assumption) (by decide) | lia | omega)⟩
      · rw [List.getElem?_append_left (by first | exact nn | exact lb rfl | simp)]; exact get_app
      · rw [List.getElem?_append_left (by simp; (first | assumption | decide | exact le0 (by assumption) (by decide) | exact le1 (by assumption) (by decide) | exact le2 (by assumption) (by assumption) (by decide) | lia | omega)), List.getElem?_append_left hlt]; exact hc1
    have hl0 : (σ2 ++ [AO.dictS [("cells", .ref kc), ("spot", .int ((0 : Nat) : Int))]] ++ [AO.list []])[σ2.length + 1]? = some (.list []) := by
      have : (σ2 ++ [AO.dictS [("cells", .ref kc), ("spot", .int ((0 : Nat) : Int))]]).length = σ2.length + 1 := by simp
      rw [← this]; exact get_app
    repeat ktr_rel
    refine ⟨by first | exact lb rfl | simp, _, rfl, rfl, ?_⟩
    have e0 : (σ2 ++ [AO.dictS (setS (setS [] (Str.ofString "cells") (AV.ref kc)) (Str.ofString "spot") (AV.int 0))] ++ [AO.list []]) = (σ2 ++ [AO.dictS [("cells", .ref kc), ("spot", .int ((0 : Nat) : Int))]] ++ [AO.list []]) := rfl
    have e1 : (σ2 ++ [AO.dictS (setS (setS [] (Str.ofString "cells") (AV.ref kc)) (Str.ofString "spot") (AV.int 0))]).length = σ2.length + 1 := by simp
    rw [e0, e1]
    generalize (σ2 ++ [AO.dictS [(("cells" : Str), AV.ref kc), ("spot", .int ((0 : Nat) : Int))]] ++ [AO.list []]) = σ3 at *
    have hne : σ2.length + 1 ≠ σ2.length := by (first | assumption | decide | exact le0 (by assumption) (by decide) | exact le1 (by assumption) (by decide) | exact le2 (by assumption) (by assumption) (by decide) | lia | omega)
    have hne2 : kc ≠ σ2.length + 1 := by have := get_lt hc1; (first | assumption | decide | exact le0 (by assumption) (by decide) | exact le1 (by assumption) (by decide) | exact le2 (by assumption) (by assumption) (by decide) | lia | omega)
    generalize hkt : σ2.length = kt at *
    generalize hkl : kt + 1 = kl at *
    show ExS C (n + 8) d20.scope ([("tolds", .ref kl), ("tape", .ref kt), ("script", .fix a)] : List (Str × AV)) (d20.body.drop 1) σ3 _
    clear hj hKc e0 e1
    refine ex_cons ?_
    repeat ktr_rel
    refine ev_callF hC d12_mem rfl rfl ?_
    repeat ktr_rel
    refine c_takeN (n := n + 7) (w := 3) hC T0 (by (first | assumption | decide | exact le0 (by assumption) (by decide) | exact le1 (by assumption) (by decide) | exact le2 (by assumption) (by assumption) (by decide) | lia | omega)) (by (first | assumption | decide | exact le0 (by assumption) (by decide) | exact le1 (by assumption) (by decide) | exact le2 (by assumption) (by assumption) (by decide) | lia | omega)) hcl (by (first | assumption | decide | exact le0 (by assumption) (by decide) | exact le1 (by assumption) (by decide) | exact le2 (by assumption) (by assumption) (by decide) | lia | omega)) fun σ4 hK4 T4 => ?_
    refine bin_add ?_
    have hm3 := takeN_lt (cells := cells) (spot := 0) (w := 3) (by (first | assumption | decide | exact le0 (by assumption) (by decide) | exact le1 (by assumption) (by decide) | exact le2 (by assumption) (by assumption) (by decide) | lia | omega))
    have em : (3 : Int) + ((takeN cells 0 3 : Nat) : Int) = ((3 + takeN cells 0 3 : Nat) : Int) := by (first | assumption | decide | exact le0 (by assumption) (by decide) | exact le1 (by assumption) (by decide) | exact le2 (by assumption) (by assumption) (by decide) | lia | omega)
    rw [em]
    have hm : 3 ≤ 3 + takeN cells 0 3 := by (first | assumption | decide | exact le0 (by assumption) (by decide) | exact le1 (by assumption) (by decide) | exact le2 (by assumption) (by assumption) (by decide) | lia | omega)
    have hm' : 3 + takeN cells 0 3 ≤ 5 := by (first | assumption | decide | exact le0 (by assumption) (by decide) | exact le1 (by assumption) (by decide) | exact le2 (by assumption) (by assumption) (by decide) | lia | omega)
    generalize 3 + takeN cells 0 3 = many at *
    have hl4 := hK4.get hl0 (by simp; (first | assumption | decide | exact le0 (by assumption) (by decide) | exact le1 (by assumption) (by decide) | exact le2 (by assumption) (by assumption) (by decide) | lia | omega))
    refine ex_cons (ex_assignC ⟨rfl, by decide, rfl, rfl⟩ (fun _ _ => rfl) rfl ?_)
    refine evi_range hC rfl rfl rfl rfl ?_
    repeat ktr_rel
    refine ⟨many, rfl, by (first | assumption | decide | exact le0 (by assumption) (by decide) | exact le1 (by assumption) (by decide) | exact le2 (by assumption) (by assumption) (by decide) | lia | omega), ?_⟩
    refine comp_takes (kt := kt) (kc := kc) (m := many) (cells := cells) (spot := 0 + 1) (g := fun i => domA (takeN cells (0 + 1 + i) 3)) (fun _ => trivial) (by first | exact nn | exact lb rfl | simp) (by (first | assumption | decide | exact le0 (by assumption) (by decide) | exact le1 (by assumption) (by decide) | exact le2 (by assumption) (by assumption) (by decide) | lia | omega)) T4 (fun i av σi hav hlt hK hT => ?_) (fun σf hK hT => ?_)
    · refine as_name rfl ?_
      repeat ktr_rel
      refine ev_callF hC d12_mem rfl rfl ?_
      repeat ktr_rel
      refine c_takeN (n := n + 7) (w := 3) hC hT (by (first | assumption | decide | exact le0 (by assumption) (by decide) | exact le1 (by assumption) (by decide) | exact le2 (by assumption) (by assumption) (by decide) | lia | omega)) (by (first | assumption | decide | exact le0 (by assumption) (by decide) | exact le1 (by assumption) (by decide) | exact le2 (by assumption) (by assumption) (by decide) | lia | omega)) hcl (by (first | assumption | decide | exact le0 (by assumption) (by decide) | exact le1 (by assumption) (by decide) | exact le2 (by assumption) (by assumption) (by decide) | lia | omega)) fun σ5 hK5 T5 => ?_
      have h3 := takeN_lt (cells := cells) (spot := 0 + 1 + i) (w := 3) (by (first | assumption | decide | exact le0 (by assumption) (by decide) | exact le1 (by assumption) (by decide) | exact le2 (by assumption) (by assumption) (by decide) | lia | omega))
      refine sub3 h3 ?_
      rw [domA_if _ h3]
      exact ⟨rfl, hK.trans hK5, T5⟩
    · have eD : ((List.range many).map fun i => domA (takeN cells (0 + 1 + i) 3)) = ((List.range many).map fun i => takeN cells (0 + 1 + i) 3).map domA := by rw [List.map_map]; rfl
      rw [eD]
      have lD : ((List.range many).map fun i => takeN cells (0 + 1 + i) 3).length = many := by simp
      generalize ((List.range many).map fun i => takeN cells (0 + 1 + i) 3) = D at *
      have T6 := hT.keep (Keep.refl.app (o := .list (D.map domA)))
      have hl6 : (σf ++ [AO.list (D.map domA)])[kl]? = some (.list []) := (Keep.refl (X := [])).app.get (hK.get hl4 (by simp; (first | assumption | decide | exact le0 (by assumption) (by decide) | exact le1 (by assumption) (by decide) | exact le2 (by assumption) (by assumption) (by decide) | lia | omega))) (by first | exact nn | exact lb rfl | simp)
      have hd6 : (σf ++ [AO.list (D.map domA)])[σf.length]? = some (.list (D.map domA)) := get_app
      have hkd : kl ≠ σf.length := by have := get_lt (hK.get hl4 (by simp; (first | assumption | decide | exact le0 (by assumption) (by decide) | exact le1 (by assumption) (by decide) | exact le2 (by assumption) (by assumption) (by decide) | lia | omega))); (first | assumption | decide | exact le0 (by assumption) (by decide) | exact le1 (by assumption) (by decide) | exact le2 (by assumption) (by assumption) (by decide) | lia | omega)
      have hkd' : σf.length ≠ kt := by have := get_lt hT.dict; (first | assumption | decide | exact le0 (by assumption) (by decide) | exact le1 (by assumption) (by decide) | exact le2 (by assumption) (by assumption) (by decide) | lia | omega)
      generalize hσ6 : σf ++ [AO.list (D.map domA)] = σ6 at *
      generalize hkdn : σf.length = kd at *
      show ExS _ _ _ _ _ _ _
      refine ex_cons ?_
      repeat ktr_rel
      refine ev_callF hC d12_mem rfl rfl ?_
      repeat ktr_rel
      refine c_takeN (n := n + 7) (w := 8) hC T6 (by (first | assumption | decide | exact le0 (by assumption) (by decide) | exact le1 (by assumption) (by decide) | exact le2 (by assumption) (by assumption) (by decide) | lia | omega)) (by (first | assumption | decide | exact le0 (by assumption) (by decide) | exact le1 (by assumption) (by decide) | exact le2 (by assumption) (by assumption) (by decide) | lia | omega)) hcl (by (first | assumption | decide | exact le0 (by assumption) (by decide) | exact le1 (by assumption) (by decide) | exact le2 (by assumption) (by assumption) (by decide) | lia | omega)) fun σ7 hK7 T7 => ?_
      have hl7 := hK7.get hl6 (by simp; (first | assumption | decide | exact le0 (by assumption) (by decide) | exact le1 (by assumption) (by decide) | exact le2 (by assumption) (by assumption) (by decide) | lia | omega))
      have hd7 := hK7.get hd6 (by simp; (first | assumption | decide | exact le0 (by assumption) (by decide) | exact le1 (by assumption) (by decide) | exact le2 (by assumption) (by assumption) (by decide) | lia | omega))
      generalize takeN cells (0 + 1 + many) 8 = mask at *
      refine ex_cons ?_
      repeat ktr_rel
      refine evB_tuple hC rfl ?_
      refine evl_cons (ev_comp ⟨rfl, by decide, rfl, rfl⟩ (fun _ _ => rfl) ?_)
      refine evi_range hC rfl rfl rfl rfl ?_
      repeat ktr_rel
      refine ⟨many, rfl, by (first | assumption | decide | exact le0 (by assumption) (by decide) | exact le1 (by assumption) (by decide) | exact le2 (by assumption) (by assumption) (by decide) | lia | omega), ?_⟩
      refine comp_pure (X := []) (xs := List.range many) (enc := fun (v : Nat) => .int (v : Int)) (g := fun (v : Nat) => .int (v : Int)) (p := fun x => decide (mask = x + 1)) rfl (by simp; (first | assumption | decide | exact le0 (by assumption) (by decide) | exact le1 (by assumption) (by decide) | exact le2 (by assumption) (by assumption) (by decide) | lia | omega)) (fun _ _ => trivial) (fun x hx σj hj => ?_) (fun σj hj => ?_)
      · refine as_name rfl ?_
        show EvB _ _ _ _ _ _ _
        repeat ktr_rel
        refine bin_add ?_
        refine cmp_eq_int ?_
        have ee : ((mask : Int) == (x : Int) + 1) = decide (mask = x + 1) := by
          have := eqI (x := mask) (y := x + 1)
          rw [← this]; simp
        rw [ee]
        cases hb : decide (mask = x + 1) with
        | true =>
          show EvE _ _ _ _ _ _ _
          repeat ktr_rel
          first | exact ⟨rfl, rfl, hj⟩ | exact ⟨rfl, hj⟩
        | false => exact ⟨rfl, hj⟩
      · refine evl_nil ?_
        have hfl : ((List.range many).filter fun x => decide (mask = x + 1)).length ≤ 5 := by
          have := List.length_filter_le (fun x => decide (mask = x + 1)) (List.range many)
          rw [List.length_range] at this
          (first | assumption | decide | exact le0 (by assumption) (by decide) | exact le1 (by assumption) (by decide) | exact le2 (by assumption) (by assumption) (by decide) | lia | omega)
        refine cv_tuple_list get_app (by first | exact map_le (by assumption) (by decide) | (rw [List.length_map]; (first | assumption | decide | exact le0 (by assumption) (by decide) | exact le1 (by assumption) (by decide) | exact le2 (by assumption) (by assumption) (by decide) | lia | omega))) ?_
        have T8 := T7.keep (hj.app (o := .list (((List.range many).filter fun x => decide (mask = x + 1)).map fun (v : Nat) => AV.int (v : Int))))
        have hl8 := (hj.app (o := .list (((List.range many).filter fun x => decide (mask = x + 1)).map fun (v : Nat) => AV.int (v : Int)))).get hl7 (by first | exact nn | exact lb rfl | simp)
        have hd8 := (hj.app (o := .list (((List.range many).filter fun x => decide (mask = x + 1)).map fun (v : Nat) => AV.int (v : Int)))).get hd7 (by first | exact nn | exact lb rfl | simp)
        show ExS C (n + 8) d20.scope ([("late", .tup (avN ((List.range many).filter fun x => decide (mask = x + 1)))), ("mask", .int (mask : Int)), ("domains", .ref kd), ("many", .int (many : Int)), ("tolds", .ref kl), ("tape", .ref kt), ("script", .fix a)] : List (Str × AV)) (d20.body.drop 5) _ _
        generalize ((List.range many).filter fun x => decide (mask = x + 1)) = late at *
        generalize (σj ++ [AO.list (late.map fun (v : Nat) => AV.int (v : Int))]) = σ8 at *
        refine ex_cons ?_
        refine ex_for ?_ (fun _ _ => rfl)
        refine evi_range hC rfl rfl rfl rfl ?_
        repeat ktr_rel
        refine ev_callF hC d12_mem rfl rfl ?_
        repeat ktr_rel
        refine c_takeN (n := n + 7) (w := 3) hC T8 (by (first | assumption | decide | exact le0 (by assumption) (by decide) | exact le1 (by assumption) (by decide) | exact le2 (by assumption) (by assumption) (by decide) | lia | omega)) (by (first | assumption | decide | exact le0 (by assumption) (by decide) | exact le1 (by assumption) (by decide) | exact le2 (by assumption) (by assumption) (by decide) | lia | omega)) hcl (by (first | assumption | decide | exact le0 (by assumption) (by decide) | exact le1 (by assumption) (by decide) | exact le2 (by assumption) (by assumption) (by decide) | lia | omega)) fun σ9 hK9 T9 => ?_
        have hl9 := hK9.get hl8 (by simp; (first | assumption | decide | exact le0 (by assumption) (by decide) | exact le1 (by assumption) (by decide) | exact le2 (by assumption) (by assumption) (by decide) | lia | omega))
        have hd9 := hK9.get hd8 (by simp; (first | assumption | decide | exact le0 (by assumption) (by decide) | exact le1 (by assumption) (by decide) | exact le2 (by assumption) (by assumption) (by decide) | lia | omega))
        have hl3 := takeN_lt (cells := cells) (spot := 0 + 1 + many + 1) (w := 3) (by (first | assumption | decide | exact le0 (by assumption) (by decide) | exact le1 (by assumption) (by decide) | exact le2 (by assumption) (by assumption) (by decide) | lia | omega))
        refine bin_add ?_
        generalize takeN cells (0 + 1 + many + 1) 3 = laps at *
        refine ⟨1 + laps, by congr 1, by (first | assumption | decide | exact le0 (by assumption) (by decide) | exact le1 (by assumption) (by decide) | exact le2 (by assumption) (by assumption) (by decide) | lia | omega), ?_⟩
        refine ⟨fun i σi => ∃ sp ts, Keep [kt, kl] σ9 σi ∧ Tape σi kt kc cells sp ∧ sp ≤ 10 + 21 * i ∧ σi[kl]? = some (.list (ts.map Told.enc)) ∧ ts.length ≤ i ∧ (∀ t ∈ ts, t.Ok ∧ t.More) ∧ (ts.map Told.name).Nodup,
          ⟨_, [], Keep.refl, T9, by (first | assumption | decide | exact le0 (by assumption) (by decide) | exact le1 (by assumption) (by decide) | exact le2 (by assumption) (by assumption) (by decide) | lia | omega), hl9, by simp, by simp, by simp⟩, fun i σi hi => trivial, fun i av σi hav hi => ?_, fun σf hf' => ?_⟩
        · have hil : i < 1 + laps := by
            rw [List.getElem?_map] at hav
            cases hr : (List.range (1 + laps))[i]? with
            | none => rw [hr] at hav; cases hav
            | some v => have := (List.getElem?_eq_some_iff.mp hr).1; simpa using this
          obtain ⟨sp, ts, hK, hT, hsp, hkl, htl, hok, hn⟩ := hi
          refine as_name rfl ?_
          refine ex_cons ?_
          repeat ktr_rel
          refine ev_callF hC d15_mem rfl rfl ?_
          repeat ktr_rel
          refine ev_callF hC d12_mem rfl rfl ?_
          repeat ktr_rel
          refine c_takeN (n := n + 7) (w := 14) hC hT (by (first | assumption | decide | exact le0 (by assumption) (by decide) | exact le1 (by assumption) (by decide) | exact le2 (by assumption) (by assumption) (by decide) | lia | omega)) (by (first | assumption | decide | exact le0 (by assumption) (by decide) | exact le1 (by assumption) (by decide) | exact le2 (by assumption) (by assumption) (by decide) | lia | omega)) hcl (by (first | assumption | decide | exact le0 (by assumption) (by decide) | exact le1 (by assumption) (by decide) | exact le2 (by assumption) (by assumption) (by decide) | lia | omega)) fun σa hKa Ta => ?_
          refine evl_nil ?_
          have hk14 := takeN_lt (cells := cells) (spot := sp) (w := 14) (by (first | assumption | decide | exact le0 (by assumption) (by decide) | exact le1 (by assumption) (by decide) | exact le2 (by assumption) (by assumption) (by decide) | lia | omega))
          refine c_told (n := n + 4) hC Ta hm hm' hcl (by (first | assumption | decide | exact le0 (by assumption) (by decide) | exact le1 (by assumption) (by decide) | exact le2 (by assumption) (by assumption) (by decide) | lia | omega)) hk14 fun σb hKb Tb => ?_
          have hto := told_ok (cells := cells) (s := sp + 1) hm hm' hk14
          have htn := toldN_le (cells := cells) (s := sp + 1) hm hm' hk14
          generalize toldN cells (sp + 1) many (takeN cells sp 14) = tn at *
          generalize toldV cells (sp + 1) many (takeN cells sp 14) = t at *
          have hklb := (hKa.trans hKb).get hkl (by simp; (first | assumption | decide | exact le0 (by assumption) (by decide) | exact le1 (by assumption) (by decide) | exact le2 (by assumption) (by assumption) (by decide) | lia | omega))
          have hKb2 : Keep [kt, kl] σ9 σb := hK.trans ((hKa.trans hKb).wide (by first | exact nn | exact lb rfl | simp))
          show ExS _ _ _ _ _ _ _
          refine ex_cons (ex_if (eb_cmp ?_))
          refine ev_sub ?_
          repeat ktr_rel
          show SubR _ _ (AV.tup (.str t.name :: t.parts.map Part.enc)) _ _ _
          refine sub_at (by decide) (by decide) rfl ?_
          refine ev_comp ⟨rfl, by decide, rfl, rfl⟩ (fun _ _ => rfl) ?_
          refine evi_list rfl ?_
          repeat ktr_rel
          refine ⟨_, _, rfl, hklb, ?_⟩
          refine comp_pure (X := []) (xs := ts) (enc := Told.enc) (g := fun t => .str t.name) (p := fun _ => true) rfl (by (first | assumption | decide | exact le0 (by assumption) (by decide) | exact le1 (by assumption) (by decide) | exact le2 (by assumption) (by assumption) (by decide) | lia | omega)) (fun σk hk' => hk'.get hklb (by first | exact nn | exact lb rfl | simp)) (fun u hu σk hk' => ?_) (fun σk hk' => ?_)
          · refine as_name rfl ?_
            show EvE _ _ _ _ _ _ _
            refine ev_sub ?_
            repeat ktr_rel
            show SubR _ _ (AV.tup (.str u.name :: u.parts.map Part.enc)) _ _ _
            refine sub_at (by decide) (by decide) rfl ?_
            exact ⟨rfl, rfl, hk'⟩
          · have ef : (ts.filter fun _ => true) = ts := List.filter_eq_self.mpr fun _ _ => rfl
            rw [ef]
            have p1 : avPureL (ts.map fun t => .str t.name) = true := namesL_pure fun u hu => (hok u hu).1
            have p2 : avPure (.str t.name) = true := pure_name hto.1.name
            refine cmp_notin_list (a := .str t.name) get_app (pyOf p2) (pyOfL p1) (lay_py p2) (lay_pyL p1) (Nat.le_trans (Nat.min_le_right _ _) (Nat.le_of_ble_eq_true rfl)) ?_
            show match !((toPyL (ts.map fun t => AV.str t.name)).any fun y => PyData.eqv y (.str t.name)) with | true => _ | false => _
            rw [anyS]
            have hklc := (hk'.app (o := .list (ts.map fun t => AV.str t.name))).get hklb (by first | exact nn | exact lb rfl | simp)
            have hKc := hKb2.trans ((hk'.app (o := .list (ts.map fun t => AV.str t.name))).wide (Y := [kt, kl]) (by first | exact nn | exact lb rfl | simp))
            have Tc := Tb.keep (hk'.app (o := .list (ts.map fun t => AV.str t.name)))
            generalize (σk ++ [AO.list (ts.map fun t => AV.str t.name)]) = σc at *
            cases hb : (!decide (t.name ∈ ts.map Told.name)) with
            | false =>
              refine ex_nil (ex_nil ?_)
              exact ⟨rfl, skip_name rfl (skip_name rfl fun _ _ h => h), _, ts, hKc, Tc, by (first | assumption | decide | exact le0 (by assumption) (by decide) | exact le1 (by assumption) (by decide) | exact le2 (by assumption) (by assumption) (by decide) | lia | omega), hklc, by (first | assumption | decide | exact le0 (by assumption) (by decide) | exact le1 (by assumption) (by decide) | exact le2 (by assumption) (by assumption) (by decide) | lia | omega), hok, hn⟩
            | true =>
              show ExS _ _ _ _ _ _ _
              refine ex_cons (ex_expr ?_ (by intro _; rfl))
              refine ev_append rfl rfl (by decide) ?_
              repeat ktr_rel
              refine ⟨_, _, rfl, hklc, ?_⟩
              repeat ktr_rel
              refine ⟨_, hklc, by rw [List.length_map]; (first | assumption | decide | exact le0 (by assumption) (by decide) | exact le1 (by assumption) (by decide) | exact le2 (by assumption) (by assumption) (by decide) | lia | omega), ?_⟩
              refine ex_nil (ex_nil ?_)
              refine ⟨rfl, skip_name rfl (skip_name rfl fun _ _ h => h), _, ts ++ [t], hKc.set (.inr (by first | exact nn | exact lb rfl | simp)), Tape.setk Tc (by (first | assumption | decide | exact le0 (by assumption) (by decide) | exact le1 (by assumption) (by decide) | exact le2 (by assumption) (by assumption) (by decide) | lia | omega)) (by (first | assumption | decide | exact le0 (by assumption) (by decide) | exact le1 (by assumption) (by decide) | exact le2 (by assumption) (by assumption) (by decide) | lia | omega)), by (first | assumption | decide | exact le0 (by assumption) (by decide) | exact le1 (by assumption) (by decide) | exact le2 (by assumption) (by assumption) (by decide) | lia | omega), ?_, by simp; (first | assumption | decide | exact le0 (by assumption) (by decide) | exact le1 (by assumption) (by decide) | exact le2 (by assumption) (by assumption) (by decide) | lia | omega), fun u hu => ?_, ?_⟩
              · rw [get_set hklc, List.map_append]; rfl
              · rcases List.mem_append.mp hu with h | h
                · exact hok u h
                · simp at h; subst h; exact hto
              · rw [List.map_append, List.nodup_append]
                refine ⟨hn, by simp, fun y hy z hz e => ?_⟩
                simp at hz; subst hz; subst e
                simp only [Bool.not_eq_true', decide_eq_false_iff_not] at hb
                exact hb hy
        · rw [List.length_map, List.length_range] at hf'
          obtain ⟨sp, ts, hK, hT, hsp, hkl, htl, hok, hn⟩ := hf'
          have hdf := hK.get hd9 (by simp; (first | assumption | decide | exact le0 (by assumption) (by decide) | exact le1 (by assumption) (by decide) | exact le2 (by assumption) (by assumption) (by decide) | lia | omega))
          exact law_6 (n := n) (ts := ts) (D := D) (late := late) (kl := kl) (kd := kd) (kt := kt) (many := many) (mask := mask) hC hkl hdf lD hm' (by (first | assumption | decide | exact le0 (by assumption) (by decide) | exact le1 (by assumption) (by decide) | exact le2 (by assumption) (by assumption) (by decide) | lia | omega)) hok hn h
end

-- part J1
theorem call_law {C : Cx} (hC : C.Ok recs) {fa sa : Addr} {ws : List Value} {script : List Int} (hfa : C.mg "law" = some (.ref fa)) (hB : C.B.IsList sa ws.toArray) (hI : IntsAre ws script) (hz : script.length ≤ 63) {s : Shared} (hs : s.heap = C.B)
    {A : Around} (R : Room 9 A) {E K : Value → Shared → Prop} (k : ∀ h tk, (∀ b o, s.heap.get? b = some o → h.get? b = some o) → K (.bool true) { s with heap := h, toks := tk }) :
    wpAny (model C.prog C.w) A (call (.ref fa) [.ref sa] []) K E s := by
  have c := c_law (n := 0) (σ := []) (Q := fun v _ => v = .bool true) (a := sa) hC hB hI hz (fun _ => rfl) fa hfa
  have S : Sim C [] [] s.heap := ⟨fun b o e => by rw [hs]; exact e, rfl, List.nodup_nil, fun a ha => (by cases ha), fun a ha => (by cases ha), fun i a o h => (by simp at h)⟩
  refine wpAny_mono (c.run A R [] s E [.ref sa] S (RepL.cons rfl RepL.nil)) (fun v s' p => ?_) fun _ _ e => e
  obtain ⟨av, σ', As₂, X, S', rfl, r⟩ := p
  unfold Rep at r
  subst r
  obtain ⟨h', tk, rfl⟩ := X.same
  exact k h' tk fun b o e => X.keep b o (by first | exact nn | exact lb rfl | simp) (by first | exact nn | exact lb rfl | simp) e
theorem room9 : Room 9 callerA := ⟨rfl, by decide +kernel, by decide +kernel⟩

noncomputable def freeOf (p : Program) (loose : List Str) : Bool :=
  (["range", "len", "tuple", "sorted", "set", "zip", "enumerate", "min", "max", "int"] : List Str).all fun x => !startupNames.contains x && !loose.contains x && !((recsOf p).map (·.name)).contains x && !((litsOf p).map (·.1)).contains x && !((clssOf p loose).map (·.name)).contains x
theorem law_of_top {p : Program} {loose : List Str} {mean : ExcName → Option Value} {mg mb : Str → Option Value} {w : World} {s : Shared} (T : Top p loose mean mg mb s.heap) (h1 : recsOf p = recs) (h2 : freeOf p loose = true)
    {fa sa : Addr} {ws : List Value} {script : List Int} (hfa : mg "law" = some (.ref fa)) (hB : s.heap.IsList sa ws.toArray) (hI : IntsAre ws script) (hz : script.length ≤ 63)
    {E K : Value → Shared → Prop} (k : ∀ h tk, (∀ b o, s.heap.get? b = some o → h.get? b = some o) → K (.bool true) { s with heap := h, toks := tk }) :
    wpAny (model PySem.Challenge.pw_qd0007_01 w) callerA (call (.ref fa) [.ref sa] []) K E s :=
  call_law (C := ⟨PySem.Challenge.pw_qd0007_01, w, s.heap, mg, mb, by obtain ⟨o', _, _, e, _⟩ := T.g; exact ⟨o', e⟩⟩)
    ⟨T.g, T.b, T.nolimit, fun d hd => T.fn d (by rw [h1]; exact hd), fun x hx => by
      have := List.all_eq_true.mp h2 x hx
      simp only [Bool.and_eq_true, Bool.not_eq_true', List.contains_eq_mem, decide_eq_false_iff_not] at this
      exact T.free x this.1.1.1.1 this.1.1.1.2 this.1.1.2 this.1.2 this.2, T.builtins⟩ hfa hB hI hz rfl room9 k
end Mine

-- part JT
open PySem PySem.W PyProof.Rows
namespace Mine
def isDefS : Stmt → Bool
  | .FunctionDef .. => true
  | _ => false
noncomputable def view : Program := { PySem.Challenge.pw_qd0007_01 with main := { PySem.Challenge.pw_qd0007_01.main with body := PySem.Challenge.pw_qd0007_01.main.body.filter isDefS } }
set_option maxRecDepth 100000 in
theorem view_recs : recsOf view = recs := by kernel_rfl
theorem view_free : freeOf view (looseW view []) = true := by decide +kernel
set_option maxRecDepth 100000 in
theorem said : PySem.Challenge.rw_qd0007_01.wellSaid = true := by
  unfold OpenLaw.wellSaid
  repeat' with_reducible refine look_both ?_ ?_
  unfold OpenRow.wellSaid
  repeat' with_reducible refine look_both ?_ ?_
  all_goals try unfold OpenRow.partSaid
  repeat' with_reducible refine look_both ?_ ?_
  all_goals try unfold looksOpen
  repeat' with_reducible refine look_both ?_ ?_
  all_goals try rw [PySem.W.Fast.named_eq]
  all_goals decide +kernel
end Mine
set_option maxRecDepth 100000 in
set_option maxHeartbeats 8000000 in
theorem PySem.Challenge.cw_qd0007_01_holds : PySem.Challenge.rw_qd0007_01.Holds := by
  w_on
  refine PySem.W.holds_law Mine.said fun said => ?_
  refine holds_open (q := Mine.view) (loose := []) (Xt := fun s => xlAt Mine.view [] s && recOk (RowW.records PySem.Challenge.rw_qd0007_01.row.toRowW) s) (XP := XL Mine.view []) (Yf := Hook.obs Hook.none) (Ya := Hook.val Hook.none) (YP := Hook.says Hook.none) (N := 1306) ?hl (Hook.of Hook.none) (Hook.keeps Hook.none)
    (fun s e => xl_of s (Bool.and_eq_true_iff.mp e).1) XL.keeps (by rfl) (by rfl) (by rfl) (fun s e => recFacts_of (Bool.and_eq_true_iff.mp e).2) (by rfl) (by first | assumption | decide +kernel) (by decide +kernel) ⟨rfl, rfl, rfl, rfl, rfl, by decide +kernel⟩ ?hw ?hc
  case hw => w_witness2
  case hl =>
    intro w
    kernel_rfl
  case hc =>
    w_strict (skip
              intro w s₀ s₁ mg mb G Y fa o pm cd doc dV kV ho hdd hcd hD hmg hg args vals as hpre hlay hrd hwl hlo
              refine Ground.open G ?_
              intro T B D TE TW
              clear B D TE TW
              wrow_args hpre hlay hrd hwl hlo
              next script _ _ _ _ _ _ _ sa ws _ hL _ _ _ hI _ hcond _ =>
                clear Y ho hdd hcd hD
                have hz : script.length ≤ 63 := by omega
                refine Mine.law_of_top T Mine.view_recs Mine.view_free hmg hL hI hz fun h tk keep => ?_
                refine GoodW.toG ⟨.inl ⟨_, _, [], rfl, fun _ => rfl, ReadsW.bool true, ?_, fun _ => ⟨List.nodup_nil, fun _ hm => (by cases hm)⟩⟩, keep, rfl, hg⟩
                first | rfl | wrow_post)
