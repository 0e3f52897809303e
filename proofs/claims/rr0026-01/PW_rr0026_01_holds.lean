import PyProof.Rows.All
import Wide.All
import OpenK.AllK
import Wide.FinOn
import Lean
import PySem.Challenge.RW_rr0026_01
set_option Elab.async false
set_option maxRecDepth 100000
set_option autoImplicit false
set_option linter.all false
set_option genSizeOf false
set_option genSizeOfSpec false
set_option bootstrap.genMatcherCode false
set_option linter.unusedVariables false
set_option linter.unusedSimpArgs false
set_option linter.unusedSectionVars false

/-! M1 -/
noncomputable section
set_option maxHeartbeats 200000
open PyProof.Rows PySem PySem.Calls PySem.W
namespace Mine

/-- abstract values: immutable data as trees, mutable objects by number -/
inductive V where
  | none
  | bool (b : Bool)
  | int (i : Int)
  | str (s : PySem.Str)
  | tup (vs : List V)
  | obj (i : Nat)
  deriving Inhabited

inductive AObj where
  | list (xs : List V)
  | dictI (es : List (Int × V))
  | dictS (es : List (PySem.Str × V))
  | dictT (es : List (List Int × V))
  | set (xs : List Int)
  | inst (C : Nat) (d : Nat)
  | ns (fs : List (Nat × V))
  deriving Inhabited

noncomputable abbrev AH := List AObj

mutual
noncomputable def Rel (h : Heap) (φ : List Addr) : V → Value → Prop
  | .none, v => v = .none
  | .bool b, v => v = .bool b
  | .int i, v => ∃ t, v = .int i t
  | .str s, v => ∃ t, v = .str s t
  | .obj i, v => ∃ a, φ[i]? = some a ∧ v = .ref a
  | .tup vs, v => ∃ a ws, v = .ref a ∧ IsTup h a ws ∧ RelL h φ vs ws.toList
noncomputable def RelL (h : Heap) (φ : List Addr) : List V → List Value → Prop
  | [], ws => ws = []
  | v :: vs, ws => ∃ w ws', ws = w :: ws' ∧ Rel h φ v w ∧ RelL h φ vs ws'
end

theorem RelL.cons {h : Heap} {φ : List Addr} {v : V} {vs : List V} {w : Value} {ws : List Value} (x : Rel h φ v w) (y : RelL h φ vs ws) : RelL h φ (v :: vs) (w :: ws) := ⟨_, _, rfl, x, y⟩
theorem RelL.nil {h : Heap} {φ : List Addr} : RelL h φ [] [] := rfl

/-- tuples are kept -/
noncomputable def TK (h h' : Heap) : Prop := ∀ a ws, IsTup h a ws → IsTup h' a ws
theorem TK.refl (h : Heap) : TK h h := fun _ _ x => x
theorem TK.trans {h h' h'' : Heap} (x : TK h h') (y : TK h' h'') : TK h h'' := fun a ws z => y a ws (x a ws z)

theorem prefix_get {φ φ' : List Addr} (p : φ <+: φ') {i : Nat} {a : Addr} (e : φ[i]? = some a) : φ'[i]? = some a := by
  obtain ⟨ψ, rfl⟩ := p
  rw [List.getElem?_append_left (List.getElem?_eq_some_iff.mp e).1]; exact e

theorem prefix_get' {α : Type} {φ φ' : List α} (p : φ <+: φ') {i : Nat} {a : α} (e : φ[i]? = some a) : φ'[i]? = some a := by
  obtain ⟨ψ, rfl⟩ := p
  rw [List.getElem?_append_left (List.getElem?_eq_some_iff.mp e).1]; exact e
theorem append_get {φ : List Addr} {b a : Addr} {i : Nat} (e : (φ ++ [b])[i]? = some a) : φ[i]? = some a ∨ a = b := by
  by_cases q : i < φ.length
  · rw [List.getElem?_append_left q] at e; exact .inl e
  · rw [List.getElem?_append_right (by omega)] at e
    cases z : i - φ.length with
    | zero => rw [z] at e; simp at e; exact .inr e.symm
    | succ n => rw [z] at e; simp at e

mutual
theorem Rel.mono {h h' : Heap} {φ φ' : List Addr} (p : φ <+: φ') (k : TK h h') : ∀ {v : V} {w : Value}, Rel h φ v w → Rel h' φ' v w
  | .none, _, x => x
  | .bool _, _, x => x
  | .int _, _, x => x
  | .str _, _, x => x
  | .obj _, _, ⟨a, e, q⟩ => ⟨a, prefix_get p e, q⟩
  | .tup _, _, ⟨a, ws, e, t, r⟩ => ⟨a, ws, e, k _ _ t, RelL.mono p k r⟩
theorem RelL.mono {h h' : Heap} {φ φ' : List Addr} (p : φ <+: φ') (k : TK h h') : ∀ {vs : List V} {ws : List Value}, RelL h φ vs ws → RelL h' φ' vs ws
  | [], _, x => x
  | _ :: _, _, ⟨w, ws', e, a, b⟩ => ⟨w, ws', e, Rel.mono p k a, RelL.mono p k b⟩
end

theorem RelL.length {h : Heap} {φ : List Addr} : ∀ {vs : List V} {ws : List Value}, RelL h φ vs ws → ws.length = vs.length
  | [], _, e => by cases e; rfl
  | _ :: _, _, ⟨_, _, e, _, r⟩ => by rw [e, List.length_cons, List.length_cons, r.length]
theorem RelL.get {h : Heap} {φ : List Addr} : ∀ {vs : List V} {ws : List Value} {i : Nat} {v : V}, RelL h φ vs ws → vs[i]? = some v → ∃ w, ws[i]? = some w ∧ Rel h φ v w
  | [], _, _, _, _, q => by simp at q
  | _ :: _, _, 0, _, ⟨w, _, e, a, _⟩, q => by
    simp only [List.getElem?_cons_zero, Option.some.injEq] at q
    subst q e
    exact ⟨w, rfl, a⟩
  | _ :: _, _, i + 1, _, ⟨_, _, e, _, r⟩, q => by
    subst e
    simp only [List.getElem?_cons_succ] at q ⊢
    exact r.get q
theorem RelL.append {h : Heap} {φ : List Addr} : ∀ {vs us : List V} {ws xs : List Value}, RelL h φ vs ws → RelL h φ us xs → RelL h φ (vs ++ us) (ws ++ xs)
  | [], _, _, _, e, r => by cases e; exact r
  | _ :: _, _, _, _, ⟨_, _, e, a, r⟩, r' => by subst e; exact ⟨_, _, rfl, a, r.append r'⟩
theorem RelL.set {h : Heap} {φ : List Addr} : ∀ {vs : List V} {ws : List Value} {i : Nat} {v : V} {w : Value}, RelL h φ vs ws → Rel h φ v w → RelL h φ (vs.set i v) (ws.set i w)
  | [], _, _, _, _, e, _ => by cases e; rfl
  | _ :: _, _, 0, _, _, ⟨_, _, e, _, r⟩, q => by subst e; exact ⟨_, _, rfl, q, r⟩
  | _ :: _, _, _ + 1, _, _, ⟨_, _, e, a, r⟩, q => by subst e; exact ⟨_, _, rfl, a, r.set q⟩
theorem RelL.take {h : Heap} {φ : List Addr} : ∀ (n : Nat) {vs : List V} {ws : List Value}, RelL h φ vs ws → RelL h φ (vs.take n) (ws.take n)
  | 0, _, _, _ => rfl
  | _ + 1, [], _, e => by cases e; rfl
  | n + 1, _ :: _, _, ⟨_, _, e, a, r⟩ => by subst e; exact ⟨_, _, rfl, a, r.take n⟩
theorem RelL.drop {h : Heap} {φ : List Addr} : ∀ (n : Nat) {vs : List V} {ws : List Value}, RelL h φ vs ws → RelL h φ (vs.drop n) (ws.drop n)
  | 0, _, _, r => r
  | _ + 1, [], _, e => by cases e; rfl
  | n + 1, _ :: _, _, ⟨_, _, e, _, r⟩ => by subst e; exact r.drop n

section
variable {K : Type} [DecidableEq K]
noncomputable def vAt (es : List (K × V)) (k : K) : Option V := (es.find? fun kv => kv.1 = k).map (·.2)
noncomputable def vPut (es : List (K × V)) (k : K) (v : V) : List (K × V) :=
  if es.any (fun kv => kv.1 = k) then es.map (fun kv => if kv.1 = k then (kv.1, v) else kv) else es ++ [(k, v)]

noncomputable def RelKV (h : Heap) (φ : List Addr) : List (K × V) → List (K × Value) → Prop
  | [], ys => ys = []
  | (k, v) :: xs, ys => ∃ w ys', ys = (k, w) :: ys' ∧ Rel h φ v w ∧ RelKV h φ xs ys'
theorem RelKV.mono {h h' : Heap} {φ φ' : List Addr} (p : φ <+: φ') (k : TK h h') : ∀ {xs : List (K × V)} {ys : List (K × Value)}, RelKV h φ xs ys → RelKV h' φ' xs ys
  | [], _, x => x
  | (_, _) :: _, _, ⟨w, ys', e, a, b⟩ => ⟨w, ys', e, Rel.mono p k a, RelKV.mono p k b⟩
theorem RelKV.length {h : Heap} {φ : List Addr} : ∀ {xs : List (K × V)} {ys : List (K × Value)}, RelKV h φ xs ys → ys.length = xs.length
  | [], _, e => by cases e; rfl
  | (_, _) :: _, _, ⟨_, _, e, _, r⟩ => by rw [e, List.length_cons, List.length_cons, r.length]
theorem RelKV.at_ {h : Heap} {φ : List Addr} : ∀ {xs : List (K × V)} {ys : List (K × Value)} (k : K), RelKV h φ xs ys →
    match vAt xs k with
    | some v => ∃ w, valueAt ys k = some w ∧ Rel h φ v w
    | none => valueAt ys k = none
  | [], _, _, e => by cases e; rfl
  | (j, v) :: xs, _, k, ⟨w, ys', e, a, r⟩ => by
    subst e
    unfold vAt valueAt
    by_cases q : j = k
    · simp only [List.find?_cons, q, decide_true, Option.map_some]; exact ⟨w, rfl, a⟩
    · simp only [List.find?_cons, q, decide_false]; exact r.at_ k
theorem RelKV.any {h : Heap} {φ : List Addr} : ∀ {xs : List (K × V)} {ys : List (K × Value)} (k : K), RelKV h φ xs ys → (xs.any fun kv => decide (kv.1 = k)) = ys.any fun kv => decide (kv.1 = k)
  | [], _, _, e => by cases e; rfl
  | (_, _) :: _, _, k, ⟨_, _, e, _, r⟩ => by subst e; rw [List.any_cons, List.any_cons, r.any k]
theorem RelKV.map {h : Heap} {φ : List Addr} : ∀ {xs : List (K × V)} {ys : List (K × Value)} (k : K) {v : V} {w : Value}, RelKV h φ xs ys → Rel h φ v w →
    RelKV h φ (xs.map fun kv => if kv.1 = k then (kv.1, v) else kv) (ys.map fun kv => if kv.1 = k then (kv.1, w) else kv)
  | [], _, _, _, _, e, _ => by cases e; rfl
  | (j, _) :: _, _, k, _, _, ⟨_, _, e, a, r⟩, q => by
    subst e
    rw [List.map_cons, List.map_cons]
    by_cases z : j = k
    · rw [if_pos z, if_pos z]; exact ⟨_, _, rfl, q, r.map k q⟩
    · rw [if_neg z, if_neg z]; exact ⟨_, _, rfl, a, r.map k q⟩
theorem RelKV.snoc {h : Heap} {φ : List Addr} : ∀ {xs : List (K × V)} {ys : List (K × Value)} {k : K} {v : V} {w : Value}, RelKV h φ xs ys → Rel h φ v w → RelKV h φ (xs ++ [(k, v)]) (ys ++ [(k, w)])
  | [], _, _, _, _, e, q => by cases e; exact ⟨_, _, rfl, q, rfl⟩
  | (_, _) :: _, _, _, _, _, ⟨_, _, e, a, r⟩, q => by subst e; exact ⟨_, _, rfl, a, r.snoc q⟩
theorem RelKV.put {h : Heap} {φ : List Addr} {xs : List (K × V)} {ys : List (K × Value)} (k : K) {v : V} {w : Value} (r : RelKV h φ xs ys) (q : Rel h φ v w) : RelKV h φ (vPut xs k v) (stored ys k w) := by
  unfold vPut stored
  rw [r.any k]
  split
  · exact r.map k q
  · exact r.snoc q
end

/-- the attribute names' table -/
noncomputable def attrNames : List PySem.Str := (["texts", "atom_numbers", "functors", "functor_numbers", "symbols", "max_heap", "heap", "stack", "trail", "hb", "bb", "span", "met", "ball"] : List String).map PySem.Str.ofString
noncomputable def attrName (i : Nat) : PySem.Str := attrNames.getD i PySem.Str.empty

/-- what is fixed -/
structure Cx where
  prog : Program
  w : World
  K : Frag
  hB : Heap
  cls : Nat → Addr
  nc : Nat

/-- an instance's own names -/
structure NsRel (h : Heap) (φ : List Addr) (a : Addr) (fs : List (Nat × V)) : Prop where
  ns : ∃ m, h.Ns1 a m ∧ (∀ i v, fs.lookup i = some v → ∃ w, m (attrName i) = some w ∧ Rel h φ v w) ∧ ∀ x w, m x = some w → ∃ i v, fs.lookup i = some v ∧ x = attrName i
  lt : ∀ i v, fs.lookup i = some v → i < attrNames.length
theorem NsRel.mono {h h' : Heap} {φ φ' : List Addr} {a : Addr} {fs : List (Nat × V)} (p : φ <+: φ') (k : TK h h') (e : h'.get? a = h.get? a) (x : NsRel h φ a fs) : NsRel h' φ' a fs := by
  obtain ⟨⟨m, ⟨o, es, ep, ho, r⟩, h1, h2⟩, lt⟩ := x
  exact ⟨⟨m, ⟨o, es, ep, e.trans ho, r⟩, fun i v q => let ⟨w, a, b⟩ := h1 i v q; ⟨w, a, b.mono p k⟩, h2⟩, lt⟩

/-- a dict with tuples of ints as keys -/
noncomputable def DictT (prog : Program) (w : World) (h : Heap) (φ : List Addr) (a : Addr) (es : List (List Int × V)) : Prop :=
  ∃ xs : List (List Int × Addr × Value), h.DictOfH (tupleKind (intKind prog w)) a xs ∧ RelKV h φ es (xs.map fun x => (x.1, x.2.2))

noncomputable def ObjRel (C : Cx) (h : Heap) (φ : List Addr) (a : Addr) : AObj → Prop
  | .list xs => ∃ ws n, h.get? a = some (listOf ws n) ∧ RelL h φ xs ws.toList
  | .dictI es => ∃ kvs, h.DictOf (intKind C.prog C.w) a kvs ∧ RelKV h φ es kvs
  | .dictS es => ∃ kvs, h.DictOf (strKind C.prog C.w) a kvs ∧ RelKV h φ es kvs
  | .dictT es => DictT C.prog C.w h φ a es
  | .set xs => ∃ S, h.SetOf (intKind C.prog C.w) a S xs.length ∧ ∀ k, S k = true ↔ k ∈ xs
  | .inst c d => c < C.nc ∧ ∃ da, φ[d]? = some da ∧ h.get? a = some (instObj (C.cls c) da)
  | .ns fs => NsRel h φ a fs

/-- an object that is no tuple -/
noncomputable def NoTup (o : Obj) : Prop := ¬ (o.cls = .type "tuple" ∧ ∃ ws n, o.data = .seq ws n)
theorem ObjRel.live {C : Cx} {h : Heap} {φ : List Addr} {a : Addr} {o : AObj} (x : ObjRel C h φ a o) : ∃ ob, h.get? a = some ob ∧ NoTup ob := by
  cases o with
  | list xs => obtain ⟨ws, n, e, _⟩ := x; exact ⟨_, e, fun q => by have := q.1; simp at this⟩
  | dictI es => obtain ⟨kvs, ⟨ob, _, _, e, q, _⟩, _⟩ := x; exact ⟨ob, e, fun z => by have := z.1; rw [q.1] at this; simp at this⟩
  | dictS es => obtain ⟨kvs, ⟨ob, _, _, e, q, _⟩, _⟩ := x; exact ⟨ob, e, fun z => by have := z.1; rw [q.1] at this; simp at this⟩
  | dictT es => obtain ⟨xs, ⟨ob, _, _, e, q, _⟩, _⟩ := x; exact ⟨ob, e, fun z => by have := z.1; rw [q.1] at this; simp at this⟩
  | set xs => obtain ⟨S, ⟨ob, _, _, _, e, q, _⟩, _⟩ := x; exact ⟨ob, e, fun z => by have := z.1; rw [q.1] at this; simp at this⟩
  | inst c d => obtain ⟨_, da, _, e⟩ := x; exact ⟨_, e, fun q => by have := q.1; simp at this⟩
  | ns fs => obtain ⟨⟨m, ⟨ob, _, _, e, q, _⟩, _⟩, _⟩ := x; exact ⟨ob, e, fun z => by obtain ⟨_, _, _, w⟩ := z; rw [q] at w; cases w⟩

theorem isTupKey_mono {prog : Program} {w : World} {h h' : Heap} (k : TK h h') {ks : List Int} {a : Addr} (x : IsTupleKey (intKind prog w) h ks a) : IsTupleKey (intKind prog w) h' ks a := by
  obtain ⟨o, items, n, e, c, d, i⟩ := x
  obtain ⟨o', e', c', n', d'⟩ := k a items ⟨o, e, c, n, d⟩
  exact ⟨o', items, n', e', c', d', i⟩

theorem ObjRel.mono {C : Cx} {h h' : Heap} {φ φ' : List Addr} (p : φ <+: φ') (k : TK h h') {a : Addr} {o : AObj} (e : h'.get? a = h.get? a) (x : ObjRel C h φ a o) : ObjRel C h' φ' a o := by
  cases o with
  | list xs => obtain ⟨ws, n, q, r⟩ := x; exact ⟨ws, n, e.trans q, r.mono p k⟩
  | dictI es => obtain ⟨kvs, ⟨ob, es', ep, q, y⟩, r⟩ := x; exact ⟨kvs, ⟨ob, es', ep, e.trans q, y⟩, r.mono p k⟩
  | dictS es => obtain ⟨kvs, ⟨ob, es', ep, q, y⟩, r⟩ := x; exact ⟨kvs, ⟨ob, es', ep, e.trans q, y⟩, r.mono p k⟩
  | dictT es =>
    obtain ⟨xs, ⟨ob, es', ep, q, y1, y2, y3, y4, y5⟩, r⟩ := x
    exact ⟨xs, ⟨ob, es', ep, e.trans q, y1, y2, y3, fun z hz => isTupKey_mono k (y4 z hz), y5⟩, r.mono p k⟩
  | set xs => obtain ⟨S, ⟨ob, a1, a2, a3, q, y⟩, r⟩ := x; exact ⟨S, ⟨ob, a1, a2, a3, e.trans q, y⟩, r⟩
  | inst c d => obtain ⟨l, da, f, q⟩ := x; exact ⟨l, da, prefix_get p f, e.trans q⟩
  | ns fs => exact NsRel.mono p k e x

structure Ok (C : Cx) (φ : List Addr) (σ : AH) (h : Heap) : Prop where
  len : φ.length = σ.length
  nd : φ.Nodup
  new : ∀ (i : Nat) (a : Addr), i ≠ 0 → φ[i]? = some a → C.hB.get? a = none
  zero : ∃ xs, σ[0]? = some (.list xs)
  base : C.hB.StaysIn h
  obj : ∀ (i : Nat) (o : AObj), σ[i]? = some o → ∃ a, φ[i]? = some a ∧ ObjRel C h φ a o

theorem Ok.nz {C : Cx} {φ : List Addr} {σ : AH} {h : Heap} (x : Ok C φ σ h) {i : Nat} {o : AObj} (e : σ[i]? = some o) (ho : ∀ xs, o ≠ .list xs) : i ≠ 0 := fun z => by
  obtain ⟨xs, q⟩ := x.zero
  rw [z, q] at e
  exact ho xs (Option.some.inj e).symm
theorem Ok.at_ {C : Cx} {φ : List Addr} {σ : AH} {h : Heap} (x : Ok C φ σ h) {i : Nat} {a : Addr} (e : φ[i]? = some a) : ∃ o, σ[i]? = some o ∧ ObjRel C h φ a o := by
  have hi : i < σ.length := x.len ▸ (List.getElem?_eq_some_iff.mp e).1
  obtain ⟨b, hb, r⟩ := x.obj i σ[i] (List.getElem?_eq_getElem hi)
  rw [e] at hb; cases hb
  exact ⟨_, List.getElem?_eq_getElem hi, r⟩
theorem Ok.live {C : Cx} {φ : List Addr} {σ : AH} {h : Heap} (x : Ok C φ σ h) {a : Addr} (m : a ∈ φ) : ∃ ob, h.get? a = some ob ∧ NoTup ob := by
  obtain ⟨i, e⟩ := List.mem_iff_getElem?.mp m
  obtain ⟨o, _, r⟩ := x.at_ e
  exact r.live
theorem Ok.notup {C : Cx} {φ : List Addr} {σ : AH} {h : Heap} (x : Ok C φ σ h) {a : Addr} {ws : Array Value} (t : IsTup h a ws) : a ∉ φ := fun m => by
  obtain ⟨ob, e, n⟩ := x.live m
  obtain ⟨o, e', c, k, d⟩ := t
  rw [e] at e'; cases e'
  exact n ⟨c, ws, k, d⟩

/-- what a run of a part does to the heap: all but the objects of the call and X is kept -/
structure Ext (X : List Addr) (φ : List Addr) (h : Heap) (φ' : List Addr) (h' : Heap) : Prop where
  pre : ∃ ψ, φ' = φ ++ ψ ∧ ∀ a ∈ ψ, h.get? a = none
  keep : ∀ a o, a ∉ φ → a ∉ X → h.get? a = some o → h'.get? a = some o
  live : ∀ a, a ∈ φ ∨ a ∈ X → h.get? a ≠ none → h'.get? a ≠ none

theorem Ext.refl (X φ : List Addr) (h : Heap) : Ext X φ h φ h := ⟨⟨[], by simp, fun _ hm => nomatch hm⟩, fun _ _ _ _ e => e, fun _ _ e => e⟩
theorem Ext.pref {X φ φ' : List Addr} {h h' : Heap} (x : Ext X φ h φ' h') : φ <+: φ' := let ⟨ψ, e, _⟩ := x.pre; ⟨ψ, e.symm⟩
theorem Ext.alive {X φ φ' : List Addr} {h h' : Heap} (x : Ext X φ h φ' h') {a : Addr} (e : h.get? a ≠ none) : h'.get? a ≠ none := by
  by_cases m : a ∈ φ
  · exact x.live a (.inl m) e
  · by_cases m' : a ∈ X
    · exact x.live a (.inr m') e
    · obtain ⟨o, q⟩ := Option.ne_none_iff_exists'.mp e
      rw [x.keep a o m m' q]; simp
theorem Ext.trans {X φ φ₁ φ₂ : List Addr} {h h₁ h₂ : Heap} (x : Ext X φ h φ₁ h₁) (y : Ext X φ₁ h₁ φ₂ h₂) : Ext X φ h φ₂ h₂ := by
  obtain ⟨ψ, e, f⟩ := x.pre
  obtain ⟨ψ', e', f'⟩ := y.pre
  refine ⟨⟨ψ ++ ψ', by rw [e', e, List.append_assoc], fun a hm => ?_⟩, fun a o m m' q => ?_, fun a m q => y.alive (x.alive q)⟩
  · rcases List.mem_append.mp hm with hm | hm
    · exact f a hm
    · cases q : h.get? a with
      | none => rfl
      | some o => exact absurd (f' a hm) (x.alive (by rw [q]; simp))
  · have q₁ := x.keep a o m m' q
    refine y.keep a o (fun hm => ?_) m' q₁
    rw [e] at hm
    rcases List.mem_append.mp hm with hm | hm
    · exact m hm
    · rw [f a hm] at q; cases q
theorem Ext.weak {X Y φ φ' : List Addr} {h h' : Heap} (x : Ext X φ h φ' h') (s : ∀ a ∈ X, a ∈ Y) : Ext Y φ h φ' h' :=
  ⟨x.pre, fun a o m m' q => x.keep a o m (fun z => m' (s a z)) q, fun a _ q => x.alive q⟩
/-- what was not alive before may be turned -/
theorem Ext.strong {X Y φ φ' : List Addr} {h h' : Heap} (x : Ext Y φ h φ' h') (s : ∀ a ∈ Y, a ∈ X ∨ h.get? a = none) : Ext X φ h φ' h' :=
  ⟨x.pre, fun a o m m' q => x.keep a o m (fun z => by
    rcases s a z with z | z
    · exact m' z
    · rw [z] at q; cases q) q, fun a _ q => x.alive q⟩
theorem Ext.tk {X φ φ' : List Addr} {h h' : Heap} {C : Cx} {σ : AH} (x : Ext X φ h φ' h') (k : Ok C φ σ h) (n : ∀ a ∈ X, ∀ ws, ¬ IsTup h a ws) : TK h h' := fun a ws t => by
  have z := k.notup t
  obtain ⟨o, e, c⟩ := t
  exact ⟨o, x.keep a o z (fun m => n a m ws ⟨o, e, c⟩) e, c⟩
theorem Ext.push {X φ : List Addr} {h : Heap} (o : Obj) : Ext X φ h φ (h.push o) :=
  ⟨⟨[], by simp, fun _ hm => nomatch hm⟩, fun _ _ _ _ e => Heap.get?_push_of_some o e, fun a _ e => by
    obtain ⟨o', q⟩ := Option.ne_none_iff_exists'.mp e
    rw [Heap.get?_push_of_some o q]; simp⟩
theorem Ext.sameBut {X φ : List Addr} {h h' : Heap} {a : Addr} (s : Heap.SameBut a h h') (m : a ∈ φ ∨ a ∈ X) (l : h'.get? a ≠ none) : Ext X φ h φ h' :=
  ⟨⟨[], by simp, fun _ hm => nomatch hm⟩, fun b o n n' e => (s.2 b (fun q => by subst q; exact m.elim n n')).trans e, fun b _ e => by
    by_cases q : b = a
    · subst q; exact l
    · rw [s.2 b q]; exact e⟩
theorem Ext.extBut {X φ : List Addr} {h h' : Heap} {a : Addr} (s : Heap.ExtBut a h h') (m : h.get? a = none) : Ext X φ h φ h' :=
  ⟨⟨[], by simp, fun _ hm => nomatch hm⟩, fun b o _ _ e => s b o (fun q => by subst q; rw [m] at e; cases e) e, fun b _ e => by
    obtain ⟨o, q⟩ := Option.ne_none_iff_exists'.mp e
    rw [s b o (fun z => by subst z; rw [m] at q; cases q) q]; simp⟩

theorem fresh_size (h : Heap) : h.get? h.objs.size = none := by
  cases q : h.get? h.objs.size with
  | none => rfl
  | some o => exact absurd (Heap.lt_size q) (Nat.lt_irrefl _)

/-- the objects stand where nothing of them was turned -/
theorem Ok.ext {C : Cx} {φ : List Addr} {σ : AH} {h h' : Heap} (k : Ok C φ σ h) (hB : C.hB.StaysIn h') (t : TK h h') (s : ∀ a ∈ φ, h'.get? a = h.get? a) : Ok C φ σ h' :=
  ⟨k.len, k.nd, k.new, k.zero, hB, fun i o e => by
    obtain ⟨a, ea, r⟩ := k.obj i o e
    exact ⟨a, ea, r.mono (List.prefix_refl _) t (s a (List.mem_of_getElem? ea))⟩⟩
theorem Ok.push {C : Cx} {φ : List Addr} {σ : AH} {h : Heap} (k : Ok C φ σ h) (o : Obj) : Ok C φ σ (h.push o) :=
  k.ext (fun b x e => Heap.get?_push_of_some o (k.base b x e)) (fun a ws t => t.push o) fun a m => by
    obtain ⟨ob, e, _⟩ := k.live m
    rw [e]; exact Heap.get?_push_of_some o e
/-- one object is turned -/
theorem Ok.upd {C : Cx} {φ : List Addr} {σ : AH} {h h' : Heap} (k : Ok C φ σ h) {i : Nat} {a : Addr} {o' : AObj} (hz : i ≠ 0) (e : φ[i]? = some a) (s : Heap.SameBut a h h') (r : TK h h' → ObjRel C h' φ a o') : Ok C φ (σ.set i o') h' := by
  have t : TK h h' := fun b ws x => by
    have z := k.notup x
    obtain ⟨ob, q, c⟩ := x
    exact ⟨ob, (s.2 b (fun w => z (w ▸ List.mem_of_getElem? e))).trans q, c⟩
  refine ⟨by rw [List.length_set]; exact k.len, k.nd, k.new, (by obtain ⟨xs, z⟩ := k.zero; exact ⟨xs, by rw [List.getElem?_set_ne hz]; exact z⟩), fun b x q => ?_, fun j o q => ?_⟩
  · have : b ≠ a := fun w => by
      have := k.new i a hz e
      rw [← w, q] at this; cases this
    exact (s.2 b this).trans (k.base b x q)
  · rw [List.getElem?_set] at q
    by_cases z : i = j
    · subst z
      rw [if_pos rfl] at q
      split at q
      · cases q; exact ⟨a, e, r t⟩
      · cases q
    · rw [if_neg z] at q
      obtain ⟨b, eb, rb⟩ := k.obj j o q
      refine ⟨b, eb, rb.mono (List.prefix_refl _) t (s.2 b fun w => z ?_)⟩
      subst w
      exact (List.getElem?_inj (List.getElem?_eq_some_iff.mp e).1 k.nd).mp (e.trans eb.symm)
/-- an object is made -/
theorem Ok.alloc {C : Cx} {φ : List Addr} {σ : AH} {h : Heap} (k : Ok C φ σ h) {ob : Obj} {o : AObj} (r : ObjRel C (h.push ob) (φ ++ [h.objs.size]) h.objs.size o) : Ok C (φ ++ [h.objs.size]) (σ ++ [o]) (h.push ob) := by
  have nm : h.objs.size ∉ φ := fun m => by
    obtain ⟨x, e, _⟩ := k.live m
    rw [fresh_size] at e; cases e
  have k' := k.push ob
  refine ⟨by simp [k.len], by
      rw [List.nodup_append]
      exact ⟨k.nd, by simp, fun a ha b hb => by simp at hb; subst hb; exact fun q => nm (q ▸ ha)⟩, fun i a hi m => ?_, (by obtain ⟨xs, z⟩ := k.zero; exact ⟨xs, prefix_get' ⟨_, rfl⟩ z⟩), k'.base, fun i o' e => ?_⟩
  · rcases append_get m with m | m
    · exact k.new i a hi m
    · subst m
      cases q : C.hB.get? h.objs.size with
      | none => rfl
      | some x => have := k.base _ _ q; rw [fresh_size] at this; cases this
  · by_cases q : i < σ.length
    · rw [List.getElem?_append_left q] at e
      obtain ⟨a, ea, ra⟩ := k'.obj i o' e
      exact ⟨a, prefix_get ⟨_, rfl⟩ ea, ra.mono ⟨_, rfl⟩ (TK.refl _) rfl⟩
    · rw [List.getElem?_append_right (by omega)] at e
      have : i - σ.length = 0 := by
        have := (List.getElem?_eq_some_iff.mp e).1
        simp at this; omega
      rw [this] at e
      cases e
      refine ⟨h.objs.size, ?_, r⟩
      have hi : i = φ.length := by rw [k.len]; omega
      rw [List.getElem?_append_right (by omega), hi]; simp
theorem Ext.alloc {X φ : List Addr} {h : Heap} (ob : Obj) (hf : ob.isFreed = false := by rfl) : Ext X φ h (φ ++ [h.objs.size]) (h.push ob) :=
  ⟨⟨[h.objs.size], rfl, fun a m => by simp at m; subst m; exact fresh_size h⟩, fun _ _ _ _ e => Heap.get?_push_of_some ob e, fun a _ e => by
    obtain ⟨o', q⟩ := Option.ne_none_iff_exists'.mp e
    rw [Heap.get?_push_of_some ob q]; simp⟩

end Mine
end

/-! M2 -/
noncomputable section
set_option genInjectivity false
set_option maxHeartbeats 200000
open PySem
namespace Mine

inductive Cm where | eq | ne | lt | le | gt | ge | isIn | notIn
  deriving DecidableEq
inductive Bo where | add | sub | mul | mod | fdiv
  deriving DecidableEq

mutual
inductive E where
  | loc (i : Nat)
  | kint (i : Int)
  | kstr (s : PySem.Str)
  | kbool (b : Bool)
  | knone
  | glob (g : Nat)
  | tup (es : EL)
  | list (es : EL)
  | dict0 (k : Nat)
  | attr (e : E) (a : Nat)
  | sub (e i : E)
  | slTo (e : E) (n : Nat)
  | cmp (op : Cm) (a b : E)
  | boolop (isAnd : Bool) (es : EL)
  | not (e : E)
  | neg (e : E)
  | bin (op : Bo) (a b : E)
  | ife (c a b : E)
  | callF (f : Nat) (es : EL)
  | callM (m : Nat) (e : E) (es : EL)
  | new (c : Nat) (es : EL)
  | blt (b : Nat) (es : EL)
  | meth (k : Nat) (e : E) (es : EL)
inductive EL where
  | nil
  | cons (e : E) (es : EL)
end
inductive T where
  | loc (i : Nat)
  | tup (is : List Nat)
  | attr (e : E) (a : Nat)
  | sub (e i : E)
mutual
inductive S where
  | assign (t : T) (e : E)
  | augLoc (i : Nat) (op : Bo) (e : E)
  | augSub (e i : E) (op : Bo) (r : E)
  | expr (e : E)
  | ite (c : E) (a b : SL)
  | while (c : E) (b : SL)
  | for_ (t : T) (e : E) (b : SL)
  | ret (e : E)
  | retN
  | cont
  | pass
  | stuck
inductive SL where
  | nil
  | cons (s : S) (ss : SL)
end

inductive Fl where
  | next
  | cont
  | ret (v : V)

noncomputable abbrev En := Nat → Option V
noncomputable def En.put (ρ : En) (i : Nat) (v : V) : En := fun j => if j = i then some v else ρ j

/-- what the language takes of a program: globals, methods by class and name, makers, the called defs -/
structure Prg where
  glob : Nat → Option V
  meth : Nat → Nat → Option Nat
  init : Nat → Option Nat
noncomputable abbrev Cf := Nat → List V → AH → (V → AH → Prop) → Prop

/-- a value as plain data: lists by what they hold, to the depth n -/
noncomputable def toPyL (f : V → Option PyData) : List V → Option (List PyData)
  | [] => some []
  | x :: xs => match f x, toPyL f xs with
    | some d, some ds => some (d :: ds)
    | _, _ => none
noncomputable def toPy (σ : AH) : Nat → V → Option PyData
  | 0, _ => none
  | n + 1, v => match v with
    | .none => some .none
    | .bool b => some (.bool b)
    | .int i => some (.int i)
    | .str s => some (.str s)
    | .tup vs => (toPyL (toPy σ n) vs).map .tuple
    | .obj i => match σ[i]? with
      | some (.list xs) => (toPyL (toPy σ n) xs).map .list
      | _ => none
/-- ==: over lists by what they hold -/
noncomputable def eqV (σ : AH) (a b : V) : Option Bool := match toPy σ 6 a, toPy σ 6 b with
  | some d, some e => if SeqAt.shaped d && SeqAt.shaped e then some (PyData.eqv d e) else none
  | _, _ => none

noncomputable def listAt (σ : AH) : V → Option (List V)
  | .obj i => match σ[i]? with
    | some (.list xs) => some xs
    | _ => none
  | _ => none
noncomputable def keyInts : List V → Option (List Int)
  | [] => some []
  | .int i :: r => (keyInts r).map (i :: ·)
  | _ :: _ => none
/-- what a dict holds under a key -/
noncomputable def dictAt (o : AObj) (k : V) : Option (Option V) := match o, k with
  | .dictI es, .int i => some (vAt es i)
  | .dictS es, .str s => some (vAt es s)
  | .dictT es, .tup ks => (keyInts ks).map (vAt es)
  | _, _ => none
noncomputable def dictPut (o : AObj) (k v : V) : Option AObj := match o, k with
  | .dictI es, .int i => if es.length < 100000 then some (.dictI (vPut es i v)) else none
  | .dictS es, .str s => if es.length < 100000 then some (.dictS (vPut es s v)) else none
  | .dictT es, .tup ks => if es.length < 100000 then (keyInts ks).map fun k => .dictT (vPut es k v) else none
  | _, _ => none
noncomputable def attrAt (σ : AH) (v : V) (a : Nat) : Option V := match v with
  | .obj i => match σ[i]? with
    | some (.inst _ d) => match σ[d]? with
      | some (.ns fs) => fs.lookup a
      | _ => none
    | _ => none
  | _ => none
noncomputable def nsPut (a : Nat) (v : V) : List (Nat × V) → List (Nat × V)
  | [] => [(a, v)]
  | (b, u) :: r => if b = a then (b, v) :: r else (b, u) :: nsPut a v r
noncomputable def attrPut (σ : AH) (v : V) (a : Nat) (u : V) : Option AH := match v with
  | .obj i => match σ[i]? with
    | some (.inst _ d) => match σ[d]? with
      | some (.ns fs) => some (σ.set d (.ns (nsPut a u fs)))
      | _ => none
    | _ => none
  | _ => none
noncomputable def idx (k : Int) (n : Nat) : Option Nat := if 0 ≤ k ∧ k < n ∧ n < 1000000 then some k.toNat else none
/-- for reading: from the end also -/
noncomputable def idxR (k : Int) (n : Nat) : Option Nat := if 0 ≤ k ∧ k < n ∧ n < 1000000 then some k.toNat else if k < 0 ∧ -(n : Int) ≤ k ∧ n < 1000000 then some (k + n).toNat else none
noncomputable def itemAt (σ : AH) (v k : V) : Option V := match v, k with
  | .tup vs, .int i => (idx i vs.length).bind fun j => vs[j]?
  | .obj o, k => match σ[o]?, k with
    | some (.list xs), .int i => (idxR i xs.length).bind fun j => xs[j]?
    | some d, k => (dictAt d k).bind id
    | none, _ => none
  | _, _ => none
noncomputable def itemPut (σ : AH) (v k u : V) : Option AH := match v with
  | .obj o => match σ[o]?, k with
    | some (.list xs), .int i => if o = 0 then none else (idx i xs.length).map fun j => σ.set o (.list (xs.set j u))
    | some d, k => (dictPut d k u).map fun d' => σ.set o d'
    | none, _ => none
  | _ => none
/-- an instance's class -/
noncomputable def instOf (σ : AH) (v : V) : Option Nat := match v with
  | .obj i => match σ[i]? with
    | some (.inst c d) => match σ[d]? with
      | some (.ns _) => some c
      | _ => none
    | _ => none
  | _ => none
noncomputable def inV (σ : AH) (k v : V) : Option Bool := match v with
  | .obj o => match σ[o]?, k with
    | some (.set xs), .int i => some (decide (i ∈ xs))
    | some d, k => (dictAt d k).map (·.isSome)
    | none, _ => none
  | _ => none
noncomputable def cmpV (σ : AH) (op : Cm) (a b : V) : Option Bool := match op with
  | .eq => eqV σ a b
  | .ne => (eqV σ a b).map (!·)
  | .isIn => inV σ a b
  | .notIn => (inV σ a b).map (!·)
  | .lt => match a, b with | .int x, .int y => some (decide (x < y)) | _, _ => none
  | .le => match a, b with | .int x, .int y => some (decide (x ≤ y)) | _, _ => none
  | .gt => match a, b with | .int x, .int y => some (decide (y < x)) | _, _ => none
  | .ge => match a, b with | .int x, .int y => some (decide (y ≤ x)) | _, _ => none
noncomputable def small (x : Int) : Bool := decide (-1000 < x) && decide (x < 1000)
noncomputable def binV (op : Bo) (a b : V) : Option V := match a, b with
  | .int x, .int y => match op with
    | .add => some (.int (x + y))
    | .sub => some (.int (x - y))
    | .mul => if small x && small y then some (.int (x * y)) else none
    | .mod => if 0 < y then some (.int (x % y)) else none
    | .fdiv => if decide (0 < y) && decide (y < 2 ^ 100) then some (.int (x / y)) else none
  | _, _ => none
/-- built-in functions: 0 len, 1 range, 2 list, 3 set -/
noncomputable def bltV (σ : AH) (b : Nat) (vs : List V) : Option (V × AH) := match b, vs with
  | 0, [v] => match listAt σ v with
    | some xs => if xs.length < 1000000 then some (.int xs.length, σ) else none
    | none => none
  | 2, [v] => match v with
    | .obj o => match σ[o]? with
      | some (.list xs) => if xs.length < 1000000 then some (.obj σ.length, σ ++ [.list xs]) else none
      | some (.dictI es) => if es.length < 1000000 then some (.obj σ.length, σ ++ [.list (es.map fun e => .int e.1)]) else none
      | _ => none
    | _ => none
  | 3, [] => some (.obj σ.length, σ ++ [.set []])
  | _, _ => none
/-- built-in methods: 0 append, 1 pop, 2 get (with a default), 3 add -/
noncomputable def mList (σ : AH) (o k : Nat) (vs : List V) (xs : List V) : Option (V × AH) := match k with
  | 0 => (match vs with
    | [u] => if o ≠ 0 ∧ xs.length < 1000000 then some (.none, σ.set o (.list (xs ++ [u]))) else none
    | _ => none)
  | 1 => (match vs with
    | [] => (match xs.getLast? with
      | some u => if o ≠ 0 ∧ xs.length < 1000000 then some (u, σ.set o (.list xs.dropLast)) else none
      | none => none)
    | _ => none)
  | _ => none
noncomputable def mSet (σ : AH) (o k : Nat) (vs : List V) (xs : List Int) : Option (V × AH) := match k with
  | 3 => (match vs with
    | [v] => (match v with
      | .int i => if xs.length < 4000 then some (.none, σ.set o (.set (if i ∈ xs then xs else xs ++ [i]))) else none
      | _ => none)
    | _ => none)
  | _ => none
noncomputable def mDict (σ : AH) (k : Nat) (vs : List V) (d : AObj) : Option (V × AH) := match k with
  | 2 => (match vs with
    | [key, dflt] => (dictAt d key).map fun r => (r.getD dflt, σ)
    | _ => none)
  | _ => none
noncomputable def mObj (σ : AH) (o k : Nat) (vs : List V) (d : AObj) : Option (V × AH) := match d with
  | .list xs => mList σ o k vs xs
  | .set xs => mSet σ o k vs xs
  | d => mDict σ k vs d
noncomputable def methV (σ : AH) (k : Nat) (v : V) (vs : List V) : Option (V × AH) := match v with
  | .obj o => (match σ[o]? with
    | some d => mObj σ o k vs d
    | none => none)
  | _ => none
theorem meth_of {σ : AH} {o k : Nat} {vs : List V} {d : AObj} (e : σ[o]? = some d) : methV σ k (.obj o) vs = mObj σ o k vs d := by
  show (match σ[o]? with | some d => mObj σ o k vs d | none => none) = _
  rw [e]

noncomputable def okObj (k : Nat) : AObj → Bool
  | .list _ => k == 0 || k == 1
  | .dictI _ => k == 2
  | .dictS _ => k == 2
  | .dictT _ => k == 2
  | .set _ => k == 3
  | _ => false
noncomputable def methOk (σ : AH) (k : Nat) (v : V) : Bool := match v with
  | .obj o => (match σ[o]? with
    | some d => okObj k d
    | none => false)
  | _ => false
theorem ok_of {σ : AH} {o k : Nat} {d : AObj} (e : σ[o]? = some d) (h : okObj k d = true) : methOk σ k (.obj o) = true := by
  show (match σ[o]? with | some d => okObj k d | none => false) = true
  rw [e]; exact h

/-- the ints of a range by s -/
noncomputable def upFrom (a : Int) (s : Int) : Nat → List V
  | 0 => []
  | n + 1 => .int a :: upFrom (a + s) s n
/-- what a for goes over; the list that must stay -/
inductive Src where
  | tup (vs : List V)
  | list (o : Nat)
  | range
noncomputable def iterV (σ : AH) (v : V) : Option (List V × Src) := match v with
  | .tup vs => some (vs, .tup vs)
  | .obj o => match σ[o]? with
    | some (.list xs) => if xs.length < 1000000 then some (xs, .list o) else none
    | _ => none
  | _ => none
/-- a range's ints: range(b) | range(a, b, -1) -/
noncomputable def rangeV (vs : List V) : Option (List V) := match vs with
  | [.int b] => if small b then some (upFrom 0 1 b.toNat) else none
  | [.int a, .int b, .int (-1)] => if small a && small b then some (upFrom a (-1) (a - b).toNat) else none
  | _ => none

section
variable (P : Prg) (cf : Cf)
mutual
noncomputable def wE : E → En → AH → (V → AH → Prop) → Prop
  | .loc i, ρ, σ, Q => match ρ i with
    | some v => Q v σ
    | none => False
  | .kint i, _, σ, Q => Q (.int i) σ
  | .kstr s, _, σ, Q => Q (.str s) σ
  | .kbool b, _, σ, Q => Q (.bool b) σ
  | .knone, _, σ, Q => Q .none σ
  | .glob g, _, σ, Q => match P.glob g with
    | some v => Q v σ
    | none => False
  | .tup es, ρ, σ, Q => wL es ρ σ fun vs σ' => Q (.tup vs) σ'
  | .list es, ρ, σ, Q => wL es ρ σ fun vs σ' => Q (.obj σ'.length) (σ' ++ [.list vs])
  | .dict0 k, _, σ, Q => Q (.obj σ.length) (σ ++ [match k with | 0 => .dictI [] | 1 => .dictS [] | _ => .dictT []])
  | .attr e a, ρ, σ, Q => wE e ρ σ fun v σ' => match attrAt σ' v a with
    | some u => Q u σ'
    | none => False
  | .sub e i, ρ, σ, Q => wE e ρ σ fun v σ₁ => wE i ρ σ₁ fun k σ₂ => match itemAt σ₂ v k with
    | some u => Q u σ₂
    | none => False
  | .slTo e n, ρ, σ, Q => wE e ρ σ fun v σ' => match listAt σ' v with
    | some xs => if xs.length < 1000000 then Q (.obj σ'.length) (σ' ++ [.list (xs.take n)]) else False
    | none => False
  | .cmp op a b, ρ, σ, Q => wE a ρ σ fun x σ₁ => wE b ρ σ₁ fun y σ₂ => match cmpV σ₂ op x y with
    | some c => Q (.bool c) σ₂
    | none => False
  | .boolop isAnd es, ρ, σ, Q => wB isAnd es ρ σ Q
  | .not e, ρ, σ, Q => wE e ρ σ fun v σ' => match v with
    | .bool b => Q (.bool !b) σ'
    | _ => False
  | .neg e, ρ, σ, Q => wE e ρ σ fun v σ' => match v with
    | .int i => Q (.int (-i)) σ'
    | _ => False
  | .bin op a b, ρ, σ, Q => wE a ρ σ fun x σ₁ => wE b ρ σ₁ fun y σ₂ => match binV op x y with
    | some v => Q v σ₂
    | none => False
  | .ife c a b, ρ, σ, Q => wE c ρ σ fun v σ' => match v with
    | .bool t => if t = true then wE a ρ σ' Q else wE b ρ σ' Q
    | _ => False
  | .callF f es, ρ, σ, Q => wL es ρ σ fun vs σ' => cf f vs σ' Q
  | .callM m e es, ρ, σ, Q => wE e ρ σ fun v σ₁ => match instOf σ₁ v with
    | some c => match P.meth c m with
      | some f => wL es ρ σ₁ fun vs σ₂ => cf f (v :: vs) σ₂ Q
      | none => False
    | none => False
  | .new c es, ρ, σ, Q => wL es ρ σ fun vs σ' => match P.init c with
    | some f => cf f (.obj (σ'.length + 1) :: vs) (σ' ++ [.ns []] ++ [.inst c σ'.length]) fun v σ'' => v = .none ∧ Q (.obj (σ'.length + 1)) σ''
    | none => False
  | .blt b es, ρ, σ, Q => wL es ρ σ fun vs σ' => match bltV σ' b vs with
    | some (v, σ'') => Q v σ''
    | none => False
  | .meth k e es, ρ, σ, Q => wE e ρ σ fun v σ₁ => methOk σ₁ k v = true ∧ wL es ρ σ₁ fun vs σ₂ => match methV σ₂ k v vs with
    | some (u, σ₃) => Q u σ₃
    | none => False
noncomputable def wL : EL → En → AH → (List V → AH → Prop) → Prop
  | .nil, _, σ, Q => Q [] σ
  | .cons e es, ρ, σ, Q => wE e ρ σ fun v σ₁ => wL es ρ σ₁ fun vs σ₂ => Q (v :: vs) σ₂
noncomputable def wB (isAnd : Bool) : EL → En → AH → (V → AH → Prop) → Prop
  | .nil, _, _, _ => False
  | .cons e es, ρ, σ, Q => match es with
    | .nil => wE e ρ σ Q
    | .cons e' es' => wE e ρ σ fun v σ₁ => match v with
      | .bool b => if b = isAnd then wB isAnd (.cons e' es') ρ σ₁ Q else Q (.bool b) σ₁
      | _ => False
end

noncomputable def putAll : List Nat → List V → En → Option En
  | [], [], ρ => some ρ
  | i :: is, v :: vs, ρ => putAll is vs (ρ.put i v)
  | _, _, _ => none
noncomputable def wT : T → V → En → AH → (En → AH → Prop) → Prop
  | .loc i, v, ρ, σ, Q => Q (ρ.put i v) σ
  | .tup is, v, ρ, σ, Q => match v with
    | .tup vs => match putAll is vs ρ with
      | some ρ' => Q ρ' σ
      | none => False
    | _ => False
  | .attr e a, v, ρ, σ, Q => wE P cf e ρ σ fun o σ' => match attrPut σ' o a v with
    | some σ'' => Q ρ σ''
    | none => False
  | .sub e i, v, ρ, σ, Q => wE P cf e ρ σ fun o σ₁ => wE P cf i ρ σ₁ fun k σ₂ => match itemPut σ₂ o k v with
    | some σ₃ => Q ρ σ₃
    | none => False

noncomputable def whileGo (c : En → AH → (V → AH → Prop) → Prop) (b : En → AH → (Fl → En → AH → Prop) → Prop) : Nat → En → AH → (Fl → En → AH → Prop) → Prop
  | 0, _, _, _ => False
  | n + 1, ρ, σ, Q => c ρ σ fun v σ' => match v with
    | .bool t => if t = true then b ρ σ' fun f ρ' σ'' => match f with
      | .ret u => Q (.ret u) ρ' σ''
      | _ => whileGo c b n ρ' σ'' Q
      else Q .next ρ σ'
    | _ => False
noncomputable def stays (σ : AH) (xs : List V) : Src → Prop
  | .list o => σ[o]? = some (.list xs)
  | _ => True
noncomputable def forGo (all : List V) (src : Src) (t : V → En → AH → (En → AH → Prop) → Prop) (b : En → AH → (Fl → En → AH → Prop) → Prop) : List V → En → AH → (Fl → En → AH → Prop) → Prop
  | [], ρ, σ, Q => stays σ all src ∧ Q .next ρ σ
  | v :: r, ρ, σ, Q => stays σ all src ∧ t v ρ σ fun ρ' σ' => b ρ' σ' fun f ρ'' σ'' => match f with
    | .ret u => Q (.ret u) ρ'' σ''
    | _ => forGo all src t b r ρ'' σ'' Q
mutual
noncomputable def wS : S → En → AH → (Fl → En → AH → Prop) → Prop
  | .assign t e, ρ, σ, Q => wE P cf e ρ σ fun v σ' => wT P cf t v ρ σ' (Q .next)
  | .augLoc i op e, ρ, σ, Q => match ρ i with
    | some x => wE P cf e ρ σ fun y σ' => match binV op x y with
      | some v => Q .next (ρ.put i v) σ'
      | none => False
    | none => False
  | .augSub e i op r, ρ, σ, Q => wE P cf e ρ σ fun o σ₁ => wE P cf i ρ σ₁ fun k σ₂ => match itemAt σ₂ o k with
    | some x => wE P cf r ρ σ₂ fun y σ₃ => match binV op x y with
      | some v => match itemPut σ₃ o k v with
        | some σ₄ => Q .next ρ σ₄
        | none => False
      | none => False
    | none => False
  | .expr e, ρ, σ, Q => wE P cf e ρ σ fun _ σ' => Q .next ρ σ'
  | .ite c a b, ρ, σ, Q => wE P cf c ρ σ fun v σ' => match v with
    | .bool t => if t = true then wSL a ρ σ' Q else wSL b ρ σ' Q
    | _ => False
  | .while c b, ρ, σ, Q => ∃ n, whileGo (wE P cf c) (wSL b) n ρ σ Q
  | .for_ t e b, ρ, σ, Q => match e with
    | .blt 1 es => wL P cf es ρ σ fun vs σ' => match rangeV vs with
      | some items => forGo items .range (wT P cf t) (wSL b) items ρ σ' Q
      | none => False
    | e => wE P cf e ρ σ fun v σ' => match iterV σ' v with
      | some (items, src) => forGo items src (wT P cf t) (wSL b) items ρ σ' Q
      | none => False
  | .ret e, ρ, σ, Q => wE P cf e ρ σ fun v σ' => Q (.ret v) ρ σ'
  | .retN, ρ, σ, Q => Q (.ret .none) ρ σ
  | .cont, ρ, σ, Q => Q .cont ρ σ
  | .pass, ρ, σ, Q => Q .next ρ σ
  | .stuck, _, _, _ => False
noncomputable def wSL : SL → En → AH → (Fl → En → AH → Prop) → Prop
  | .nil, ρ, σ, Q => Q .next ρ σ
  | .cons s ss, ρ, σ, Q => wS s ρ σ fun f ρ' σ' => match f with
    | .next => wSL ss ρ' σ' Q
    | f => Q f ρ' σ'
end
end

section
variable {P : Prg} {cf : Cf} {ρ : En} {σ : AH} {Q : V → AH → Prop} {QL : List V → AH → Prop} {QT : En → AH → Prop} {QS : Fl → En → AH → Prop}
theorem qe_loc (i : Nat) : wE P cf (.loc i) ρ σ Q = (match ρ i with | some v => Q v σ | none => False) := rfl
theorem qe_kint (i : Int) : wE P cf (.kint i) ρ σ Q = Q (.int i) σ := rfl
theorem qe_kstr (s : PySem.Str) : wE P cf (.kstr s) ρ σ Q = Q (.str s) σ := rfl
theorem qe_kbool (b : Bool) : wE P cf (.kbool b) ρ σ Q = Q (.bool b) σ := rfl
theorem qe_knone : wE P cf .knone ρ σ Q = Q .none σ := rfl
theorem qe_glob (g : Nat) : wE P cf (.glob g) ρ σ Q = (match P.glob g with | some v => Q v σ | none => False) := rfl
theorem qe_tup (es : EL) : wE P cf (.tup es) ρ σ Q = wL P cf es ρ σ fun vs σ' => Q (.tup vs) σ' := rfl
theorem qe_list (es : EL) : wE P cf (.list es) ρ σ Q = wL P cf es ρ σ fun vs σ' => Q (.obj σ'.length) (σ' ++ [.list vs]) := rfl
theorem qe_dict0 (k : Nat) : wE P cf (.dict0 k) ρ σ Q = Q (.obj σ.length) (σ ++ [match k with | 0 => .dictI [] | 1 => .dictS [] | _ => .dictT []]) := rfl
theorem qe_attr (e : E) (a : Nat) : wE P cf (.attr e a) ρ σ Q = wE P cf e ρ σ fun v σ' => match attrAt σ' v a with
    | some u => Q u σ'
    | none => False := rfl
theorem qe_sub (e i : E) : wE P cf (.sub e i) ρ σ Q = wE P cf e ρ σ fun v σ₁ => wE P cf i ρ σ₁ fun k σ₂ => match itemAt σ₂ v k with
    | some u => Q u σ₂
    | none => False := rfl
theorem qe_slTo (e : E) (n : Nat) : wE P cf (.slTo e n) ρ σ Q = wE P cf e ρ σ fun v σ' => match listAt σ' v with
    | some xs => if xs.length < 1000000 then Q (.obj σ'.length) (σ' ++ [.list (xs.take n)]) else False
    | none => False := rfl
theorem qe_cmp (op : Cm) (a b : E) : wE P cf (.cmp op a b) ρ σ Q = wE P cf a ρ σ fun x σ₁ => wE P cf b ρ σ₁ fun y σ₂ => match cmpV σ₂ op x y with
    | some c => Q (.bool c) σ₂
    | none => False := rfl
theorem qe_boolop (d : Bool) (es : EL) : wE P cf (.boolop d es) ρ σ Q = wB P cf d es ρ σ Q := rfl
theorem qe_not (e : E) : wE P cf (.not e) ρ σ Q = wE P cf e ρ σ fun v σ' => match v with
    | .bool b => Q (.bool !b) σ'
    | _ => False := rfl
theorem qe_neg (e : E) : wE P cf (.neg e) ρ σ Q = wE P cf e ρ σ fun v σ' => match v with
    | .int i => Q (.int (-i)) σ'
    | _ => False := rfl
theorem qe_bin (op : Bo) (a b : E) : wE P cf (.bin op a b) ρ σ Q = wE P cf a ρ σ fun x σ₁ => wE P cf b ρ σ₁ fun y σ₂ => match binV op x y with
    | some v => Q v σ₂
    | none => False := rfl
theorem qe_ife (c a b : E) : wE P cf (.ife c a b) ρ σ Q = wE P cf c ρ σ fun v σ' => match v with
    | .bool t => if t = true then wE P cf a ρ σ' Q else wE P cf b ρ σ' Q
    | _ => False := rfl
theorem qe_callF (f : Nat) (es : EL) : wE P cf (.callF f es) ρ σ Q = wL P cf es ρ σ fun vs σ' => cf f vs σ' Q := rfl
theorem qe_callM (m : Nat) (e : E) (es : EL) : wE P cf (.callM m e es) ρ σ Q = wE P cf e ρ σ fun v σ₁ => match instOf σ₁ v with
    | some c => match P.meth c m with
      | some f => wL P cf es ρ σ₁ fun vs σ₂ => cf f (v :: vs) σ₂ Q
      | none => False
    | none => False := rfl
theorem qe_new (c : Nat) (es : EL) : wE P cf (.new c es) ρ σ Q = wL P cf es ρ σ fun vs σ' => match P.init c with
    | some f => cf f (.obj (σ'.length + 1) :: vs) (σ' ++ [.ns []] ++ [.inst c σ'.length]) fun v σ'' => v = .none ∧ Q (.obj (σ'.length + 1)) σ''
    | none => False := rfl
theorem qe_blt (b : Nat) (es : EL) : wE P cf (.blt b es) ρ σ Q = wL P cf es ρ σ fun vs σ' => match bltV σ' b vs with
    | some (v, σ'') => Q v σ''
    | none => False := rfl
theorem qe_meth (k : Nat) (e : E) (es : EL) : wE P cf (.meth k e es) ρ σ Q = wE P cf e ρ σ fun v σ₁ => methOk σ₁ k v = true ∧ wL P cf es ρ σ₁ fun vs σ₂ => match methV σ₂ k v vs with
    | some (u, σ₃) => Q u σ₃
    | none => False := rfl
theorem ql_nil : wL P cf .nil ρ σ QL = QL [] σ := rfl
theorem ql_cons (e : E) (es : EL) : wL P cf (.cons e es) ρ σ QL = wE P cf e ρ σ fun v σ₁ => wL P cf es ρ σ₁ fun vs σ₂ => QL (v :: vs) σ₂ := rfl
theorem qb_one (d : Bool) (e : E) : wB P cf d (.cons e .nil) ρ σ Q = wE P cf e ρ σ Q := rfl
theorem qb_cons (d : Bool) (e e' : E) (es' : EL) : wB P cf d (.cons e (.cons e' es')) ρ σ Q = wE P cf e ρ σ fun v σ₁ => match v with
      | .bool b => if b = d then wB P cf d (.cons e' es') ρ σ₁ Q else Q (.bool b) σ₁
      | _ => False := rfl
theorem qt_loc (i : Nat) (v : V) : wT P cf (.loc i) v ρ σ QT = QT (ρ.put i v) σ := rfl
theorem qt_tup (is : List Nat) (v : V) : wT P cf (.tup is) v ρ σ QT = (match v with
    | .tup vs => match putAll is vs ρ with
      | some ρ' => QT ρ' σ
      | none => False
    | _ => False) := rfl
theorem qt_attr (e : E) (a : Nat) (v : V) : wT P cf (.attr e a) v ρ σ QT = wE P cf e ρ σ fun o σ' => match attrPut σ' o a v with
    | some σ'' => QT ρ σ''
    | none => False := rfl
theorem qt_sub (e i : E) (v : V) : wT P cf (.sub e i) v ρ σ QT = wE P cf e ρ σ fun o σ₁ => wE P cf i ρ σ₁ fun k σ₂ => match itemPut σ₂ o k v with
    | some σ₃ => QT ρ σ₃
    | none => False := rfl
theorem qs_assign (t : T) (e : E) : wS P cf (.assign t e) ρ σ QS = wE P cf e ρ σ fun v σ' => wT P cf t v ρ σ' (QS .next) := rfl
theorem qs_augLoc (i : Nat) (op : Bo) (e : E) : wS P cf (.augLoc i op e) ρ σ QS = (match ρ i with
    | some x => wE P cf e ρ σ fun y σ' => match binV op x y with
      | some v => QS .next (ρ.put i v) σ'
      | none => False
    | none => False) := rfl
theorem qs_augSub (e i : E) (op : Bo) (r : E) : wS P cf (.augSub e i op r) ρ σ QS = wE P cf e ρ σ fun o σ₁ => wE P cf i ρ σ₁ fun k σ₂ => match itemAt σ₂ o k with
    | some x => wE P cf r ρ σ₂ fun y σ₃ => match binV op x y with
      | some v => match itemPut σ₃ o k v with
        | some σ₄ => QS .next ρ σ₄
        | none => False
      | none => False
    | none => False := rfl
theorem qs_expr (e : E) : wS P cf (.expr e) ρ σ QS = wE P cf e ρ σ fun _ σ' => QS .next ρ σ' := rfl
theorem qs_ite (c : E) (a b : SL) : wS P cf (.ite c a b) ρ σ QS = wE P cf c ρ σ fun v σ' => match v with
    | .bool t => if t = true then wSL P cf a ρ σ' QS else wSL P cf b ρ σ' QS
    | _ => False := rfl
theorem qs_while (c : E) (b : SL) : wS P cf (.while c b) ρ σ QS = ∃ n, whileGo (wE P cf c) (wSL P cf b) n ρ σ QS := rfl
theorem qs_range (t : T) (es : EL) (b : SL) : wS P cf (.for_ t (.blt 1 es) b) ρ σ QS = wL P cf es ρ σ fun vs σ' => match rangeV vs with
      | some items => forGo items .range (wT P cf t) (wSL P cf b) items ρ σ' QS
      | none => False := rfl
theorem qs_for2 (t : T) (es : EL) (b : SL) : wS P cf (.for_ t (.blt 2 es) b) ρ σ QS = wE P cf (.blt 2 es) ρ σ fun v σ' => match iterV σ' v with
      | some (items, src) => forGo items src (wT P cf t) (wSL P cf b) items ρ σ' QS
      | none => False := rfl
theorem qs_forL (t : T) (i : Nat) (b : SL) : wS P cf (.for_ t (.loc i) b) ρ σ QS = wE P cf (.loc i) ρ σ fun v σ' => match iterV σ' v with
      | some (items, src) => forGo items src (wT P cf t) (wSL P cf b) items ρ σ' QS
      | none => False := rfl
theorem qs_forF (t : T) (f : Nat) (es : EL) (b : SL) : wS P cf (.for_ t (.callF f es) b) ρ σ QS = wE P cf (.callF f es) ρ σ fun v σ' => match iterV σ' v with
      | some (items, src) => forGo items src (wT P cf t) (wSL P cf b) items ρ σ' QS
      | none => False := rfl
theorem qs_ret (e : E) : wS P cf (.ret e) ρ σ QS = wE P cf e ρ σ fun v σ' => QS (.ret v) ρ σ' := rfl
theorem qs_retN : wS P cf .retN ρ σ QS = QS (.ret .none) ρ σ := rfl
theorem qs_cont : wS P cf .cont ρ σ QS = QS .cont ρ σ := rfl
theorem qs_pass : wS P cf .pass ρ σ QS = QS .next ρ σ := rfl
theorem qq_nil : wSL P cf .nil ρ σ QS = QS .next ρ σ := rfl
theorem qq_cons (s : S) (ss : SL) : wSL P cf (.cons s ss) ρ σ QS = wS P cf s ρ σ fun f ρ' σ' => match f with
    | .next => wSL P cf ss ρ' σ' QS
    | f => QS f ρ' σ' := rfl
theorem qq_step {s : S} {ss : SL} (h : wS P cf s ρ σ fun f ρ' σ' => match f with
    | .next => wSL P cf ss ρ' σ' QS
    | f => QS f ρ' σ') : wSL P cf (.cons s ss) ρ σ QS := h
end

/-- the called defs, to the depth n: params are the first locals -/
noncomputable def bindE : Nat → List V → En
  | _, [] => fun _ => none
  | i, v :: vs => fun j => if j = i then some v else bindE (i + 1) vs j
structure Fn where
  arity : Nat
  body : SL
  dflt : List V := []
noncomputable def callN (P : Prg) (fns : Nat → Option Fn) : Nat → Cf
  | 0 => fun _ _ _ _ => False
  | n + 1 => fun f vs σ Q => match fns f with
    | some fn => vs.length = fn.arity ∧ wSL P (callN P fns n) fn.body (bindE 0 (vs ++ fn.dflt)) σ fun fl _ σ' => match fl with
      | .ret v => Q v σ'
      | _ => Q .none σ'
    | none => False
theorem hold_call {P : Prg} {fns : Nat → Option Fn} {n f : Nat} {vs : List V} {σ : AH} {Q : V → AH → Prop} (h : callN P fns n f vs σ Q) : callN P fns n f vs σ Q := h

end Mine
end

/-! M3 -/
noncomputable section
set_option maxHeartbeats 200000
open PyProof.Rows PySem PySem.Calls PySem.W
namespace Mine

/-- what the law's text lays at the top, by the language's numbers -/
structure Nm where
  gname : Nat → Option PySem.Str
  fname : Nat → Option PySem.Str
  mname : Nat → Option PySem.Str
  cname : Nat → Option PySem.Str
structure Glo extends Nm where
  C : Cx
  P : Prg
  mg : PySem.Str → Option Value
  mb : PySem.Str → Option Value
  faddr : Nat → Addr
noncomputable instance : Coe Glo Nm := ⟨Glo.toNm⟩

noncomputable def bltNames : List String := ["len", "range", "list", "set"]
noncomputable def bltVal : Nat → Value
  | 0 => .builtin "len"
  | 1 => .type "range"
  | 2 => .type "list"
  | _ => .type "set"

structure GloOk (G : Glo) : Prop where
  hK : G.C.K.In G.C.hB
  g : G.C.hB.Ns mainGlobals G.mg
  b : G.C.hB.Ns builtinsNs G.mb
  lim : G.C.hB.NoLimit
  sm : G.C.hB.get? sysModules ≠ none
  bi : ∀ i n, bltNames[i]? = some n → G.mg (PySem.Str.ofString n) = none ∧ G.mb (PySem.Str.ofString n) = some (bltVal i)
  glob : ∀ g x v, G.gname g = some x → G.P.glob g = some v → ∃ w, G.mg x = some w ∧ Rel G.C.hB [] v w
  fn : ∀ f x, G.fname f = some x → G.mg x = some (.ref (G.faddr f)) ∧ keepIn G.C.K (.ref (G.faddr f)) = true
  cn : ∀ c x, G.cname c = some x → G.mg x = some (.ref (G.C.cls c)) ∧ keepIn G.C.K (.ref (G.C.cls c)) = true
  meth : ∀ c m f x, G.P.meth c m = some f → G.mname m = some x → plainGet G.C.K (G.C.cls c) x = true ∧ findIn G.C.K (.ref (G.C.cls c)) x = some (some (.ref (G.faddr f))) ∧ isFn G.C.K (.ref (G.faddr f)) = true ∧
    keepIn G.C.K (.ref (G.faddr f)) = true ∧ x ∉ attrNames
  attr : ∀ c a, c < G.C.nc → a < attrNames.length → plainGet G.C.K (G.C.cls c) (attrName a) = true ∧ hasDictIn G.C.K (G.C.cls c) = true ∧ findIn G.C.K (.ref (G.C.cls c)) (attrName a) = some none ∧
    takerIn G.C.K (G.C.cls c) (attrName a) = some none
  sets : ∀ c, c < G.C.nc → findIn G.C.K (.ref (G.C.cls c)) "__setattr__" = some (some (.builtin "object.__setattr__")) ∧ plainOver G.C.K (G.C.cls c) = true
  init : ∀ c f, G.P.init c = some f → c < G.C.nc ∧ makesIn G.C.K (G.C.cls c) = true ∧ findIn G.C.K (.ref (G.C.cls c)) "__init__" = some (some (.ref (G.faddr f))) ∧ isFn G.C.K (.ref (G.faddr f)) = true

/-- a def's names -/
structure Ck where
  sc : Scope
  names : List PySem.Str
structure EnvOk (X : Ck) (L : Addr) (env : Env) : Prop where
  sc : env.scope = X.sc
  nd : X.names.Nodup
  kind : X.sc.kind = .function
  loc : env.locals = L
  glob : env.globals = mainGlobals
  bu : env.builtins = builtinsNs

/-- the frame's locals -/
structure Loc (X : Ck) (ρ : En) (φ : List Addr) (h : Heap) (L : Addr) : Prop where
  ns : ∃ m, h.Ns L m ∧ ∀ i v, ρ i = some v → ∃ x w, X.names[i]? = some x ∧ m x = some w ∧ Rel h φ v w
  out : L ∉ φ
theorem Ns.notup {h : Heap} {L : Addr} {m : PySem.Str → Option Value} (n : h.Ns L m) (ws : Array Value) : ¬ IsTup h L ws := fun t => by
  obtain ⟨o, es, ep, e, d, _⟩ := n
  obtain ⟨o', e', _, k, d'⟩ := t
  rw [e] at e'; cases e'
  rw [d] at d'; cases d'
theorem Loc.live {X : Ck} {ρ : En} {φ : List Addr} {h : Heap} {L : Addr} (l : Loc X ρ φ h L) : h.get? L ≠ none := by
  obtain ⟨m, ⟨o, es, ep, e, d, _⟩, _⟩ := l.ns
  rw [e]; simp
theorem Loc.ext {X : Ck} {ρ : En} {φ φ' : List Addr} {h h' : Heap} {L : Addr} {C : Cx} {σ : AH} (l : Loc X ρ φ h L) (k : Ok C φ σ h) (x : Ext [] φ h φ' h') : Loc X ρ φ' h' L := by
  have hl := l.live
  obtain ⟨⟨m, ⟨o, es, ep, e, r⟩, q⟩, out⟩ := l
  have t := x.tk k (fun a m => nomatch m)
  refine ⟨⟨m, ⟨o, es, ep, x.keep L o out (fun z => nomatch z) e, r⟩, fun i v z => ?_⟩, fun z => ?_⟩
  · obtain ⟨y, w, a, b, c⟩ := q i v z
    exact ⟨y, w, a, b, c.mono x.pref t⟩
  · obtain ⟨ψ, e1, e2⟩ := x.pre
    rw [e1] at z
    rcases List.mem_append.mp z with z | z
    · exact out z
    · exact hl (e2 L z)

structure AOk (A : Around) (n : Nat) : Prop where
  handled : A.handled = none
  depth : A.depth + 3 * n + 10 < recursionLimit
  units : A.units + 20 * n + 200 < cLine

noncomputable def NR : Value → Shared → Prop := fun _ _ => False

/-- a part's end -/
noncomputable def Post (C : Cx) (φ : List Addr) (s : Shared) (Q : V → AH → Prop) : Value → Shared → Prop := fun w s' =>
  ∃ φ' σ' v, Ext [] φ s.heap φ' s'.heap ∧ Ok C φ' σ' s'.heap ∧ Rel s'.heap φ' v w ∧ Q v σ' ∧ s'.gens = s.gens ∧ s'.os = s.os
noncomputable def PostL (C : Cx) (φ : List Addr) (s : Shared) (Q : List V → AH → Prop) : List Value → Shared → Prop := fun ws s' =>
  ∃ φ' σ' vs, Ext [] φ s.heap φ' s'.heap ∧ Ok C φ' σ' s'.heap ∧ RelL s'.heap φ' vs ws ∧ Q vs σ' ∧ s'.gens = s.gens ∧ s'.os = s.os
noncomputable def PostT (C : Cx) (φ : List Addr) (s : Shared) (R : Bool → AH → Prop) : Bool → Shared → Prop := fun b s' =>
  ∃ φ' σ', Ext [] φ s.heap φ' s'.heap ∧ Ok C φ' σ' s'.heap ∧ R b σ' ∧ s'.gens = s.gens ∧ s'.os = s.os

theorem Post.elim {C : Cx} {φ : List Addr} {s : Shared} {Q : V → AH → Prop} {w : Value} {s' : Shared} {R : Prop} (p : Post C φ s Q w s')
    (h : ∀ φ' σ' v, Ext [] φ s.heap φ' s'.heap → Ok C φ' σ' s'.heap → Rel s'.heap φ' v w → Q v σ' → s'.gens = s.gens → s'.os = s.os → R) : R :=
  let ⟨a, b, c, d, e, f, g, i, j⟩ := p; h a b c d e f g i j
theorem PostL.elim {C : Cx} {φ : List Addr} {s : Shared} {Q : List V → AH → Prop} {w : List Value} {s' : Shared} {R : Prop} (p : PostL C φ s Q w s')
    (h : ∀ φ' σ' v, Ext [] φ s.heap φ' s'.heap → Ok C φ' σ' s'.heap → RelL s'.heap φ' v w → Q v σ' → s'.gens = s.gens → s'.os = s.os → R) : R :=
  let ⟨a, b, c, d, e, f, g, i, j⟩ := p; h a b c d e f g i j
theorem PostT.elim {C : Cx} {φ : List Addr} {s : Shared} {Q : Bool → AH → Prop} {w : Bool} {s' : Shared} {R : Prop} (p : PostT C φ s Q w s')
    (h : ∀ φ' σ', Ext [] φ s.heap φ' s'.heap → Ok C φ' σ' s'.heap → Q w σ' → s'.gens = s.gens → s'.os = s.os → R) : R :=
  let ⟨a, b, d, e, g, i, j⟩ := p; h a b d e g i j

theorem Post.trans {C : Cx} {φ φ₁ : List Addr} {s s₁ : Shared} {Q : V → AH → Prop} (x : Ext [] φ s.heap φ₁ s₁.heap) (g : s₁.gens = s.gens) (o : s₁.os = s.os) {w : Value} {s' : Shared} (p : Post C φ₁ s₁ Q w s') : Post C φ s Q w s' := by
  obtain ⟨φ', σ', v, a, b, c, d, e, f⟩ := p
  exact ⟨φ', σ', v, x.trans a, b, c, d, e.trans g, f.trans o⟩

section
variable (G : Glo)
noncomputable abbrev MM (G : Glo) : Model := model G.C.prog G.C.w

/-- the called defs keep their word, to the depth n -/
noncomputable def SimCf (cf : Cf) (n : Nat) : Prop := ∀ (f : Nat) (vs : List V) (σ : AH) (Q : V → AH → Prop), cf f vs σ Q → ∀ (A : Around), AOk A n → ∀ (s : Shared) (φ : List Addr) (ws : List Value), Ok G.C φ σ s.heap → RelL s.heap φ vs ws →
  codeAny (MM G) A (.call (.ref (G.faddr f)) ⟨ws, []⟩) (fun r s' => match r with | .ok (.ret w) => Post G.C φ s Q w s' | _ => False) s
end

/-- the check that the language's part is the text's -/
noncomputable def ckName (X : Ck) (k : NameKind) (x : PySem.Str) : Bool := X.sc.names.lookup x == some k && !(x == ("__debug__" : PySem.Str))
noncomputable def ckCm : Cm → CmpOp → Bool
  | .eq, .Eq | .ne, .NotEq | .lt, .Lt | .le, .LtE | .gt, .Gt | .ge, .GtE | .isIn, .In | .notIn, .NotIn => true
  | _, _ => false
noncomputable def ckBo : Bo → Operator → Bool
  | .add, .Add | .sub, .Sub | .mul, .Mult | .mod, .Mod => true
  | _, _ => false
noncomputable def ckAug : Bo → Operator → Bool
  | .add, .Add | .sub, .Sub | .fdiv, .FloorDiv => true
  | _, _ => false
noncomputable def methId : Nat → Option String
  | 0 => some "append"
  | 1 => some "pop"
  | 2 => some "get"
  | 3 => some "add"
  | _ => none
noncomputable def notCall : PySem.Expr → Bool
  | .Call .. => false
  | _ => true
noncomputable def notSlice : PySem.Expr → Bool
  | .Slice .. => false
  | _ => true
theorem ite_tag {p : Prop} [Decidable p] {f : p → Bool} (c : (if h : p then f h else false) = true) : p :=
  Decidable.byContradiction fun n => by rw [dif_neg n] at c; cases c
noncomputable def onName (x : PySem.Expr) (f : PySem.Str → Pos → Bool) : Bool := if h : x.ctorIdx = 23 then PySem.Expr.Name.elim (motive_1 := fun _ => Bool) x h f else false
theorem onName_tag {x : PySem.Expr} {f : PySem.Str → Pos → Bool} (c : onName x f = true) : x.ctorIdx = 23 := ite_tag c
@[elab_as_elim] theorem onName_elim {x : PySem.Expr} {f : PySem.Str → Pos → Bool} (c : onName x f = true) {motive : PySem.Expr → Prop} (h : ∀ a p, f a p = true → motive (.Name a p)) : motive x :=
  PySem.Expr.Name.elim (motive_1 := fun x => onName x f = true → motive x) x (ite_tag c) h c
noncomputable def onConstant (x : PySem.Expr) (f : Const → Nat → Pos → Bool) : Bool := if h : x.ctorIdx = 19 then PySem.Expr.Constant.elim (motive_1 := fun _ => Bool) x h f else false
theorem onConstant_tag {x : PySem.Expr} {f : Const → Nat → Pos → Bool} (c : onConstant x f = true) : x.ctorIdx = 19 := ite_tag c
@[elab_as_elim] theorem onConstant_elim {x : PySem.Expr} {f : Const → Nat → Pos → Bool} (c : onConstant x f = true) {motive : PySem.Expr → Prop} (h : ∀ k d p, f k d p = true → motive (.Constant k d p)) : motive x :=
  PySem.Expr.Constant.elim (motive_1 := fun x => onConstant x f = true → motive x) x (ite_tag c) h c
noncomputable def onTuple (x : PySem.Expr) (f : List PySem.Expr → Nat → Pos → Bool) : Bool := if h : x.ctorIdx = 25 then PySem.Expr.Tuple.elim (motive_1 := fun _ => Bool) x h f else false
theorem onTuple_tag {x : PySem.Expr} {f : List PySem.Expr → Nat → Pos → Bool} (c : onTuple x f = true) : x.ctorIdx = 25 := ite_tag c
@[elab_as_elim] theorem onTuple_elim {x : PySem.Expr} {f : List PySem.Expr → Nat → Pos → Bool} (c : onTuple x f = true) {motive : PySem.Expr → Prop} (h : ∀ xs d p, f xs d p = true → motive (.Tuple xs d p)) : motive x :=
  PySem.Expr.Tuple.elim (motive_1 := fun x => onTuple x f = true → motive x) x (ite_tag c) h c
noncomputable def onList (x : PySem.Expr) (f : List PySem.Expr → Pos → Bool) : Bool := if h : x.ctorIdx = 24 then PySem.Expr.List.elim (motive_1 := fun _ => Bool) x h f else false
theorem onList_tag {x : PySem.Expr} {f : List PySem.Expr → Pos → Bool} (c : onList x f = true) : x.ctorIdx = 24 := ite_tag c
@[elab_as_elim] theorem onList_elim {x : PySem.Expr} {f : List PySem.Expr → Pos → Bool} (c : onList x f = true) {motive : PySem.Expr → Prop} (h : ∀ xs p, f xs p = true → motive (.List xs p)) : motive x :=
  PySem.Expr.List.elim (motive_1 := fun x => onList x f = true → motive x) x (ite_tag c) h c
noncomputable def onDict (x : PySem.Expr) (f : List (Option PySem.Expr) → List PySem.Expr → Pos → Bool) : Bool := if h : x.ctorIdx = 6 then PySem.Expr.Dict.elim (motive_1 := fun _ => Bool) x h f else false
theorem onDict_tag {x : PySem.Expr} {f : List (Option PySem.Expr) → List PySem.Expr → Pos → Bool} (c : onDict x f = true) : x.ctorIdx = 6 := ite_tag c
@[elab_as_elim] theorem onDict_elim {x : PySem.Expr} {f : List (Option PySem.Expr) → List PySem.Expr → Pos → Bool} (c : onDict x f = true) {motive : PySem.Expr → Prop} (h : ∀ ks vs p, f ks vs p = true → motive (.Dict ks vs p)) : motive x :=
  PySem.Expr.Dict.elim (motive_1 := fun x => onDict x f = true → motive x) x (ite_tag c) h c
noncomputable def onAttribute (x : PySem.Expr) (f : PySem.Expr → PySem.Str → Pos → Bool) : Bool := if h : x.ctorIdx = 20 then PySem.Expr.Attribute.elim (motive_1 := fun _ => Bool) x h f else false
theorem onAttribute_tag {x : PySem.Expr} {f : PySem.Expr → PySem.Str → Pos → Bool} (c : onAttribute x f = true) : x.ctorIdx = 20 := ite_tag c
@[elab_as_elim] theorem onAttribute_elim {x : PySem.Expr} {f : PySem.Expr → PySem.Str → Pos → Bool} (c : onAttribute x f = true) {motive : PySem.Expr → Prop} (h : ∀ y n p, f y n p = true → motive (.Attribute y n p)) : motive x :=
  PySem.Expr.Attribute.elim (motive_1 := fun x => onAttribute x f = true → motive x) x (ite_tag c) h c
noncomputable def onSubscript (x : PySem.Expr) (f : PySem.Expr → PySem.Expr → Pos → Bool) : Bool := if h : x.ctorIdx = 21 then PySem.Expr.Subscript.elim (motive_1 := fun _ => Bool) x h f else false
theorem onSubscript_tag {x : PySem.Expr} {f : PySem.Expr → PySem.Expr → Pos → Bool} (c : onSubscript x f = true) : x.ctorIdx = 21 := ite_tag c
@[elab_as_elim] theorem onSubscript_elim {x : PySem.Expr} {f : PySem.Expr → PySem.Expr → Pos → Bool} (c : onSubscript x f = true) {motive : PySem.Expr → Prop} (h : ∀ y z p, f y z p = true → motive (.Subscript y z p)) : motive x :=
  PySem.Expr.Subscript.elim (motive_1 := fun x => onSubscript x f = true → motive x) x (ite_tag c) h c
noncomputable def onCompare (x : PySem.Expr) (f : PySem.Expr → List CmpOp → List PySem.Expr → Pos → Bool) : Bool := if h : x.ctorIdx = 15 then PySem.Expr.Compare.elim (motive_1 := fun _ => Bool) x h f else false
theorem onCompare_tag {x : PySem.Expr} {f : PySem.Expr → List CmpOp → List PySem.Expr → Pos → Bool} (c : onCompare x f = true) : x.ctorIdx = 15 := ite_tag c
@[elab_as_elim] theorem onCompare_elim {x : PySem.Expr} {f : PySem.Expr → List CmpOp → List PySem.Expr → Pos → Bool} (c : onCompare x f = true) {motive : PySem.Expr → Prop} (h : ∀ y os ys p, f y os ys p = true → motive (.Compare y os ys p)) : motive x :=
  PySem.Expr.Compare.elim (motive_1 := fun x => onCompare x f = true → motive x) x (ite_tag c) h c
noncomputable def onBoolOp (x : PySem.Expr) (f : BoolOp → List PySem.Expr → Pos → Bool) : Bool := if h : x.ctorIdx = 0 then PySem.Expr.BoolOp.elim (motive_1 := fun _ => Bool) x h f else false
theorem onBoolOp_tag {x : PySem.Expr} {f : BoolOp → List PySem.Expr → Pos → Bool} (c : onBoolOp x f = true) : x.ctorIdx = 0 := ite_tag c
@[elab_as_elim] theorem onBoolOp_elim {x : PySem.Expr} {f : BoolOp → List PySem.Expr → Pos → Bool} (c : onBoolOp x f = true) {motive : PySem.Expr → Prop} (h : ∀ o xs p, f o xs p = true → motive (.BoolOp o xs p)) : motive x :=
  PySem.Expr.BoolOp.elim (motive_1 := fun x => onBoolOp x f = true → motive x) x (ite_tag c) h c
noncomputable def onUnaryOp (x : PySem.Expr) (f : UnaryOp → PySem.Expr → Pos → Bool) : Bool := if h : x.ctorIdx = 3 then PySem.Expr.UnaryOp.elim (motive_1 := fun _ => Bool) x h f else false
theorem onUnaryOp_tag {x : PySem.Expr} {f : UnaryOp → PySem.Expr → Pos → Bool} (c : onUnaryOp x f = true) : x.ctorIdx = 3 := ite_tag c
@[elab_as_elim] theorem onUnaryOp_elim {x : PySem.Expr} {f : UnaryOp → PySem.Expr → Pos → Bool} (c : onUnaryOp x f = true) {motive : PySem.Expr → Prop} (h : ∀ o y p, f o y p = true → motive (.UnaryOp o y p)) : motive x :=
  PySem.Expr.UnaryOp.elim (motive_1 := fun x => onUnaryOp x f = true → motive x) x (ite_tag c) h c
noncomputable def onBinOp (x : PySem.Expr) (f : PySem.Expr → Operator → PySem.Expr → Pos → Bool) : Bool := if h : x.ctorIdx = 2 then PySem.Expr.BinOp.elim (motive_1 := fun _ => Bool) x h f else false
theorem onBinOp_tag {x : PySem.Expr} {f : PySem.Expr → Operator → PySem.Expr → Pos → Bool} (c : onBinOp x f = true) : x.ctorIdx = 2 := ite_tag c
@[elab_as_elim] theorem onBinOp_elim {x : PySem.Expr} {f : PySem.Expr → Operator → PySem.Expr → Pos → Bool} (c : onBinOp x f = true) {motive : PySem.Expr → Prop} (h : ∀ y o z p, f y o z p = true → motive (.BinOp y o z p)) : motive x :=
  PySem.Expr.BinOp.elim (motive_1 := fun x => onBinOp x f = true → motive x) x (ite_tag c) h c
noncomputable def onIfExp (x : PySem.Expr) (f : PySem.Expr → PySem.Expr → PySem.Expr → Pos → Bool) : Bool := if h : x.ctorIdx = 5 then PySem.Expr.IfExp.elim (motive_1 := fun _ => Bool) x h f else false
theorem onIfExp_tag {x : PySem.Expr} {f : PySem.Expr → PySem.Expr → PySem.Expr → Pos → Bool} (c : onIfExp x f = true) : x.ctorIdx = 5 := ite_tag c
@[elab_as_elim] theorem onIfExp_elim {x : PySem.Expr} {f : PySem.Expr → PySem.Expr → PySem.Expr → Pos → Bool} (c : onIfExp x f = true) {motive : PySem.Expr → Prop} (h : ∀ y z u p, f y z u p = true → motive (.IfExp y z u p)) : motive x :=
  PySem.Expr.IfExp.elim (motive_1 := fun x => onIfExp x f = true → motive x) x (ite_tag c) h c
noncomputable def onCall (x : PySem.Expr) (f : PySem.Expr → List PySem.Expr → List Keyword → Pos → Bool) : Bool := if h : x.ctorIdx = 16 then PySem.Expr.Call.elim (motive_1 := fun _ => Bool) x h f else false
theorem onCall_tag {x : PySem.Expr} {f : PySem.Expr → List PySem.Expr → List Keyword → Pos → Bool} (c : onCall x f = true) : x.ctorIdx = 16 := ite_tag c
@[elab_as_elim] theorem onCall_elim {x : PySem.Expr} {f : PySem.Expr → List PySem.Expr → List Keyword → Pos → Bool} (c : onCall x f = true) {motive : PySem.Expr → Prop} (h : ∀ g xs kws p, f g xs kws p = true → motive (.Call g xs kws p)) : motive x :=
  PySem.Expr.Call.elim (motive_1 := fun x => onCall x f = true → motive x) x (ite_tag c) h c
noncomputable def onSlice (x : PySem.Expr) (f : Option PySem.Expr → Option PySem.Expr → Option PySem.Expr → Pos → Bool) : Bool := if h : x.ctorIdx = 26 then PySem.Expr.Slice.elim (motive_1 := fun _ => Bool) x h f else false
theorem onSlice_tag {x : PySem.Expr} {f : Option PySem.Expr → Option PySem.Expr → Option PySem.Expr → Pos → Bool} (c : onSlice x f = true) : x.ctorIdx = 26 := ite_tag c
@[elab_as_elim] theorem onSlice_elim {x : PySem.Expr} {f : Option PySem.Expr → Option PySem.Expr → Option PySem.Expr → Pos → Bool} (c : onSlice x f = true) {motive : PySem.Expr → Prop} (h : ∀ lo up st p, f lo up st p = true → motive (.Slice lo up st p)) : motive x :=
  PySem.Expr.Slice.elim (motive_1 := fun x => onSlice x f = true → motive x) x (ite_tag c) h c
mutual
noncomputable def ckE (G : Nm) (X : Ck) : E → PySem.Expr → Bool
  | .loc i, x => onName x fun y _ => X.names[i]? == some y && ckName X .local y
  | .kint i, x => onConstant x fun k _ _ => (match k with | .int j => decide (i = j) | _ => false)
  | .kstr s, x => onConstant x fun k _ _ => (match k with | .str j => decide (s = j) | _ => false)
  | .kbool b, x => onConstant x fun k _ _ => (match k with | .bool j => b == j | _ => false)
  | .knone, x => onConstant x fun k _ _ => (match k with | .none => true | _ => false)
  | .glob g, x => onName x fun y _ => G.gname g == some y && ckName X .globalImplicit y
  | .tup es, x => onTuple x fun xs _ _ => ckL G X es xs && decide (xs.length ≤ 100)
  | .list es, x => onList x fun xs _ => ckL G X es xs && decide (xs.length ≤ 100)
  | .dict0 _, x => onDict x fun ks vs _ => ks.isEmpty && vs.isEmpty
  | .attr e a, x => onAttribute x fun y n _ => ckE G X e y && attrNames[a]? == some n && notCall y
  | .sub e i, x => onSubscript x fun y z _ => ckE G X e y && ckE G X i z && notSlice z
  | .slTo e n, x => onSubscript x fun y z _ => ckE G X e y && onName y (fun _ _ => true) && onSlice z fun lo up st _ => lo.isNone && st.isNone && (match up with
    | some u => onConstant u fun k _ _ => (match k with | .int m => decide ((n : Int) = m) && decide (n < 1000) | _ => false)
    | none => false)
  | .cmp op a b, x => onCompare x fun y os ys _ => (match os with
    | [o] => (match ys with
      | [z] => ckCm op o && ckE G X a y && ckE G X b z && !behindInMarks o z
      | _ => false)
    | _ => false)
  | .boolop isAnd es, x => onBoolOp x fun o xs _ => (isAnd == (o == .And)) && ckL G X es xs
  | .not e, x => onUnaryOp x fun o y _ => (match o with | .Not => ckE G X e y | _ => false)
  | .neg e, x => onUnaryOp x fun o y _ => (match o with | .USub => ckE G X e y | _ => false)
  | .bin op a b, x => onBinOp x fun y o z _ => ckBo op o && ckE G X a y && ckE G X b z
  | .ife c a b, x => onIfExp x fun y z u _ => ckE G X c y && ckE G X a z && ckE G X b u
  | .callF f es, x => onCall x fun g xs kws _ => kws.isEmpty && onName g fun y _ => G.fname f == some y && ckName X .globalImplicit y && ckL G X es xs && decide (xs.length ≤ 20)
  | .callM m e es, x => onCall x fun g xs kws q => kws.isEmpty && onAttribute g fun y n p => ckE G X e y && G.mname m == some n && ckL G X es xs && decide (xs.length ≤ 20) && notCall y && (p.endLine == q.line)
  | .new c es, x => onCall x fun g xs kws _ => kws.isEmpty && onName g fun y _ => G.cname c == some y && ckName X .globalImplicit y && ckL G X es xs && decide (xs.length ≤ 20)
  | .blt b es, x => onCall x fun g xs kws _ => kws.isEmpty && onName g fun y _ => (bltNames.map PySem.Str.ofString)[b]? == some y && ckName X .globalImplicit y && ckL G X es xs && decide (xs.length ≤ 20)
  | .meth k e es, x => onCall x fun g xs kws q => kws.isEmpty && onAttribute g fun y n p => ckE G X e y && (methId k).map PySem.Str.ofString == some n && ckL G X es xs && decide (xs.length ≤ 20) && notCall y && (p.endLine == q.line)
noncomputable def ckL (G : Nm) (X : Ck) : EL → List PySem.Expr → Bool
  | .nil, xs => xs.isEmpty
  | .cons e es, xs => (match xs with
    | x :: xs => ckE G X e x && ckL G X es xs
    | [] => false)
end

/-- a part of the text is told by its part of the language -/
noncomputable def SimE (G : Glo) (cf : Cf) (n : Nat) (e : E) : Prop := ∀ (X : Ck) (x : PySem.Expr), ckE G X e x = true → ∀ (L : Addr) (env : Env), EnvOk X L env → ∀ (A : Around), AOk A (n + 1) → ∀ (s : Shared) (φ : List Addr) (σ : AH) (ρ : En), Ok G.C φ σ s.heap → Loc X ρ φ s.heap L →
  (∀ Q, wE G.P cf e ρ σ Q → wpAny (MM G) A (eval x env) (Post G.C φ s Q) NR s) ∧
  (∀ R : Bool → AH → Prop, wE G.P cf e ρ σ (fun v σ' => match v with | .bool b => R b σ' | _ => False) → wpAny (MM G) A (isTrue x env (eval x env)) (PostT G.C φ s R) NR s)
noncomputable def SimL (G : Glo) (cf : Cf) (n : Nat) (es : EL) : Prop := ∀ (X : Ck) (xs : List PySem.Expr), ckL G X es xs = true → ∀ (L : Addr) (env : Env), EnvOk X L env → ∀ (A : Around), AOk A (n + 1) → ∀ (s : Shared) (φ : List Addr) (σ : AH) (ρ : En), Ok G.C φ σ s.heap → Loc X ρ φ s.heap L →
  (∀ (pos : Pos) Q, wL G.P cf es ρ σ Q → wpAny (MM G) A (spliced (backTo pos (starEach xs env))) (PostL G.C φ s (fun vs σ' => vs.length = xs.length ∧ Q vs σ')) NR s) ∧
  (∀ (pos : Pos) (op : BoolOp) Q, wB G.P cf (op == .And) es ρ σ Q → wpAny (MM G) A (boolOp pos op (evalEach xs env)) (Post G.C φ s Q) NR s) ∧
  (∀ (op : BoolOp) (R : Bool → AH → Prop), wB G.P cf (op == .And) es ρ σ (fun v σ' => match v with | .bool b => R b σ' | _ => False) → wpAny (MM G) A (allTrue op xs env) (PostT G.C φ s R) NR s)

/-- where no truth is asked in another way, the value's truth is the test -/
theorem truth_of {G : Glo} {A : Around} {x : PySem.Expr} {env : Env} {φ : List Addr} {s : Shared} {R : Bool → AH → Prop} {e : PySem.Expr} (he : isTrue x env (eval x env) = (do let v ← eval x env; standAt e.pos; holding [v] (truthy v)))
    (h : wpAny (MM G) A (eval x env) (Post G.C φ s (fun v σ' => match v with | .bool b => R b σ' | _ => False)) NR s) : wpAny (MM G) A (isTrue x env (eval x env)) (PostT G.C φ s R) NR s := by
  rw [he]
  refine wpAny_bind (wpAny_mono h (fun w s' p => ?_) fun _ _ z => z)
  obtain ⟨φ', σ', v, x1, x2, x3, x4, x5, x6⟩ := p
  cases v with
  | bool b =>
    cases x3
    exact wpAny_bind (wpAny_standAt (wpAny_holding (wpAny_truthy_bool ⟨φ', σ', x1, x2, x4, x5, x6⟩)))
  | _ => exact x4.elim

theorem post_now {C : Cx} {φ : List Addr} {σ : AH} {s : Shared} {Q : V → AH → Prop} {v : V} {w : Value} {tk : Nat} (k : Ok C φ σ s.heap) (r : Rel s.heap φ v w) (q : Q v σ) : Post C φ s Q w { s with toks := tk } :=
  ⟨φ, σ, v, .refl _ _ _, k, r, q, rfl, rfl⟩
theorem post_now' {C : Cx} {φ : List Addr} {σ : AH} {s : Shared} {Q : V → AH → Prop} {v : V} {w : Value} (k : Ok C φ σ s.heap) (r : Rel s.heap φ v w) (q : Q v σ) : Post C φ s Q w s :=
  ⟨φ, σ, v, .refl _ _ _, k, r, q, rfl, rfl⟩

theorem ckName_of {X : Ck} {L : Addr} {env : Env} (he : EnvOk X L env) {k : NameKind} {x : PySem.Str} (c : ckName X k x = true) : env.kindOf x = some k ∧ (x == ("__debug__" : PySem.Str)) = false := by
  unfold ckName at c
  obtain ⟨a, b⟩ := Bool.and_eq_true_iff.mp c
  refine ⟨?_, by simpa using b⟩
  unfold Env.kindOf
  rw [he.sc]
  exact beq_iff_eq.mp a

section
variable {G : Glo} (hG : GloOk G) {cf : Cf} {n : Nat} {X : Ck} {L : Addr} {env : Env} {A : Around} {s : Shared} {φ : List Addr} {σ : AH} {ρ : En}

theorem name_loc {x : PySem.Str} {pos : Pos} {i : Nat} {v : V} (he : EnvOk X L env) (l : Loc X ρ φ s.heap L) (k : Ok G.C φ σ s.heap) (c : ckE G X (.loc i) (.Name x pos) = true) (e : ρ i = some v) {Q : V → AH → Prop} (q : Q v σ) :
    wpAny (MM G) A (eval (.Name x pos) env) (Post G.C φ s Q) NR s := by
  obtain ⟨c1, c2⟩ := Bool.and_eq_true_iff.mp (show (X.names[i]? == some x && ckName X .local x) = true from c)
  obtain ⟨c3, c4⟩ := ckName_of he c2
  obtain ⟨⟨m, hn, hm⟩, _⟩ := l
  obtain ⟨y, w, y1, y2, y3⟩ := hm i v e
  have : y = x := Option.some.inj (y1.symm.trans (beq_iff_eq.mp c1))
  subst this
  exact wpAny_Name (wpAny_loadName_local (by rw [he.sc]; exact he.kind) c3 (by rw [he.loc]; exact hn) y2 (post_now' k y3 q)) c4
include hG in
theorem name_glob {x : PySem.Str} {pos : Pos} {w : Value} {Q : Value → Shared → Prop} {E : Value → Shared → Prop} (hB : G.C.hB.StaysIn s.heap) (he : EnvOk X L env) (c : ckName X .globalImplicit x = true) (e : G.mg x = some w) (q : Q w s) :
    wpAny (MM G) A (eval (.Name x pos) env) Q E s := by
  obtain ⟨c3, c4⟩ := ckName_of he c
  exact Calls.Name_function_global (by rw [he.sc]; exact he.kind) c3 (Calls.loadGlobal_global (by rw [he.glob]; exact hG.g.keeps hB) e q) c4
include hG in
theorem name_blt {x : PySem.Str} {pos : Pos} {w : Value} {Q : Value → Shared → Prop} {E : Value → Shared → Prop} (hB : G.C.hB.StaysIn s.heap) (he : EnvOk X L env) (c : ckName X .globalImplicit x = true) (e : G.mg x = none) (e' : G.mb x = some w) (q : Q w s) :
    wpAny (MM G) A (eval (.Name x pos) env) Q E s := by
  obtain ⟨c3, c4⟩ := ckName_of he c
  exact Calls.Name_function_global (by rw [he.sc]; exact he.kind) c3 (Calls.loadGlobal_builtin (by rw [he.glob]; exact hG.g.keeps hB) e (by rw [he.bu]; exact hG.b.keeps hB) e' q) c4
end

theorem readsL_ih {σ : AH} {h : Heap} {φ : List Addr} {f : V → Option PyData} (ih : ∀ (v : V) (w : Value) (d : PyData), Rel h φ v w → f v = some d → ∃ as, Reads h w d as) : ∀ {vs : List V} {ws : List Value} {ds : List PyData}, RelL h φ vs ws → toPyL f vs = some ds → ∃ as, ReadsAll h ws ds as
  | [], _, _, r, e => by cases r; cases e; exact ⟨_, .nil⟩
  | v :: vs, _, ds, ⟨w, ws, ew, a, b⟩, e => by
    subst ew
    have e : (match f v, toPyL f vs with | some d, some ds => some (d :: ds) | _, _ => none) = some ds := e
    cases e1 : f v with
    | none => rw [e1] at e; cases e
    | some d =>
      rw [e1] at e
      cases e2 : toPyL f vs with
      | none => rw [e2] at e; cases e
      | some ds' =>
        rw [e2] at e
        cases e
        obtain ⟨as, ra⟩ := ih v w d a e1
        obtain ⟨bs, rb⟩ := readsL_ih (σ := σ) ih b e2
        exact ⟨_, .cons ra rb⟩
theorem reads_of {C : Cx} {φ : List Addr} {σ : AH} {h : Heap} (k : Ok C φ σ h) : ∀ (n : Nat) {v : V} {w : Value} {d : PyData}, Rel h φ v w → toPy σ n v = some d → ∃ as, Reads h w d as := by
  intro n
  induction n with
  | zero => intro v w d r e; cases e
  | succ n ih =>
    intro v w d r e
    cases v with
    | none => cases r; cases e; exact ⟨_, .none⟩
    | bool b => cases r; cases e; exact ⟨_, .bool _⟩
    | int i => obtain ⟨t, rfl⟩ := r; cases e; exact ⟨_, .int _ _⟩
    | str s => obtain ⟨t, rfl⟩ := r; cases e; exact ⟨_, .str _ _⟩
    | tup vs =>
      obtain ⟨a, ws, rfl, ⟨o, ho, hc, m, hd⟩, rl⟩ := r
      obtain ⟨ds, e2, rfl⟩ := Option.map_eq_some_iff.mp (show (toPyL (toPy σ n) vs).map PyData.tuple = some d from e)
      obtain ⟨as, ra⟩ := readsL_ih (σ := σ) (fun _ _ _ => ih) rl e2
      exact ⟨_, .tuple ho hc hd ra⟩
    | obj i =>
      obtain ⟨a, ea, rfl⟩ := r
      obtain ⟨o, hx, b⟩ := k.at_ ea
      have e : (match σ[i]? with | some (.list xs) => (toPyL (toPy σ n) xs).map PyData.list | _ => none) = some d := e
      rw [hx] at e
      cases o with
      | list xs =>
        obtain ⟨ds, e2, rfl⟩ := Option.map_eq_some_iff.mp (show (toPyL (toPy σ n) xs).map PyData.list = some d from e)
        obtain ⟨ws, m, g, rl⟩ := b
        obtain ⟨as, ra⟩ := readsL_ih (σ := σ) (fun _ _ _ => ih) rl e2
        exact ⟨_, .list g rfl rfl ra⟩
      | _ => cases e

end Mine
end

/-! M4 -/
noncomputable section
set_option maxHeartbeats 200000
open PyProof.Rows PySem PySem.Calls PySem.W
namespace Mine

section
variable {G : Glo} (hG : GloOk G) {A : Around} {s : Shared} {φ : List Addr} {σ : AH} {v : V} {w : Value}

/-- an end without a value -/
noncomputable def PostU (C : Cx) (φ : List Addr) (s : Shared) (σ' : AH) : Shared → Prop := fun s' =>
  Ext [] φ s.heap φ s'.heap ∧ Ok C φ σ' s'.heap ∧ s'.gens = s.gens ∧ s'.os = s.os

theorem rel_obj {h : Heap} {i : Nat} {w : Value} (k : Ok G.C φ σ h) (r : Rel h φ (.obj i) w) {o : AObj} (e : σ[i]? = some o) : ∃ a, w = .ref a ∧ φ[i]? = some a ∧ ObjRel G.C h φ a o := by
  obtain ⟨a, ea, rfl⟩ := r
  obtain ⟨b, eb, z⟩ := k.obj i o e
  rw [ea] at eb; cases eb
  exact ⟨a, rfl, ea, z⟩

theorem lookIn_ns {h : Heap} {d : Addr} {m : PySem.Str → Option Value} (n : h.Ns d m) : ∃ od, h.get? d = some od ∧ ∀ x, lookIn x od = some (m x) := by
  obtain ⟨o, es, ep, ho, hd, hk, hf⟩ := n
  refine ⟨o, ho, fun x => ?_⟩
  unfold lookIn
  rw [hd]
  dsimp only
  have q : ∀ e ∈ es.toList, e.refKey = false := fun e he => by
    obtain ⟨y, t, hy⟩ := hk e (Array.mem_toList_iff.mp he)
    unfold DictEntry.refKey
    rw [hy]
  have hx := hf x
  unfold nsFind findBy at hx
  rw [← Array.find?_toList] at hx
  rw [← hx]
  cases z : es.toList.find? (fun e => e.key.isStr x) with
  | some e => rfl
  | none =>
    have : es.toList.any (·.refKey) = false := List.any_eq_false.mpr fun e he => by rw [q e he]; decide
    rw [this]; rfl

theorem inst_at {h : Heap} {a c d : Nat} (k : Ok G.C φ σ h) {fs : List (Nat × V)} (z : ObjRel G.C h φ a (.inst c d)) (e : σ[d]? = some (.ns fs)) :
    c < G.C.nc ∧ ∃ da od m, φ[d]? = some da ∧ InstAt h a (instObj (G.C.cls c) da) (G.C.cls c) (some od) ∧ h.Ns1 da m ∧ (∀ x, lookIn x od = some (m x)) ∧
      (∀ i v, fs.lookup i = some v → ∃ w, m (attrName i) = some w ∧ Rel h φ v w) ∧ (∀ x w, m x = some w → ∃ i v, fs.lookup i = some v ∧ x = attrName i) ∧ ∀ i v, fs.lookup i = some v → i < attrNames.length := by
  obtain ⟨hc, da, ed, hi⟩ := z
  obtain ⟨b, eb, ⟨⟨m, hn, h1, h2⟩, lt⟩⟩ := k.obj d _ e
  rw [ed] at eb; cases eb
  obtain ⟨od, ho, hl⟩ := lookIn_ns hn.ns
  exact ⟨hc, da, od, m, ed, ⟨hi, rfl, rfl, ho⟩, hn, hl, h1, h2, lt⟩

theorem rel_handed {h : Heap} : ∀ {v : V} {w : Value}, Rel h φ v w → handedIn w = true
  | .none, _, r => by cases r; rfl
  | .bool _, _, r => by cases r; rfl
  | .int _, _, r => by obtain ⟨t, rfl⟩ := r; rfl
  | .str _, _, r => by obtain ⟨t, rfl⟩ := r; rfl
  | .obj _, _, r => by obtain ⟨a, _, rfl⟩ := r; rfl
  | .tup _, _, r => by obtain ⟨a, _, rfl, _⟩ := r; rfl

include hG in
theorem op_attr {expr : Bool} {a : Nat} {u : V} {Q : V → AH → Prop} (k : Ok G.C φ σ s.heap) (r : Rel s.heap φ v w) (e : attrAt σ v a = some u) (q : Q u σ) :
    wpAny (MM G) A (getAttr w (attrName a) expr) (Post G.C φ s Q) NR s := by
  cases v with
  | obj i =>
    simp only [attrAt] at e
    split at e
    · rename_i c d e1
      split at e
      · rename_i fs e2
        obtain ⟨x, rfl, ex, z⟩ := rel_obj k r e1
        obtain ⟨hc, da, od, m, ed, I, hn, hl, h1, h2, lt⟩ := inst_at k z e2
        obtain ⟨wu, hw, ru⟩ := h1 a u e
        obtain ⟨g1, g2, g3, g4⟩ := hG.attr c a hc (lt a u e)
        exact get_value (hG.hK.keeps k.base) I (plainGet_of g1).1 (findObj_own g2 g3 rfl ((hl (attrName a)).trans (by rw [hw]))) (rel_handed ru) (post_now k ru q)
      · cases e
    · cases e
  | _ => cases e

theorem nsPut_lookup (a : Nat) (u : V) : ∀ (fs : List (Nat × V)) (b : Nat), (nsPut a u fs).lookup b = if b = a then some u else fs.lookup b
  | [], b => by
    simp only [nsPut, List.lookup_cons, List.lookup_nil]
    by_cases z : b = a
    · subst z; simp
    · simp [z, beq_eq_false_iff_ne.mpr z]
  | (c, x) :: r, b => by
    simp only [nsPut]
    by_cases q : c = a
    · subst q
      rw [if_pos rfl]
      simp only [List.lookup_cons]
      by_cases z : b = c
      · subst z; simp
      · simp [z, beq_eq_false_iff_ne.mpr z]
    · rw [if_neg q]
      simp only [List.lookup_cons, nsPut_lookup a u r b]
      by_cases z : b = c
      · subst z; simp [q]
      · simp [beq_eq_false_iff_ne.mpr z]

theorem attrNames_nodup : attrNames.Nodup := by decide +kernel
theorem attrName_inj {a b : Nat} (ha : a < attrNames.length) (hb : b < attrNames.length) (e : attrName a = attrName b) : a = b := by
  unfold attrName at e
  rw [List.getD_eq_getElem?_getD, List.getD_eq_getElem?_getD, List.getElem?_eq_getElem ha, List.getElem?_eq_getElem hb] at e
  exact (List.getElem?_inj ha attrNames_nodup).mp (by rw [List.getElem?_eq_getElem ha, List.getElem?_eq_getElem hb]; exact congrArg some e)

/-- an attribute is stored into an instance's own dict -/
theorem set_raw {K : Frag} {x C dx : Addr} {od : Obj} {m : PySem.Str → Option Value} {name : PySem.Str} {wv : Value} {prog : Program} {w' : World} {E : Value → Shared → Prop} {Q : Unit → Shared → Prop} (X : K.In s.heap) (I : InstAt s.heap x (instObj C dx) C (some od)) (hn : s.heap.Ns1 dx m) (hw : Within (fun y => if y = name then some wv else m y) attrNames)
    (hs : findIn K (.ref C) "__setattr__" = some (some (.builtin "object.__setattr__"))) (hp : plainOver K C = true) (ht : takerIn K C name = some none) (hh : hasDictIn K C = true)
    (h : ∀ h', h'.Ns1 dx (fun y => if y = name then some wv else m y) → Heap.SameBut dx s.heap h' → Q () { s with heap := h', toks := s.toks + 2 }) :
    wpAny (model prog w') A (setAttr (.ref x) name wv) Q E s := by
  refine set_plain X I hs (osa_open (s := { s with toks := s.toks + 1 }) X I hp ht fun b => ?_)
  obtain ⟨cd, hc, hd'⟩ := any_some hh
  obtain ⟨hx, _, _, _⟩ := I
  refine wpAny_bind (wpAny_pure (wpAny_bind (wpAny_bind (wpAny_loadPart (s := { s with toks := s.toks + 1 }) hx (wpAny_bind (looks_clsIn X hc _ _ _ _ (fun _ _ e => e) ?_))))))
  rw [hd']
  refine wpAny_pure (a := some dx) ?_
  show wpAny _ _ (Builtin.ObjectAttr.storeInDict dx (.str name s.toks) name wv) _ _ _
  unfold Builtin.ObjectAttr.storeInDict Builtin.ObjectAttr.newKeyGuard
  refine wpAny_bind (wpAny_pure (wpAny_bind (wpAny_nsSet1 (s := { s with toks := s.toks + 1 }) hn fun h' hn' hs' => ?_)))
  obtain ⟨oD, esD, epD, hoD, hdD, hcD⟩ := hn'.count hw
  have h14 : attrNames.length = 14 := rfl
  refine wpAny_bind (wpAny_lookBehind hoD (by rw [hdD]; exact pastItsLine_dict (by rw [sizeLine_eq]; omega)) (wpAny_pure ?_))
  exact h h' hn' hs'

include hG in
theorem op_set {a : Nat} {u : V} {wu : Value} {σ' : AH} {Q : Unit → Shared → Prop} (k : Ok G.C φ σ s.heap) (r : Rel s.heap φ v w) (ru : Rel s.heap φ u wu) (ha : a < attrNames.length) (e : attrPut σ v a u = some σ')
    (q : ∀ s', PostU G.C φ s σ' s' → Q () s') : wpAny (MM G) A (setAttr w (attrName a) wu) Q NR s := by
  cases v with
  | obj i =>
    simp only [attrPut] at e
    split at e
    · rename_i c d e1
      split at e
      · rename_i fs e2
        cases e
        obtain ⟨x, rfl, ex, z⟩ := rel_obj k r e1
        obtain ⟨hc, da, od, m, ed, I, hn, hl, h1, h2, lt⟩ := inst_at k z e2
        obtain ⟨g1, g2, g3, g4⟩ := hG.attr c a hc ha
        obtain ⟨g5, g6⟩ := hG.sets c hc
        refine set_raw (hG.hK.keeps k.base) I hn (fun y hy => ?_) g5 g6 g4 g2 fun h' hn' hs' => q _ ?_
        · by_cases q : y = attrName a
          · rw [q]; unfold attrName; rw [List.getD_eq_getElem?_getD, List.getElem?_eq_getElem ha]; exact List.getElem_mem ha
          · have hy : m y ≠ none := by simpa only [if_neg q] using hy
            obtain ⟨wy, hwy⟩ := Option.ne_none_iff_exists'.mp hy
            obtain ⟨i, v, b1, b2⟩ := h2 y wy hwy
            have hi := lt i v b1
            rw [b2]; unfold attrName; rw [List.getD_eq_getElem?_getD, List.getElem?_eq_getElem hi]; exact List.getElem_mem hi
        have hlive : h'.get? da ≠ none := by obtain ⟨o, _, _, ho, _⟩ := hn'; rw [ho]; simp
        refine ⟨Ext.sameBut hs' (.inl (List.mem_of_getElem? ed)) hlive, k.upd (k.nz e2 fun _ h => nomatch h) ed hs' fun t => ?_, rfl, rfl⟩
        refine ⟨⟨_, hn', fun i v hv => ?_, fun y w hy => ?_⟩, fun i v hv => ?_⟩
        · rw [nsPut_lookup] at hv
          by_cases q : i = a
          · subst q
            rw [if_pos rfl] at hv ⊢
            cases hv
            exact ⟨wu, rfl, ru.mono (List.prefix_refl _) t⟩
          · rw [if_neg q] at hv
            obtain ⟨w, b1, b2⟩ := h1 i v hv
            rw [if_neg fun z => q (attrName_inj (lt i v hv) ha z)]
            exact ⟨w, b1, b2.mono (List.prefix_refl _) t⟩
        · by_cases q : y = attrName a
          · exact ⟨a, u, by rw [nsPut_lookup, if_pos rfl], q⟩
          · rw [if_neg q] at hy
            obtain ⟨i, v, b1, b2⟩ := h2 y w hy
            refine ⟨i, v, ?_, b2⟩
            rw [nsPut_lookup, if_neg fun z => q (by rw [b2, z])]; exact b1
        · rw [nsPut_lookup] at hv
          by_cases q : i = a
          · subst q; exact ha
          · rw [if_neg q] at hv; exact lt i v hv
      · cases e
    · cases e
  | _ => cases e
end

end Mine
end

/-! M5 -/
noncomputable section
set_option maxHeartbeats 200000
open PyProof.Rows PySem PySem.Calls PySem.W
namespace Mine

theorem RelL.get' {h : Heap} {φ : List Addr} {vs : List V} {ws : Array Value} {i : Nat} {v : V} (r : RelL h φ vs ws.toList) (q : vs[i]? = some v) : ∃ w, ws[i]? = some w ∧ Rel h φ v w := by
  obtain ⟨w, e, z⟩ := r.get q
  exact ⟨w, by rw [← Array.getElem?_toList]; exact e, z⟩

theorem items_of {prog : Program} {wd : World} {h : Heap} {φ : List Addr} : ∀ {vs : List V} {ks : List Int} {ws : List Value}, keyInts vs = some ks → RelL h φ vs ws → ItemsAre (intKind prog wd) ks ws
  | [], _, _, e, r => by cases e; cases r; exact .nil
  | .int i :: vs, ks, _, e, ⟨w, ws', ew, ⟨t, et⟩, r⟩ => by
    simp only [keyInts, Option.map_eq_some_iff] at e
    obtain ⟨ks', e', rfl⟩ := e
    subst ew et
    exact .cons (by simp [intKind, Value.isInt]) (items_of e' r)
  | .none :: _, _, _, e, _ => by cases e
  | .bool _ :: _, _, _, e, _ => by cases e
  | .str _ :: _, _, _, e, _ => by cases e
  | .tup _ :: _, _, _, e, _ => by cases e
  | .obj _ :: _, _, _, e, _ => by cases e

section
variable {G : Glo} (hG : GloOk G) {A : Around} {s : Shared} {φ : List Addr} {σ : AH} {v k u : V} {w wk wu : Value}

theorem key_of {h : Heap} {vs : List V} {ks : List Int} {w : Value} (e : keyInts vs = some ks) (r : Rel h φ (.tup vs) w) : ∃ a, w = .ref a ∧ IsTupleKey (intKind G.C.prog G.C.w) h ks a := by
  obtain ⟨a, ws, rfl, ⟨o, ho, hc, n, hd⟩, rl⟩ := r
  exact ⟨a, rfl, o, ws, n, ho, hc, hd, items_of e rl⟩

include hG in
theorem not_sys {a : Addr} {h : Heap} {i : Nat} (ok : Ok G.C φ σ h) (hz : i ≠ 0) (m : φ[i]? = some a) : (a == sysModules) = false := by
  rw [beq_eq_false_iff_ne]
  exact fun e => hG.sm (e ▸ ok.new i a hz m)

theorem idx_some {i : Int} {n j : Nat} (e : idx i n = some j) : 0 ≤ i ∧ i < n ∧ n < 1000000 ∧ j = i.toNat := by
  unfold idx at e
  split at e
  · rename_i z; cases e; exact ⟨z.1, z.2.1, z.2.2, rfl⟩
  · cases e

theorem idxR_some {i : Int} {n j : Nat} (e : idxR i n = some j) : (0 ≤ i ∧ i < n ∧ n < 1000000 ∧ j = i.toNat) ∨ (i < 0 ∧ -(n : Int) ≤ i ∧ n < 1000000 ∧ j = (i + n).toNat) := by
  unfold idxR at e
  split at e
  · rename_i z; cases e; exact .inl ⟨z.1, z.2.1, z.2.2, rfl⟩
  · split at e
    · rename_i z; cases e; exact .inr ⟨z.1, z.2.1, z.2.2, rfl⟩
    · cases e

/-- what a dict holds -/
inductive DictHas (C : Cx) (h : Heap) (φ : List Addr) (a : Addr) (w : Value) : Option V → Prop where
  | pl {K : Type} [DecidableEq K] {knd : PySem.KeyKind C.prog C.w K} {x : K} {kvs : List (K × Value)} {r : Option V} : knd.is x w = true → h.DictOf knd a kvs → (match r with | some v => ∃ u, valueAt kvs x = some u ∧ Rel h φ v u | none => valueAt kvs x = none) → DictHas C h φ a w r
  | tp {x : List Int} {b : Addr} {xs : List (List Int × Addr × Value)} {r : Option V} : w = .ref b → IsTupleKey (intKind C.prog C.w) h x b → h.DictOfH (tupleKind (intKind C.prog C.w)) a xs → (match r with | some v => ∃ p, atKey xs x = some p ∧ Rel h φ v p.2 | none => atKey xs x = none) → DictHas C h φ a w r

theorem dict_has {a : Addr} {d : AObj} {r : Option V} {h : Heap} (z : ObjRel G.C h φ a d) (rk : Rel h φ k wk) (e : dictAt d k = some r) : DictHas G.C h φ a wk r := by
  cases d with
  | dictI es =>
    cases k with
    | int i =>
      obtain ⟨t, rfl⟩ := rk
      obtain ⟨kvs, hd, rr⟩ := z
      simp only [dictAt, Option.some.injEq] at e
      subst e
      exact .pl (knd := intKind G.C.prog G.C.w) (x := i) (by simp [intKind, Value.isInt]) hd (rr.at_ i)
    | _ => cases e
  | dictS es =>
    cases k with
    | str x =>
      obtain ⟨t, rfl⟩ := rk
      obtain ⟨kvs, hd, rr⟩ := z
      simp only [dictAt, Option.some.injEq] at e
      subst e
      exact .pl (knd := PySem.strKind G.C.prog G.C.w) (x := x) (by simp [PySem.strKind, Value.isStrOf]) hd (rr.at_ x)
    | _ => cases e
  | dictT es =>
    cases k with
    | tup ks =>
      simp only [dictAt, Option.map_eq_some_iff] at e
      obtain ⟨x, e1, rfl⟩ := e
      obtain ⟨b, rfl, hk⟩ := key_of e1 rk
      obtain ⟨xs, hd, rr⟩ := z
      refine .tp rfl hk hd ?_
      have q := rr.at_ x
      have q2 : valueAt (xs.map fun x => (x.1, x.2.2)) x = (atKey xs x).map (·.2) := valueAt_kvsOf xs x
      rw [q2] at q
      revert q
      cases vAt es x with
      | none => exact fun q => Option.map_eq_none_iff.mp q
      | some v => exact fun ⟨w, q, r⟩ => let ⟨p, q1, q2⟩ := Option.map_eq_some_iff.mp q; ⟨p, q1, q2 ▸ r⟩
    | _ => cases e
  | _ => cases k <;> cases e

theorem dict_type {C : Cx} {a : Addr} {r : Option V} (z : DictHas C s.heap φ a wk r) : s.TypeIs (.ref a) "dict" := by
  cases z with
  | pl _ hd _ => exact hd.mapOf.typeIs
  | tp _ _ hd _ => exact hd.typeIs

theorem item_get {n : Nat} (hA : AOk A n) (ok : Ok G.C φ σ s.heap) (rv : Rel s.heap φ v w) (rk : Rel s.heap φ k wk) (e : itemAt σ v k = some u) {Q : V → AH → Prop} (q : Q u σ) :
    wpAny (MM G) A (getItem w wk) (Post G.C φ s Q) NR s := by
  have hu : A.units + 200 < cLine := by have := hA.units; omega
  cases v with
  | tup vs =>
    cases k with
    | int i =>
      obtain ⟨t, rfl⟩ := rk
      simp only [itemAt, Option.bind_eq_some_iff] at e
      obtain ⟨j, e1, e2⟩ := e
      obtain ⟨h0, h1, h2, rfl⟩ := idx_some e1
      obtain ⟨a, ws, rfl, ht, rl⟩ := rv
      obtain ⟨wu, e3, ru⟩ := rl.get' e2
      have hl : ws.size = vs.length := by have := rl.length; simpa using this
      exact PyProof.Rows.getItem_tuple ht (by omega) (by omega) (by rw [hl]; exact seqIndex_of h0 h1) e3 (post_now' ok ru q)
    | _ => cases e
  | obj o =>
    simp only [itemAt] at e
    split at e
    · rename_i xs i e1
      obtain ⟨t, rfl⟩ := rk
      obtain ⟨j, e2, e3⟩ := Option.bind_eq_some_iff.mp e
      obtain ⟨a, rfl, ea, ws, m, hl, rl⟩ := rel_obj ok rv e1
      obtain ⟨wu, e4, ru⟩ := rl.get' e3
      have hsz : ws.size = xs.length := by have := rl.length; simpa using this
      have hL : s.heap.IsList a ws := PySem.IsL.isList (n := m) hl
      rcases idxR_some e2 with ⟨h0, h1, h2, rfl⟩ | ⟨h0, h1, h2, rfl⟩
      · exact wpAny_getItem_list hL h0 (by omega) e4 (post_now' ok ru q)
      · exact wpAny_getItem_list_neg hL h0 (by omega) (by omega) (by rw [hsz]; exact e4) (post_now' ok ru q)
    · rename_i _ d e1 hneg
      obtain ⟨a, rfl, ea, z⟩ := rel_obj ok rv e1
      obtain ⟨r, e2, e3⟩ := Option.bind_eq_some_iff.mp e
      cases e3
      have hd := dict_has z rk e2
      cases hd with
      | pl hk hd e => obtain ⟨wu, e4, ru⟩ := e; exact wpAny_getItem_of hk hd.mapOf e4 (post_now ok ru q)
      | tp e5 hk hd e => subst e5; obtain ⟨p, e4, ru⟩ := e; exact wpAny_getItem_heap (tupleKind_room_in1 (by omega)) hk hd e4 (post_now ok ru q)
    · cases e
  | _ => cases k <;> cases e
end

end Mine
end

/-! M6 -/
noncomputable section
set_option maxHeartbeats 200000
open PyProof.Rows PySem PySem.Calls PySem.W
namespace Mine

section
variable {G : Glo} (hG : GloOk G) {A : Around} {s : Shared} {φ : List Addr} {σ σ' : AH} {v k u : V} {w wk wu : Value} {n : Nat}

theorem dictPut_list {xs : List V} {k u : V} : dictPut (.list xs) k u = none := by cases k <;> rfl
theorem dictAt_list {xs : List V} {k : V} : dictAt (.list xs) k = none := by cases k <;> rfl
/-- one object is turned -/
theorem turn {i : Nat} {a : Addr} {o' : AObj} {h' : Heap} {tk : Nat} (ok : Ok G.C φ σ s.heap) (hz : i ≠ 0) (ea : φ[i]? = some a) (hs : Heap.SameBut a s.heap h') (r : TK s.heap h' → ObjRel G.C h' φ a o') :
    PostU G.C φ s (σ.set i o') { s with heap := h', toks := tk } := by
  have k' := ok.upd hz ea hs r
  have m := List.mem_of_getElem? ea
  obtain ⟨ob, e, _⟩ := k'.live m
  exact ⟨Ext.sameBut hs (.inl m) (by rw [e]; simp), k', rfl, rfl⟩
theorem turn_list {i : Nat} {a : Addr} {ws : Array Value} {m : Nat} {xs' : List V} {tk : Nat} (ok : Ok G.C φ σ s.heap) (hz : i ≠ 0) (ea : φ[i]? = some a) (hl : s.heap.get? a = some (listOf ws m)) (f : Array Value → Array Value)
    (r : RelL s.heap φ xs' (f ws).toList) : PostU G.C φ s (σ.set i (.list xs')) { s with heap := s.heap.update a (Obj.mapSeq f), toks := tk } :=
  turn ok hz ea (Heap.SameBut.update ..) fun t => ⟨f ws, _, PySem.IsL.update (n := m) hl f, r.mono (List.prefix_refl _) t⟩

theorem PostU.post {Q : V → AH → Prop} {s' : Shared} (p : PostU G.C φ s σ' s') (r : ∀ h, Rel h φ u w) (q : Q u σ') : Post G.C φ s Q w s' := by
  obtain ⟨a, b, c, d⟩ := p
  exact ⟨φ, σ', u, a, b, r _, q, c, d⟩
theorem PostU.post' {Q : V → AH → Prop} {s' : Shared} (ok : Ok G.C φ σ s.heap) (p : PostU G.C φ s σ' s') (r : Rel s.heap φ u w) (q : Q u σ') : Post G.C φ s Q w s' := by
  obtain ⟨a, b, c, d⟩ := p
  exact ⟨φ, σ', u, a, b, r.mono (List.prefix_refl _) (a.tk ok (fun _ m => nomatch m)), q, c, d⟩

theorem dict_put {n : Nat} (hA : AOk A n) (ok : Ok G.C φ σ s.heap) {i : Nat} {a : Addr} {d d' : AObj} (hz : i ≠ 0) (ea : φ[i]? = some a) (z : ObjRel G.C s.heap φ a d) (rk : Rel s.heap φ k wk) (ru : Rel s.heap φ u wu) (e : dictPut d k u = some d')
    {Q : Unit → Shared → Prop} (q : ∀ s', PostU G.C φ s (σ.set i d') s' → Q () s') : wpAny (MM G) A (setItem (.ref a) wk wu) Q NR s := by
  have hu : A.units + 200 < cLine := by have := hA.units; omega
  cases d with
  | dictI es =>
    cases k with
    | int j =>
      obtain ⟨t, rfl⟩ := rk
      obtain ⟨kvs, hd, rr⟩ := z
      simp only [dictPut] at e
      split at e
      · rename_i hl
        cases e
        refine wpAny_setItem_pairs (knd := intKind G.C.prog G.C.w) (k := j) (by simp [intKind, Value.isInt]) hd (fun h' hd' hs => q _ (turn ok hz ea hs fun t => ⟨_, hd', (rr.mono (List.prefix_refl _) t).put j (ru.mono (List.prefix_refl _) t)⟩)) (by have := rr.length; rw [this, sizeLine_eq]; omega)
      · cases e
    | _ => cases e
  | dictS es =>
    cases k with
    | str j =>
      obtain ⟨t, rfl⟩ := rk
      obtain ⟨kvs, hd, rr⟩ := z
      simp only [dictPut] at e
      split at e
      · rename_i hl
        cases e
        refine wpAny_setItem_pairs (knd := PySem.strKind G.C.prog G.C.w) (k := j) (by simp [PySem.strKind, Value.isStrOf]) hd (fun h' hd' hs => q _ (turn ok hz ea hs fun t => ⟨_, hd', (rr.mono (List.prefix_refl _) t).put j (ru.mono (List.prefix_refl _) t)⟩)) (by have := rr.length; rw [this, sizeLine_eq]; omega)
      · cases e
    | _ => cases e
  | dictT es =>
    cases k with
    | tup ks =>
      simp only [dictPut] at e
      split at e
      · rename_i hl
        obtain ⟨x, e1, rfl⟩ := Option.map_eq_some_iff.mp e
        obtain ⟨b, rfl, hk⟩ := key_of e1 rk
        obtain ⟨xs, hd, rr⟩ := z
        refine wpAny_setItem_heap (tupleKind_room_in1 (by omega)) hk hd (fun h' hd' hs => q _ (turn ok hz ea hs fun t => ⟨_, hd', ?_⟩)) (by have := rr.length; rw [List.length_map] at this; rw [this, sizeLine_eq]; omega)
        have := kvsOf_storedH xs x b wu
        unfold kvsOf at this
        rw [this]
        exact (rr.mono (List.prefix_refl _) t).put x (ru.mono (List.prefix_refl _) t)
      · cases e
    | _ => cases e
  | _ => cases k <;> cases e

theorem item_put {n : Nat} (hA : AOk A n) (ok : Ok G.C φ σ s.heap) (rv : Rel s.heap φ v w) (rk : Rel s.heap φ k wk) (ru : Rel s.heap φ u wu) (e : itemPut σ v k u = some σ')
    {Q : Unit → Shared → Prop} (q : ∀ s', PostU G.C φ s σ' s' → Q () s') : wpAny (MM G) A (setItem w wk wu) Q NR s := by
  cases v with
  | obj o =>
    simp only [itemPut] at e
    split at e
    · rename_i xs i e1
      obtain ⟨t, rfl⟩ := rk
      by_cases hz : o = 0
      · rw [if_pos hz] at e; cases e
      rw [if_neg hz] at e
      obtain ⟨j, e2, rfl⟩ := Option.map_eq_some_iff.mp e
      obtain ⟨a, rfl, ea, ws, m, hl, rl⟩ := rel_obj ok rv e1
      obtain ⟨h0, h1, h2, rfl⟩ := idx_some e2
      have hsz : ws.size = xs.length := by have := rl.length; simpa using this
      refine ki_setAt hl h0 (by omega) (by rw [hsz]; exact h1) (q _ (turn_list ok hz ea hl _ ?_))
      rw [Array.toList_setIfInBounds]
      exact rl.set ru
    · rename_i _ d e1 hneg
      obtain ⟨a, rfl, ea, z⟩ := rel_obj ok rv e1
      obtain ⟨d', e2, rfl⟩ := Option.map_eq_some_iff.mp e
      exact dict_put hA ok (ok.nz e1 (by rintro xs rfl; rw [dictPut_list] at e2; cases e2)) ea z rk ru e2 q
    · cases e
  | _ => cases e

include hG in
theorem in_op {n : Nat} {c : Bool} {o : CmpOp} {neg : Bool} (hA : AOk A n) (ok : Ok G.C φ σ s.heap) (rk : Rel s.heap φ k wk) (rv : Rel s.heap φ v w) (e : inV σ k v = some c) (ho : o = if neg then .NotIn else .In) {Q : V → AH → Prop} (q : Q (.bool (xor neg c)) σ) :
    wpAny (MM G) A (compareOp o wk w) (Post G.C φ s Q) NR s := by
  have hu : A.units + 200 < cLine := by have := hA.units; omega
  cases v with
  | obj i =>
    simp only [inV] at e
    split at e
    · rename_i xs i e1
      obtain ⟨t, rfl⟩ := rk
      obtain ⟨a, rfl, ea, S, hS, he⟩ := rel_obj ok rv e1
      cases e
      have hb : S i = decide (i ∈ xs) := by rw [Bool.eq_iff_iff, he i, decide_eq_true_iff]
      cases neg
      · subst ho
        refine wpAny_inSet_of (knd := intKind G.C.prog G.C.w) (k := i) (by simp [intKind, Value.isInt]) rfl hS (post_now ok (v := .bool (S i)) rfl ?_)
        rw [hb]; simpa using q
      · subst ho
        refine wpAny_notInSet_of (knd := intKind G.C.prog G.C.w) (k := i) (by simp [intKind, Value.isInt]) rfl hS (post_now ok (v := .bool (!S i)) rfl ?_)
        rw [hb]; simpa using q
    · rename_i _ d e1 hneg
      obtain ⟨a, rfl, ea, z⟩ := rel_obj ok rv e1
      obtain ⟨r, e2, rfl⟩ := Option.map_eq_some_iff.mp e
      have hd := dict_has z rk e2
      have hy := not_sys hG ok (ok.nz e1 (by rintro xs rfl; rw [dictAt_list] at e2; cases e2)) ea
      cases hd with
      | @pl K _ knd x kvs _ hk hd e =>
        have e9 : (valueAt kvs x).isSome = r.isSome := by cases r with | none => rw [e]; rfl | some v => obtain ⟨_, e, _⟩ := e; rw [e]; rfl
        cases neg
        · subst ho
          refine wpAny_in_of hk hy hd.mapOf (post_now ok (v := .bool (valueAt kvs x).isSome) rfl ?_)
          rw [e9]; simpa using q
        · subst ho
          refine wpAny_notIn_of hk hy hd.mapOf (post_now ok (v := .bool (!(valueAt kvs x).isSome)) rfl ?_)
          rw [e9]; simpa using q
      | @tp x b xs _ e5 hk hd e =>
        subst e5
        have e9 : (atKey xs x).isSome = r.isSome := by cases r with | none => rw [e]; rfl | some v => obtain ⟨_, e, _⟩ := e; rw [e]; rfl
        cases neg
        · subst ho
          refine wpAny_in_heap (tupleKind_room_in1 (by omega)) hk hy hd (post_now ok (v := .bool (atKey xs x).isSome) rfl ?_)
          rw [e9]; simpa using q
        · subst ho
          refine wpAny_notIn_heap (tupleKind_room_in1 (by omega)) hk hy hd (post_now ok (v := .bool (!(atKey xs x).isSome)) rfl ?_)
          rw [e9]; simpa using q
    · cases e
  | _ => cases e

theorem two_ints {a b : V} {wa wb : Value} {P : Int → Int → Bool} {c : Bool} {h : Heap} (e : (match a, b with | .int x, .int y => some (P x y) | _, _ => none) = some c) (ra : Rel h φ a wa) (rb : Rel h φ b wb) :
    ∃ x y t t', wa = .int x t ∧ wb = .int y t' ∧ P x y = c := by
  split at e
  · cases e
    obtain ⟨t, rfl⟩ := ra
    obtain ⟨t', rfl⟩ := rb
    exact ⟨_, _, _, _, rfl, rfl, rfl⟩
  · cases e
include hG in
theorem cmp_op {n : Nat} {op : Cm} {o : CmpOp} {a b : V} {wa wb : Value} {c : Bool} (hA : AOk A n) (ok : Ok G.C φ σ s.heap) (ho : ckCm op o = true) (ra : Rel s.heap φ a wa) (rb : Rel s.heap φ b wb) (e : cmpV σ op a b = some c)
    {Q : V → AH → Prop} (q : Q (.bool c) σ) : wpAny (MM G) A (compareOp o wa wb) (Post G.C φ s Q) NR s := by
  have hu : A.units + 64 < cLine := by have := hA.units; omega
  have heq : ∀ {c}, eqV σ a b = some c → ∃ da db as bs, Reads s.heap wa da as ∧ Reads s.heap wb db bs ∧ SeqAt.shaped da = true ∧ SeqAt.shaped db = true ∧ PyData.eqv da db = c := by
    intro c e
    unfold eqV at e
    split at e
    · rename_i da db e1 e2
      split at e
      · rename_i hs
        cases e
        obtain ⟨as, x1⟩ := reads_of ok _ ra e1
        obtain ⟨bs, x2⟩ := reads_of ok _ rb e2
        obtain ⟨y1, y2⟩ := Bool.and_eq_true_iff.mp hs
        exact ⟨da, db, as, bs, x1, x2, y1, y2, rfl⟩
      · cases e
    · cases e
  cases op <;> cases o <;> first | (exact absurd ho (by decide)) | skip
  · obtain ⟨da, db, as, bs, x1, x2, y1, y2, z⟩ := heq e
    exact eq_dataH x1 x2 y1 y2 hu (post_now' ok (v := .bool c) (by rw [z]; rfl) q)
  · obtain ⟨c', e8, rfl⟩ := Option.map_eq_some_iff.mp (show (eqV σ a b).map (!·) = some c from e)
    obtain ⟨da, db, as, bs, x1, x2, y1, y2, z⟩ := heq e8
    exact ne_dataH x1 x2 y1 y2 hu (post_now' ok (v := .bool (!c')) (by rw [z]; rfl) q)
  · obtain ⟨x, y, t, t', rfl, rfl, z⟩ := two_ints (P := fun x y => decide (x < y)) e ra rb
    exact PyProof.Rows.lt_int (post_now' ok (v := .bool c) (by rw [← z]; rfl) q)
  · obtain ⟨x, y, t, t', rfl, rfl, z⟩ := two_ints (P := fun x y => decide (x ≤ y)) e ra rb
    exact PySem.P.le_int (post_now' ok (v := .bool c) (by rw [← z]; rfl) q)
  · obtain ⟨x, y, t, t', rfl, rfl, z⟩ := two_ints (P := fun x y => decide (y < x)) e ra rb
    exact PyProof.Rows.gt_int (post_now' ok (v := .bool c) (by rw [← z]; rfl) q)
  · obtain ⟨x, y, t, t', rfl, rfl, z⟩ := two_ints (P := fun x y => decide (y ≤ x)) e ra rb
    exact PySem.P.ge_int (post_now' ok (v := .bool c) (by rw [← z]; rfl) q)
  · exact in_op hG hA ok ra rb e (neg := false) rfl (by simpa using q)
  · obtain ⟨c', e8, rfl⟩ := Option.map_eq_some_iff.mp (show (inV σ a b).map (!·) = some c from e)
    exact in_op hG hA ok ra rb e8 (neg := true) rfl (by simpa using q)

theorem bin_op {op : Bo} {o : Operator} {a b : V} {wa wb : Value} {c : V} (ok : Ok G.C φ σ s.heap) (ho : ckBo op o = true) (ra : Rel s.heap φ a wa) (rb : Rel s.heap φ b wb) (e : binV op a b = some c)
    {Q : V → AH → Prop} (q : Q c σ) : wpAny (MM G) A (binaryOp o wa wb) (Post G.C φ s Q) NR s := by
  unfold binV at e
  split at e
  · rename_i x y
    obtain ⟨t, rfl⟩ := ra
    obtain ⟨t', rfl⟩ := rb
    cases op <;> cases o <;> first | (exact absurd ho (by decide)) | skip
    · cases e; exact PySem.P.add_int (post_now ok (v := .int (x + y)) ⟨_, rfl⟩ q)
    · cases e; exact PySem.P.sub_int (post_now ok (v := .int (x - y)) ⟨_, rfl⟩ q)
    · dsimp only at e
      split at e
      · rename_i hs
        cases e
        obtain ⟨h1, h2⟩ := Bool.and_eq_true_iff.mp hs
        obtain ⟨h3, h4⟩ := Bool.and_eq_true_iff.mp h1
        have h3 := of_decide_eq_true h3
        have h4 := of_decide_eq_true h4
        exact PySem.P.mul_int (post_now ok (v := .int (x * y)) ⟨_, rfl⟩ q) (IntMulOk.of_left (intBits_le_64 (by omega) (by omega)))
      · cases e
    · dsimp only at e
      split at e
      · rename_i hs
        cases e
        have h1 := hs
        refine PyProof.Rows.mod_int (by omega) (post_now ok (v := .int (x % y)) ⟨s.toks, ?_⟩ q)
        rw [Int.fmod_eq_emod_of_nonneg _ (by omega)]
      · cases e
  · cases e
theorem aug_op {op : Bo} {o : Operator} {a b : V} {wa wb : Value} {c : V} (ok : Ok G.C φ σ s.heap) (ho : ckAug op o = true) (ra : Rel s.heap φ a wa) (rb : Rel s.heap φ b wb) (e : binV op a b = some c)
    {Q : V → AH → Prop} (q : Q c σ) : wpAny (MM G) A (inplaceOp o wa wb) (Post G.C φ s Q) NR s := by
  unfold binV at e
  split at e
  · rename_i x y
    obtain ⟨t, rfl⟩ := ra
    obtain ⟨t', rfl⟩ := rb
    cases op <;> cases o <;> first | (exact absurd ho (by decide)) | skip
    · cases e; exact PySem.P.iadd_int (post_now ok (v := .int (x + y)) ⟨_, rfl⟩ q)
    · cases e; exact PySem.P.isub_int (post_now ok (v := .int (x - y)) ⟨_, rfl⟩ q)
    · dsimp only at e
      split at e
      · rename_i hs
        cases e
        obtain ⟨h1, h2⟩ := Bool.and_eq_true_iff.mp hs
        have h1 := of_decide_eq_true h1
        have h2 := of_decide_eq_true h2
        have hl : y.natAbs.log2 < 9000 := by
          by_cases h0 : y.natAbs = 0
          · rw [h0]; decide
          · exact Nat.lt_trans ((Nat.log2_lt h0).mpr (show y.natAbs < 2 ^ 100 by omega)) (by decide)
        refine PySem.AutoIntOps.ifloordiv_1 (by simp; omega) (by rw [PyProof.noPylong_of_log2 hl]; decide) ?_
        show Post G.C φ s Q (.int (x.fdiv y) s.toks) { s with toks := s.toks + 1 }
        refine post_now ok (v := .int (x / y)) ⟨s.toks, ?_⟩ q
        rw [Int.fdiv_eq_ediv_of_nonneg _ (by omega)]
      · cases e
  · cases e
end

end Mine
end

/-! M7 -/
noncomputable section
set_option maxHeartbeats 200000
open PyProof.Rows PySem PySem.Calls PySem.W
namespace Mine

section
variable {G : Glo} (hG : GloOk G) {A : Around} {s : Shared} {φ : List Addr} {σ σ' : AH} {v k u : V} {w wk wu : Value} {n : Nat}

/-- an object is made; all that was stays -/
theorem alloc_gen {C : Cx} {h h' : Heap} {a : Addr} {o : AObj} (ok : Ok C φ σ h) (hk : ∀ b ob, h.get? b = some ob → h'.get? b = some ob) (fr : h.get? a = none) (r : ObjRel C h' (φ ++ [a]) a o) :
    Ext [] φ h (φ ++ [a]) h' ∧ Ok C (φ ++ [a]) (σ ++ [o]) h' := by
  have t : TK h h' := fun b ws ⟨ob, e, c⟩ => ⟨ob, hk b ob e, c⟩
  have k' : Ok C φ σ h' := ok.ext (fun b x e => hk b x (ok.base b x e)) t fun b m => by
    obtain ⟨ob, e, _⟩ := ok.live m
    rw [e]; exact hk b ob e
  have nm : a ∉ φ := fun m => by
    obtain ⟨x, e, _⟩ := ok.live m
    rw [fr] at e; cases e
  refine ⟨⟨⟨[a], rfl, fun b m => by simp at m; subst m; exact fr⟩, fun b ob _ _ e => hk b ob e, fun b _ e => by
    obtain ⟨ob, q⟩ := Option.ne_none_iff_exists'.mp e
    rw [hk b ob q]; simp⟩, ?_⟩
  refine ⟨by simp [k'.len], by
      rw [List.nodup_append]
      exact ⟨k'.nd, by simp, fun x ha b hb => by simp at hb; subst hb; exact fun q => nm (q ▸ ha)⟩, fun i b hi m => ?_, (by obtain ⟨xs, z⟩ := k'.zero; exact ⟨xs, prefix_get' ⟨_, rfl⟩ z⟩), k'.base, fun i o' e => ?_⟩
  · rcases append_get m with m | m
    · exact k'.new i b hi m
    · subst m
      cases q : C.hB.get? b with
      | none => rfl
      | some x => have := ok.base _ _ q; rw [fr] at this; cases this
  · by_cases q : i < σ.length
    · rw [List.getElem?_append_left q] at e
      obtain ⟨b, eb, rb⟩ := k'.obj i o' e
      exact ⟨b, prefix_get ⟨_, rfl⟩ eb, rb.mono ⟨_, rfl⟩ (TK.refl _) rfl⟩
    · rw [List.getElem?_append_right (by omega)] at e
      have : i - σ.length = 0 := by
        have := (List.getElem?_eq_some_iff.mp e).1
        simp at this; omega
      rw [this] at e
      cases e
      refine ⟨a, ?_, r⟩
      have hi : i = φ.length := by rw [k'.len]; omega
      rw [List.getElem?_append_right (by omega), hi]; simp

theorem post_alloc {Q : V → AH → Prop} {h' : Heap} {a : Addr} {o : AObj} {tk : Nat} (ok : Ok G.C φ σ s.heap) (hk : ∀ b ob, s.heap.get? b = some ob → h'.get? b = some ob) (fr : s.heap.get? a = none) (r : ObjRel G.C h' (φ ++ [a]) a o) (q : Q (.obj σ.length) (σ ++ [o])) :
    Post G.C φ s Q (.ref a) { s with heap := h', toks := tk } := by
  obtain ⟨x, y⟩ := alloc_gen ok hk fr r
  exact ⟨φ ++ [a], σ ++ [o], .obj σ.length, x, y, ⟨a, by rw [← ok.len, List.getElem?_append_right (Nat.le_refl _)]; simp, rfl⟩, q, rfl, rfl⟩
theorem post_push {Q : V → AH → Prop} {ob : Obj} {o : AObj} {tk : Nat} (ok : Ok G.C φ σ s.heap) (hk : ObjRel G.C (s.heap.push ob) (φ ++ [s.heap.objs.size]) s.heap.objs.size o) (q : Q (.obj σ.length) (σ ++ [o])) :
    Post G.C φ s Q (.ref s.heap.objs.size) { s with heap := s.heap.push ob, toks := tk } :=
  post_alloc ok (fun b x e => Heap.get?_push_of_some ob e) (fresh_size _) hk q

theorem rel_keep {h h' : Heap} (hk : ∀ b ob, h.get? b = some ob → h'.get? b = some ob) {vs : List V} {ws : List Value} (r : RelL h φ vs ws) {a : Addr} : RelL h' (φ ++ [a]) vs ws :=
  r.mono ⟨_, rfl⟩ fun b ws ⟨ob, e, c⟩ => ⟨ob, hk b ob e, c⟩

theorem listAt_some {xs : List V} {h : Heap} (ok : Ok G.C φ σ h) (rv : Rel h φ v w) (e : listAt σ v = some xs) : ∃ o a ws m, v = .obj o ∧ σ[o]? = some (.list xs) ∧ w = .ref a ∧ φ[o]? = some a ∧ h.get? a = some (listOf ws m) ∧ RelL h φ xs ws.toList ∧ ws.size = xs.length := by
  cases v with
  | obj o =>
    simp only [listAt] at e
    split at e
    · rename_i ys e1
      cases e
      obtain ⟨a, rfl, ea, ws, m, hl, rl⟩ := rel_obj ok rv e1
      exact ⟨o, a, ws, m, rfl, e1, rfl, ea, hl, rl, by have := rl.length; simpa using this⟩
    · cases e
  | _ => cases e

theorem new_list {Q : V → AH → Prop} {vs : List V} {ws : List Value} (ok : Ok G.C φ σ s.heap) (r : RelL s.heap φ vs ws) (q : Q (.obj σ.length) (σ ++ [.list vs])) :
    Post G.C φ s Q (.ref s.heap.objs.size) { s with heap := s.heap.push { cls := .type "list", data := .seq ws.toArray } } :=
  post_push (o := .list vs) ok ⟨ws.toArray, 0, Heap.get?_push_size _ rfl, rel_keep (fun b x e => Heap.get?_push_of_some _ e) (by simpa using r)⟩ q

theorem new_tup {Q : V → AH → Prop} {vs : List V} {ws : List Value} (ok : Ok G.C φ σ s.heap) (r : RelL s.heap φ vs ws) (q : Q (.tup vs) σ) :
    Post G.C φ s Q (.ref s.heap.objs.size) { s with heap := s.heap.push { cls := .type "tuple", data := .seq ws.toArray } } := by
  refine ⟨φ, σ, .tup vs, Ext.push _, ok.push _, ⟨s.heap.objs.size, ws.toArray, rfl, ⟨_, Heap.get?_push_size _ rfl, rfl, _, rfl⟩, ?_⟩, q, rfl, rfl⟩
  have t : TK s.heap (s.heap.push { cls := .type "tuple", data := .seq ws.toArray }) := fun b ws' ⟨ob, e, c⟩ => ⟨ob, Heap.get?_push_of_some _ e, c⟩
  simpa using r.mono (List.prefix_refl _) t

theorem new_dict {Q : V → AH → Prop} {kd : Nat} (ok : Ok G.C φ σ s.heap) (q : Q (.obj σ.length) (σ ++ [match kd with | 0 => .dictI [] | 1 => .dictS [] | _ => .dictT []])) :
    Post G.C φ s Q (.ref s.heap.objs.size) { s with heap := s.heap.push { cls := .type "dict", data := .dict #[] } } := by
  refine post_push ok ?_ q
  have hg : (s.heap.push { cls := .type "dict", data := .dict #[] }).get? s.heap.objs.size = some { cls := .type "dict", data := .dict #[] } := Heap.get?_push_size _ rfl
  split
  · exact ⟨[], ⟨_, #[], 0, hg, ⟨rfl, rfl, rfl⟩, rfl, fun e m => by simp at m, .nil, List.nodup_nil⟩, rfl⟩
  · exact ⟨[], ⟨_, #[], 0, hg, ⟨rfl, rfl, rfl⟩, rfl, fun e m => by simp at m, .nil, List.nodup_nil⟩, rfl⟩
  · exact ⟨[], Heap.DictOfH.new _, rfl⟩

theorem keys_rel {prog : Program} {wd : World} {h h' : Heap} {φ' : List Addr} : ∀ {es : List (Int × V)} {kvs : List (Int × Value)} {acc : List Value}, RelKV h φ es kvs → acc.length = kvs.length →
    (∀ (j : Nat) (v : Value), acc[j]? = some v → ∃ k x, kvs[j]? = some (k, x) ∧ (intKind prog wd).is k v = true) → RelL h' φ' (es.map fun e => .int e.1) acc
  | [], _, [], rr, hl, hv => rfl
  | [], _, _ :: _, rr, hl, hv => by cases rr; simp at hl
  | (k, v) :: es, _, [], ⟨w, ys, e, _, _⟩, hl, hv => by subst e; simp at hl
  | (k, v) :: es, _, a :: acc, ⟨w, ys, e, _, r⟩, hl, hv => by
    subst e
    obtain ⟨k', x, e1, e2⟩ := hv 0 a rfl
    simp only [List.getElem?_cons_zero, Option.some.injEq, Prod.mk.injEq] at e1
    obtain ⟨rfl, rfl⟩ := e1
    obtain ⟨t, rfl⟩ := Value.isInt_shape e2
    exact ⟨_, acc, rfl, ⟨t, rfl⟩, keys_rel (prog := prog) (wd := wd) r (by simpa using hl) fun j v e => by simpa using hv (j + 1) v (by simpa using e)⟩
include hG in
theorem blt_op {b : Nat} {vs : List V} {ws : List Value} {f : Value} (hA : A.handled = none) (hf : f = bltVal b) (ok : Ok G.C φ σ s.heap) (r : RelL s.heap φ vs ws) {Q : V → AH → Prop} (e : bltV σ b vs = some (u, σ')) (q : Q u σ') :
    wpAny (MM G) A (call f ws) (Post G.C φ s Q) NR s := by
  unfold bltV at e
  split at e
  · rename_i v
    subst hf
    obtain ⟨w, ws', rfl, rv, rn⟩ := r
    cases rn
    split at e
    · rename_i xs e1
      split at e
      · rename_i hl
        cases e
        obtain ⟨o, a, wa, m, rfl, e2, rfl, ea, hg, rl, hs⟩ := listAt_some ok rv e1
        refine call_len_list (PySem.IsL.isList (n := m) hg) (by rw [hs]; omega) (post_now ok (v := .int xs.length) ⟨_, by rw [hs]⟩ q)
      · cases e
    · cases e
  · rename_i v
    subst hf
    obtain ⟨w, ws', rfl, rv, rn⟩ := r
    cases rn
    split at e
    · rename_i o
      split at e
      · rename_i xs e1
        split at e
        · rename_i hl
          cases e
          obtain ⟨a, rfl, ea, wa, m, hg, rl⟩ := rel_obj ok rv e1
          have hs : wa.size = xs.length := by have := rl.length; simpa using this
          refine call_list_seq a (T := "list") (.inl rfl) hg rfl rfl (fun h' c' hk hn => ?_) (by rw [hs, sizeLine_eq]; omega)
          exact post_alloc (o := .list xs) (tk := s.toks) ok hk (fresh_size _) ⟨wa, c', hn, rel_keep hk rl⟩ q
        · cases e
      · rename_i es e1
        split at e
        · rename_i hl
          cases e
          obtain ⟨a, rfl, ea, kvs, hd, rr⟩ := rel_obj ok rv e1
          obtain ⟨ep, hat⟩ := hd.dictAt
          have hs := rr.length
          refine kdl_call (kdl_dict (knd := intKind G.C.prog G.C.w) (kvs := kvs) (ep := ep) (not_sys hG ok (ok.nz e1 fun _ h => nomatch h) ea)) hA hat (by rw [hs, sizeLine_eq]; omega) fun h' tk acc c' hk hn hi => ?_
          refine post_alloc (o := .list (es.map fun e => .int e.1)) ok hk (fresh_size _) ⟨acc, c', hn, ?_⟩ q
          exact keys_rel rr (by rw [Array.length_toList]; exact hi.1) fun j v e => hi.2 j v (by rw [← Array.getElem?_toList]; exact e)
        · cases e
      · cases e
    · cases e
  · subst hf
    cases r
    cases e
    refine call_set_0 fun led => post_push (o := .set []) ok ⟨fun _ => false, ⟨_, #[], 0, _, Heap.get?_push_size _ rfl, ⟨rfl, rfl, rfl⟩, rfl, ?_, ?_, ?_, ?_, rfl⟩, ?_⟩ q
    · exact fun e m => by simp at m
    · simp
    · decide
    · cases led <;> rfl
    · simp
  · cases e

noncomputable def methBid : Nat → String
  | 0 => "list.append"
  | 1 => "list.pop"
  | 2 => "dict.get"
  | _ => "set.add"

theorem dict_noDict {C : Cx} {a : Addr} {d : AObj} {h : Heap} (z : ObjRel C h φ a d) (hd : (∃ es, d = .dictI es) ∨ (∃ es, d = .dictS es) ∨ ∃ es, d = .dictT es) : ∃ o, h.get? a = some o ∧ o.cls = .type "dict" ∧ o.dict = none := by
  rcases hd with ⟨es, rfl⟩ | ⟨es, rfl⟩ | ⟨es, rfl⟩
  · obtain ⟨kvs, ⟨o, _, _, e, x, _⟩, _⟩ := z; exact ⟨o, e, x.1, x.2.1⟩
  · obtain ⟨kvs, ⟨o, _, _, e, x, _⟩, _⟩ := z; exact ⟨o, e, x.1, x.2.1⟩
  · obtain ⟨kvs, ⟨o, _, _, e, x, _⟩, _⟩ := z; exact ⟨o, e, x.1, x.2.1⟩

theorem getm_op {k : Nat} {x : PySem.Str} {pl : Sem Bool} {Q : Value × List Value → Shared → Prop} {E : Value → Shared → Prop} (ok : Ok G.C φ σ s.heap) (rv : Rel s.heap φ v w) (e : methOk σ k v = true) (hx : (methId k).map PySem.Str.ofString = some x) (q : Q (.builtin (methBid k), [w]) s) :
    wpAny (MM G) A (getMethod w x pl) Q E s := by
  cases v with
  | obj o =>
    have dk : ∀ d, k = 2 → σ[o]? = some d → ((∃ es, d = .dictI es) ∨ (∃ es, d = .dictS es) ∨ ∃ es, d = .dictT es) → wpAny (MM G) A (getMethod w x pl) Q E s := by
      intro d hk e1 hd
      subst hk
      cases hx
      obtain ⟨a, rfl, ea, z⟩ := rel_obj ok rv e1
      obtain ⟨ob, h1, h2, h3⟩ := dict_noDict z hd
      exact getMethod_builtin ⟨_, h1, h2⟩ PySem.F.plainAttrs_dict PySem.F.slot_dict_get PySem.F.type_dict_get (fun b e => by cases e; exact ⟨_, h1, h3⟩) q
    have e : (match σ[o]? with | some d => okObj k d | none => false) = true := e
    cases e1 : σ[o]? with
    | none => rw [e1] at e; cases e
    | some d =>
      rw [e1] at e
      have e : okObj k d = true := e
      cases d with
      | list xs =>
        rcases (Bool.or_eq_true_iff.mp (show (k == 0 || k == 1) = true from e)) with h | h
        · obtain rfl := beq_iff_eq.mp h
          cases hx
          obtain ⟨a, rfl, ea, ws, m, hg, rl⟩ := rel_obj ok rv e1
          exact getMethod_builtin ⟨_, hg, rfl⟩ PySem.F.plainAttrs_list PySem.F.slot_list_append PySem.F.type_list_append (fun b e => by cases e; exact ⟨_, hg, rfl⟩) q
        · obtain rfl := beq_iff_eq.mp h
          cases hx
          obtain ⟨a, rfl, ea, ws, m, hg, rl⟩ := rel_obj ok rv e1
          exact getMethod_builtin ⟨_, hg, rfl⟩ PySem.F.plainAttrs_list PySem.F.slot_list_pop PySem.F.type_list_pop (fun b e => by cases e; exact ⟨_, hg, rfl⟩) q
      | dictI es => exact dk _ (beq_iff_eq.mp (show (k == 2) = true from e)) e1 (.inl ⟨_, rfl⟩)
      | dictS es => exact dk _ (beq_iff_eq.mp (show (k == 2) = true from e)) e1 (.inr (.inl ⟨_, rfl⟩))
      | dictT es => exact dk _ (beq_iff_eq.mp (show (k == 2) = true from e)) e1 (.inr (.inr ⟨_, rfl⟩))
      | set xs =>
        obtain rfl := beq_iff_eq.mp (show (k == 3) = true from e)
        cases hx
        obtain ⟨a, rfl, ea, S, hS, he⟩ := rel_obj ok rv e1
        exact getMethod_builtin hS.typeIs PySem.F.plainAttrs_set PySem.F.slot_set_add PySem.F.type_set_add hS.noDict q
      | inst c d => cases e
      | ns fs => cases e
  | _ => cases e

theorem dropLast_toList {ws : Array Value} : (ws.eraseIdxIfInBounds (ws.size - 1)).toList = ws.toList.dropLast := by
  rw [Array.toList_eraseIdxIfInBounds, List.dropLast_eq_take, List.eraseIdx_eq_take_drop_succ, Array.length_toList]
  by_cases h : ws.size = 0
  · have : ws.toList = [] := List.eq_nil_of_length_eq_zero (by rw [Array.length_toList]; exact h)
    rw [this]; simp
  · rw [List.drop_eq_nil_of_le (by rw [Array.length_toList]; omega), List.append_nil]
theorem RelL.dropLast {h : Heap} : ∀ {vs : List V} {ws : List Value}, RelL h φ vs ws → RelL h φ vs.dropLast ws.dropLast
  | [], _, e => by cases e; rfl
  | [_], _, ⟨_, _, e, _, r⟩ => by subst e; cases r; rfl
  | _ :: b :: vs, _, ⟨_, _, e, a, w, ws, e', c, r⟩ => by
    subst e; subst e'
    exact ⟨_, _, rfl, a, RelL.dropLast (vs := b :: vs) ⟨w, ws, rfl, c, r⟩⟩

include hG in
theorem meth_op {k : Nat} {vs : List V} {ws : List Value} {n : Nat} (hA : AOk A n) (ok : Ok G.C φ σ s.heap) (rv : Rel s.heap φ v w) (r : RelL s.heap φ vs ws) {Q : V → AH → Prop} (e : methV σ k v vs = some (u, σ')) (q : Q u σ') :
    wpAny (MM G) A (call (.builtin (methBid k)) (w :: ws)) (Post G.C φ s Q) NR s := by
  have hu : A.units + 200 < cLine := by have := hA.units; omega
  cases v with
  | obj o =>
    have e : (match σ[o]? with | some d => mObj σ o k vs d | none => none) = some (u, σ') := e
    have getc : ∀ d, σ[o]? = some d → (∀ xs, d ≠ .list xs) → mDict σ k vs d = some (u, σ') → wpAny (MM G) A (call (.builtin (methBid k)) (w :: ws)) (Post G.C φ s Q) NR s := by
      intro d e1 hnl e
      rcases k with _ | _ | _ | k
      · cases e
      · cases e
      · rcases vs with _ | ⟨key, _ | ⟨dflt, _ | ⟨_, _⟩⟩⟩
        · cases e
        · cases e
        · have e : (dictAt d key).map (fun r => (r.getD dflt, σ)) = some (u, σ') := e
          obtain ⟨wk, _, rfl, rk, wd, _, rfl, rd, rn⟩ := r
          cases rn
          obtain ⟨res, e2, e3⟩ := Option.map_eq_some_iff.mp e
          cases e3
          obtain ⟨a, rfl, ea, z⟩ := rel_obj ok rv e1
          have hd := dict_has z rk e2
          have hy := not_sys hG ok (ok.nz e1 hnl) ea
          have hT := dict_type hd
          cases hd with
          | @pl K _ knd x kvs _ hk hd e =>
            refine call_meetsIn PySem.F.slot_dict_get hT PySem.F.entry_dict_get (PySem.F.args_dict_get_3 _ _ _) (meets_dict_get_default knd a hk hy wd) ⟨_, hd.mapOf, ?_⟩
            refine post_now ok (v := res.getD dflt) ?_ q
            cases res with
            | none => rw [e]; exact rd
            | some v => obtain ⟨u, e, ru⟩ := e; rw [e]; exact ru
          | @tp x b xs _ e5 hk hd e =>
            subst e5
            refine call_meetsIn PySem.F.slot_dict_get hT PySem.F.entry_dict_get (PySem.F.args_dict_get_3 _ _ _) (meetsH_dict_get_default (tupleKind (intKind G.C.prog G.C.w)) a b hy wd) ⟨tupleKind_room_in1 (by omega), x, xs, hk, hd, ?_⟩
            refine post_now ok (v := res.getD dflt) ?_ q
            cases res with
            | none => rw [e]; exact rd
            | some v => obtain ⟨u, e, ru⟩ := e; rw [e]; exact ru
        · cases e
      · cases e
    cases e1 : σ[o]? with
    | none => rw [e1] at e; cases e
    | some d =>
      rw [e1] at e
      cases d with
      | list xs =>
        have e : mList σ o k vs xs = some (u, σ') := e
        rcases k with _ | _ | k
        · rcases vs with _ | ⟨u, _ | ⟨_, _⟩⟩
          · cases e
          · have e : (if o ≠ 0 ∧ xs.length < 1000000 then some (V.none, σ.set o (.list (xs ++ [u]))) else none) = some _ := e
            split at e
            · rename_i hl
              cases e
              obtain ⟨wu, _, rfl, ru, rn⟩ := r
              cases rn
              obtain ⟨a, rfl, ea, wa, m, hg, rl⟩ := rel_obj ok rv e1
              have hs : wa.size = xs.length := by have := rl.length; simpa using this
              refine wpAny_list_append_plain ⟨m, hg⟩ (fun h' ⟨m', hl'⟩ hs' => ?_) (by rw [hs, sizeLine_eq]; omega)
              refine PostU.post (u := .none) (turn (tk := s.toks) (o' := .list (xs ++ [u])) ok hl.1 ea hs' fun t => ⟨_, m', hl', ?_⟩) (fun _ => rfl) q
              rw [Array.toList_push]
              exact (rl.append (RelL.cons ru RelL.nil)).mono (List.prefix_refl _) t
            · cases e
          · cases e
        · rcases vs with _ | ⟨_, _⟩
          · have e : (match xs.getLast? with | some u => if o ≠ 0 ∧ xs.length < 1000000 then some (u, σ.set o (.list xs.dropLast)) else none | none => none) = some (u, σ') := e
            cases r
            split at e
            · rename_i y hy
              split at e
              · rename_i hl
                cases e
                obtain ⟨a, rfl, ea, wa, m, hg, rl⟩ := rel_obj ok rv e1
                have hs : wa.size = xs.length := by have := rl.length; simpa using this
                rw [List.getLast?_eq_getElem?] at hy
                obtain ⟨wy, e2, ry⟩ := rl.get' hy
                rw [← hs] at e2
                refine call_meets PySem.F.slot_list_pop ⟨_, hg, rfl⟩ PySem.F.entry_list_pop (PySem.F.args_list_pop_1 _) (PySem.MeetsSeq.list_pop_last a _ m wy e2 (by rw [hs, sizeLine_eq]; omega)) ⟨hg, ?_⟩
                refine PostU.post' ok (turn_list (tk := s.toks) ok hl.1 ea hg _ ?_) ry q
                rw [dropLast_toList]
                exact rl.dropLast
              · cases e
            · cases e
          · cases e
        · cases e
      | set xs =>
        have e : mSet σ o k vs xs = some (u, σ') := e
        rcases k with _ | _ | _ | _ | k
        · cases e
        · cases e
        · cases e
        · rcases vs with _ | ⟨v, _ | ⟨_, _⟩⟩
          · cases e
          · cases v with
            | int i =>
              have e : (if xs.length < 4000 then some (V.none, σ.set o (.set (if i ∈ xs then xs else xs ++ [i]))) else none) = some (u, σ') := e
              split at e
              · rename_i hl
                cases e
                obtain ⟨wu, _, rfl, ⟨t, rfl⟩, rn⟩ := r
                cases rn
                obtain ⟨a, rfl, ea, S, hS, he⟩ := rel_obj ok rv e1
                refine call_set_add (knd := intKind G.C.prog G.C.w) (k := i) (by simp [intKind, Value.isInt]) rfl hS (by show _ < 4096; omega) fun h' hs' hS' => ?_
                have hb : S i = true ↔ i ∈ xs := he i
                refine PostU.post (u := .none) (turn (o' := .set (if i ∈ xs then xs else xs ++ [i])) ok (ok.nz e1 fun _ h => nomatch h) ea hs' fun t => ⟨fun k' => S k' || decide (k' = i), ?_, ?_⟩) (fun _ => rfl) q
                · by_cases m : i ∈ xs
                  · rw [if_pos m]; rw [if_pos (hb.mpr m)] at hS'; exact hS'
                  · rw [if_neg m]; rw [if_neg (fun z => m (hb.mp z))] at hS'; rw [List.length_append]; exact hS'
                · intro j
                  rw [Bool.or_eq_true, he j, decide_eq_true_iff]
                  by_cases m : i ∈ xs
                  · rw [if_pos m]
                    exact ⟨fun z => z.elim id fun z => z ▸ m, .inl⟩
                  · rw [if_neg m]; simp
              · cases e
            | _ => cases e
          · cases e
        · cases e
      | dictI es => exact getc _ e1 (fun _ h => nomatch h) e
      | dictS es => exact getc _ e1 (fun _ h => nomatch h) e
      | dictT es => exact getc _ e1 (fun _ h => nomatch h) e
      | inst c d => exact getc _ e1 (fun _ h => nomatch h) e
      | ns fs => exact getc _ e1 (fun _ h => nomatch h) e
  | _ => cases e
end

end Mine
end

/-! M8 -/
noncomputable section
set_option maxHeartbeats 200000
open PyProof.Rows PySem PySem.Calls PySem.W
namespace Mine

theorem tc_weight (C : Addr) (vals : List Value) (kw : List (PySem.Str × Value)) : (Code.builtin "type.__call__" ⟨.ref C :: vals, kw⟩).weight = 1 := by first | rfl | kernel_rfl
theorem tc_units (C : Addr) (vals : List Value) (kw : List (PySem.Str × Value)) : (Code.builtin "type.__call__" ⟨.ref C :: vals, kw⟩).cUnits = 1 := by first | rfl | kernel_rfl
theorem AOk.under {A : Around} {n : Nat} (x : AOk A (n + 1)) (C : Addr) (vals : List Value) (kw : List (PySem.Str × Value)) : AOk (A.under (.builtin "type.__call__" ⟨.ref C :: vals, kw⟩)) n := by
  refine ⟨x.handled, ?_, ?_⟩
  · have := x.depth
    show A.depth + (Code.builtin "type.__call__" ⟨.ref C :: vals, kw⟩).weight + 3 * n + 10 < _
    rw [tc_weight]; omega
  · have := x.units
    show A.units + (Code.builtin "type.__call__" ⟨.ref C :: vals, kw⟩).cUnits + 20 * n + 200 < _
    rw [tc_units]; omega
theorem AOk.less {A : Around} {n : Nat} (x : AOk A (n + 1)) : AOk A n := ⟨x.handled, by have := x.depth; omega, by have := x.units; omega⟩
theorem AOk.deeper {A : Around} {n : Nat} (x : AOk A (n + 1)) (env : Env) : AOk (A.deeper env) n :=
  ⟨x.handled, by have := x.depth; show A.depth + 1 + _ + _ < _; omega, by have := x.units; show A.units + 3 + _ + _ < _; omega⟩

/-! shells -/
section
variable {prog : Program} {w : World} {A : Around} {E : Value → Shared → Prop} {s : Shared} {env : Env}

theorem attrBase {o : PySem.Expr} (h : notCall o = true) (n : PySem.Str) (whole : Sem Value) : attributeBase o n env whole = whole := by
  cases o <;> first | rfl | cases h

theorem Call_at {o : PySem.Expr} {name : PySem.Str} {apos pos : Pos} {args : List PySem.Expr} {Q : Value → Shared → Prop} (hb : notCall o = true)
    (hf : (backTo pos (starEach args env)).all (fun x => !x.1) = true) (hl : args.length ≤ 20) (hline : (apos.endLine == pos.line) = true)
    (h : wpAny (model prog w) A (eval o env) (fun ov s₁ => ∀ pl, wpAny (model prog w) A (getMethod ov name pl) (fun fm s₂ => wpAny (model prog w) A (callWith pos fm.1 fm.2 (backTo pos (starEach args env)) []) Q E s₂) E s₁) E s) :
    wpAny (model prog w) A (eval (.Call (.Attribute o name apos) args [] pos) env) Q E s := by
  have hfew : ((backTo pos (starEach args env)).all (fun x => !x.1) && (backToKw pos (keywordEach [] env)).all (fun x => x.1.isSome)
      && decide (args.length + ([] : List Keyword).length + (if ([] : List Keyword).isEmpty then 0 else 1) < 30)) = true := by
    rw [hf]
    show (true && true && decide (args.length + 0 + 0 < 30)) = true
    rw [decide_eq_true (by omega)]; rfl
  rw [arm_eval_Call, attrBase hb]
  refine wpAny_bind (wpAny_mono h (fun ov s₁ h₁ => ?_) fun _ _ e => e)
  refine wpAny_bind (wpAny_standAt ?_)
  have hform : methodCallForm (args.length + ([] : List Keyword).length) (backTo pos (starEach args env)) (backToKw pos (keywordEach [] env)) = true := hfew
  have hpos : methodCallPos true o env apos pos = pure pos := by unfold methodCallPos; simp [hline]
  unfold methodCall
  rw [hform]
  refine wpAny_bind (wpAny_holding (wpAny_mono (h₁ _) (fun fm s₂ h₂ => ?_) fun _ _ x => x))
  exact wpAny_bind (wpAny_of_eq hpos h₂)

theorem evalArgs_sp {f : Value} {args : List (Bool × Sem Value)} {Q : Args → Shared → Prop} (hf : args.all (fun x => !x.1) = true) (h : wpAny (model prog w) A (spliced args) (fun vs s' => Q ⟨vs, []⟩ s') E s) :
    wpAny (model prog w) A (evalArgs f true args []) Q E s := by
  cases args with
  | nil =>
    unfold evalArgs
    show wpAny _ A (spliced [] >>= _) Q E s
    refine wpAny_bind (wpAny_mono h (fun vs s' q => ?_) fun _ _ x => x)
    refine wpAny_bind (wpAny_pure ?_)
    refine wpAny_holding ?_
    exact wpAny_bind (wpAny_pure (wpAny_bind (wpAny_pure (wpAny_pure q))))
  | cons x rest =>
    obtain ⟨b, t⟩ := x
    cases b with
    | false => exact evalArgs_plain h
    | true => simp at hf

theorem callW {pos : Pos} {f : Value} {first : List Value} {args : List (Bool × Sem Value)} {Q : Value → Shared → Prop} {P : Heap → Prop} (hf : args.all (fun x => !x.1) = true)
    (hk : ∀ h, P h → ∃ k, (k = Keeper.frame ∨ k = Keeper.machine ∨ k = Keeper.boundFrame) ∧ Looks (model prog w) h (keeperOf f) k)
    (h : wpAny (model prog w) A (spliced args) (fun vs s₁ => P s₁.heap ∧ wpAny (model prog w) A (call f (first ++ vs)) Q E s₁) E s) :
    wpAny (model prog w) A (callWith pos f first args []) Q E s := by
  refine callWith_of ?_ hk (evalArgs_sp hf h)
  rw [List.any_nil, Bool.or_false, ← Bool.not_eq_true, List.any_eq_true]
  rintro ⟨x, m, q⟩
  have := List.all_eq_true.mp hf x m
  rw [q] at this; cases this
theorem machine_keeps {f : Value} (hf : ∀ a, f ≠ .ref a) (h : Heap) (_ : True) : ∃ k, (k = Keeper.frame ∨ k = Keeper.machine ∨ k = Keeper.boundFrame) ∧ Looks (model prog w) h (keeperOf f) k :=
  ⟨.machine, .inr (.inl rfl), Looks.of_pure (by cases f <;> first | rfl | exact absurd rfl (hf _))⟩
end

noncomputable def okIx (k : Nat) : Bool := (k != 22) && (k < 7 || 14 < k)
theorem ckE_ix {G : Nm} {X : Ck} {e : E} {x : PySem.Expr} (c : ckE G X e x = true) : okIx x.ctorIdx = true := by
  have go : ∀ {k : Nat}, x.ctorIdx = k → okIx k = true → okIx x.ctorIdx = true := fun a b => a ▸ b
  cases e with
  | loc | glob => exact go (onName_tag c) rfl
  | kint | kstr | kbool | knone => exact go (onConstant_tag c) rfl
  | tup => exact go (onTuple_tag c) rfl
  | list => exact go (onList_tag c) rfl
  | dict0 => exact go (onDict_tag c) rfl
  | attr => exact go (onAttribute_tag c) rfl
  | sub | slTo => exact go (onSubscript_tag c) rfl
  | cmp => exact go (onCompare_tag c) rfl
  | boolop => exact go (onBoolOp_tag c) rfl
  | not | neg => exact go (onUnaryOp_tag c) rfl
  | bin => exact go (onBinOp_tag c) rfl
  | ife => exact go (onIfExp_tag c) rfl
  | callF | callM | new | blt | meth => exact go (onCall_tag c) rfl
theorem star_one {x : PySem.Expr} (h : okIx x.ctorIdx = true) (xs : List PySem.Expr) (env : Env) : starEach (x :: xs) env = (false, eval x env) :: starEach xs env := by
  cases x <;> first | rfl | cases h
theorem starEach_of {G : Glo} {X : Ck} (env : Env) : ∀ {es : EL} {xs : List PySem.Expr}, ckL G X es xs = true → starEach xs env = xs.map fun e => (false, eval e env)
  | .nil, [], _ => rfl
  | .cons e es, x :: xs, c => by
    have c : (ckE G X e x && ckL G X es xs) = true := c
    rw [star_one (ckE_ix (Bool.and_eq_true_iff.mp c).1), starEach_of env (Bool.and_eq_true_iff.mp c).2]; rfl
  | .nil, _ :: _, c => Bool.noConfusion (show false = true from c)
  | .cons _ _, [], c => Bool.noConfusion (show false = true from c)
theorem back_of {G : Glo} {X : Ck} (env : Env) (pos : Pos) {es : EL} {xs : List PySem.Expr} (c : ckL G X es xs = true) : backTo pos (starEach xs env) = xs.map fun e => (false, eval e env) := by
  rw [starEach_of env c]
  unfold backTo
  rw [List.map_map]
  rfl
theorem back_all {G : Glo} {X : Ck} (env : Env) (pos : Pos) {es : EL} {xs : List PySem.Expr} (c : ckL G X es xs = true) : (backTo pos (starEach xs env)).all (fun x => !x.1) = true := by
  rw [back_of env pos c]
  simp

noncomputable def plainT : PySem.Expr → Bool
  | .UnaryOp .Not _ _ => false
  | .BoolOp .. => false
  | .IfExp .. => false
  | .Compare .. => false
  | _ => true
theorem plainT_eq {x : PySem.Expr} {env : Env} (h : plainT x = true) : isTrue x env (eval x env) = (do let v ← eval x env; standAt x.pos; holding [v] (truthy v)) := by
  cases x with
  | UnaryOp o _ _ => cases o <;> first | rfl | cases h
  | BoolOp => cases h
  | IfExp => cases h
  | Compare => cases h
  | _ => rfl

noncomputable def plainIx (k : Nat) : Bool := !(k == 0 || k == 3 || k == 5 || k == 15)
theorem plain_tag {x : PySem.Expr} {k : Nat} (e : x.ctorIdx = k) (h : plainIx k = true) : plainT x = true := by
  subst e
  cases x <;> first | rfl | exact Bool.noConfusion (show false = true from h)
noncomputable def SimV (G : Glo) (cf : Cf) (n : Nat) (e : E) : Prop := ∀ (X : Ck) (x : PySem.Expr), ckE G X e x = true → ∀ (L : Addr) (env : Env), EnvOk X L env → ∀ (A : Around), AOk A (n + 1) → ∀ (s : Shared) (φ : List Addr) (σ : AH) (ρ : En), Ok G.C φ σ s.heap → Loc X ρ φ s.heap L →
  ∀ Q, wE G.P cf e ρ σ Q → wpAny (MM G) A (eval x env) (Post G.C φ s Q) NR s
theorem sim_of {G : Glo} {cf : Cf} {n : Nat} {e : E} (p : ∀ X x, ckE G X e x = true → plainT x = true) (h : SimV G cf n e) : SimE G cf n e :=
  fun X x c L env he A hA s φ σ ρ ok lo => ⟨fun Q q => h X x c L env he A hA s φ σ ρ ok lo Q q, fun R q => truth_of (e := x) (plainT_eq (p X x c)) (h X x c L env he A hA s φ σ ρ ok lo _ q)⟩

theorem Post.back {G : Glo} {A : Around} {φ φ₁ : List Addr} {s s₁ : Shared} {Q : V → AH → Prop} {m : Sem Value} (x : Ext [] φ s.heap φ₁ s₁.heap) (g : s₁.gens = s.gens) (o : s₁.os = s.os) (h : wpAny (MM G) A m (Post G.C φ₁ s₁ Q) NR s₁) : wpAny (MM G) A m (Post G.C φ s Q) NR s₁ :=
  wpAny_mono h (fun _ _ p => p.trans x g o) fun _ _ z => z

end Mine
end

/-! M9 -/
noncomputable section
set_option maxHeartbeats 200000
open PyProof.Rows PySem PySem.Calls PySem.W
namespace Mine


theorem PostL.toPost {C : Cx} {φ φ₁ : List Addr} {s s₁ : Shared} {Q : V → AH → Prop} (x : Ext [] φ s.heap φ₁ s₁.heap) (g : s₁.gens = s.gens) (o : s₁.os = s.os) {w : Value} {s' : Shared} (p : Post C φ₁ s₁ Q w s') : Post C φ s Q w s' := p.trans x g o

section
variable {G : Glo} (hG : GloOk G) {cf : Cf} {n : Nat}

theorem sim_loc (i : Nat) : SimE G cf n (.loc i) := by
  refine sim_of (fun X x c => plain_tag (onName_tag c) rfl) fun X x c L env he A hA s φ σ ρ ok lo Q q => ?_
  refine onName_elim c fun y pos c => ?_
  simp only [qe_loc] at q
  split at q
  · rename_i v e
    exact name_loc he lo ok (show ckE G.toNm X (.loc i) (.Name y pos) = true from c) e q
  · exact q.elim
theorem sim_kint (i : Int) : SimE G cf n (.kint i) := by
  refine sim_of (fun X x c => plain_tag (onConstant_tag c) rfl) fun X x c L env he A hA s φ σ ρ ok lo Q q => ?_
  refine onConstant_elim c fun k kd pos c => ?_
  cases k with
  | int j =>
    have : i = j := of_decide_eq_true c
    subst this
    exact wpAny_Constant_int (post_now ok (v := .int i) ⟨_, rfl⟩ q)
  | _ => exact Bool.noConfusion (show false = true from c)
theorem sim_kstr (i : PySem.Str) : SimE G cf n (.kstr i) := by
  refine sim_of (fun X x c => plain_tag (onConstant_tag c) rfl) fun X x c L env he A hA s φ σ ρ ok lo Q q => ?_
  refine onConstant_elim c fun k kd pos c => ?_
  cases k with
  | str j =>
    have : i = j := of_decide_eq_true c
    subst this
    exact wpAny_Constant_str (post_now ok (v := .str i) ⟨_, rfl⟩ q)
  | _ => exact Bool.noConfusion (show false = true from c)
theorem sim_kbool (i : Bool) : SimE G cf n (.kbool i) := by
  refine sim_of (fun X x c => plain_tag (onConstant_tag c) rfl) fun X x c L env he A hA s φ σ ρ ok lo Q q => ?_
  refine onConstant_elim c fun k kd pos c => ?_
  cases k with
  | bool j =>
    have : i = j := beq_iff_eq.mp c
    subst this
    exact wpAny_Constant_bool (post_now' ok (v := .bool i) rfl q)
  | _ => exact Bool.noConfusion (show false = true from c)
theorem sim_knone : SimE G cf n .knone := by
  refine sim_of (fun X x c => plain_tag (onConstant_tag c) rfl) fun X x c L env he A hA s φ σ ρ ok lo Q q => ?_
  refine onConstant_elim c fun k kd pos c => ?_
  cases k with
  | none => exact wpAny_Constant_none (post_now' ok (v := .none) rfl q)
  | _ => exact Bool.noConfusion (show false = true from c)
include hG in
theorem sim_glob (g : Nat) : SimE G cf n (.glob g) := by
  refine sim_of (fun X x c => plain_tag (onName_tag c) rfl) fun X x c L env he A hA s φ σ ρ ok lo Q q => ?_
  refine onName_elim c fun y pos c => ?_
  simp only [qe_glob] at q
  split at q
  · rename_i v e
    have c : (G.gname g == some y && ckName X .globalImplicit y) = true := c
    obtain ⟨c1, c2⟩ := Bool.and_eq_true_iff.mp c
    obtain ⟨w, e1, r⟩ := hG.glob g y v (beq_iff_eq.mp c1) e
    exact name_glob hG ok.base he c2 e1 (post_now' ok (r.mono ⟨φ, rfl⟩ fun a ws ⟨o, h, z⟩ => ⟨o, ok.base a o h, z⟩) q)
  · exact q.elim

theorem sim_tup {es : EL} (ih : SimL G cf n es) : SimE G cf n (.tup es) := by
  refine sim_of (fun X x c => plain_tag (onTuple_tag c) rfl) fun X x c L env he A hA s φ σ ρ ok lo Q q => ?_
  refine onTuple_elim c fun xs k pos c => ?_
  have c : (ckL G X es xs && decide (xs.length ≤ 100)) = true := c
  obtain ⟨c1, c2⟩ := Bool.and_eq_true_iff.mp c
  have c2 := of_decide_eq_true c2
  have q : wL G.P cf es ρ σ fun vs σ' => Q (.tup vs) σ' := q
  refine Tuple_ (wpAny_mono ((ih X xs c1 L env he A hA s φ σ ρ ok lo).1 pos _ q) (fun ws s' p => ?_) fun _ _ z => z)
  refine p.elim fun φ' σ' vs x1 x2 x3 xq x5 x6 => ?_
  obtain ⟨x7, x4⟩ := xq
  exact wpAny_newTuple ((new_tup x2 x3 x4).trans x1 x5 x6) (by rw [x3.length, x7, sizeLine_eq]; omega)
theorem sim_list {es : EL} (ih : SimL G cf n es) : SimE G cf n (.list es) := by
  refine sim_of (fun X x c => plain_tag (onList_tag c) rfl) fun X x c L env he A hA s φ σ ρ ok lo Q q => ?_
  refine onList_elim c fun xs pos c => ?_
  have c : (ckL G X es xs && decide (xs.length ≤ 100)) = true := c
  obtain ⟨c1, c2⟩ := Bool.and_eq_true_iff.mp c
  have c2 := of_decide_eq_true c2
  have q : wL G.P cf es ρ σ fun vs σ' => Q (.obj σ'.length) (σ' ++ [.list vs]) := q
  refine List_ (wpAny_mono ((ih X xs c1 L env he A hA s φ σ ρ ok lo).1 pos _ q) (fun ws s' p => ?_) fun _ _ z => z)
  refine p.elim fun φ' σ' vs x1 x2 x3 xq x5 x6 => ?_
  obtain ⟨x7, x4⟩ := xq
  exact wpAny_newList ((new_list x2 x3 x4).trans x1 x5 x6) (by rw [x3.length, x7, sizeLine_eq]; omega)
theorem sim_dict0 (k : Nat) : SimE G cf n (.dict0 k) := by
  refine sim_of (fun X x c => plain_tag (onDict_tag c) rfl) fun X x c L env he A hA s φ σ ρ ok lo Q q => ?_
  refine onDict_elim c fun ks vs pos c => ?_
  cases ks with
  | cons => exact Bool.noConfusion (show false = true from c)
  | nil =>
    cases vs with
    | cons => exact Bool.noConfusion (show false = true from c)
    | nil => exact wpAny_Dict_empty (new_dict (kd := k) ok q)

include hG in
theorem sim_attr {e : E} {a : Nat} (ih : SimE G cf n e) : SimE G cf n (.attr e a) := by
  refine sim_of (fun X x c => plain_tag (onAttribute_tag c) rfl) fun X x c L env he A hA s φ σ ρ ok lo Q q => ?_
  refine onAttribute_elim c fun x y pos c => ?_
  have c : (ckE G X e x && attrNames[a]? == some y && notCall x) = true := c
  obtain ⟨c, c3⟩ := Bool.and_eq_true_iff.mp c
  obtain ⟨c1, c2⟩ := Bool.and_eq_true_iff.mp c
  have c2 : y = attrName a := by
    have := beq_iff_eq.mp c2
    unfold attrName
    rw [List.getD_eq_getElem?_getD, this]; rfl
  subst c2
  have q : wE G.P cf e ρ σ fun v σ' => match attrAt σ' v a with | some u => Q u σ' | none => False := q
  refine Attribute_any_ (wpAny_mono ((ih X x c1 L env he A hA s φ σ ρ ok lo).1 _ q) (fun w s' p => ?_) fun _ _ z => z) (by rw [arm_eval_Attribute, attrBase c3])
  refine p.elim fun φ' σ' v x1 x2 x3 x4 x5 x6 => ?_
  split at x4
  · rename_i u e1
    exact Post.back x1 x5 x6 (op_attr hG x2 x3 e1 x4)
  · exact x4.elim

theorem item_type {s : Shared} {φ : List Addr} {σ : AH} {v k u : V} {w : Value} (ok : Ok G.C φ σ s.heap) (rv : Rel s.heap φ v w) {wk : Value} (rk : Rel s.heap φ k wk) (e : itemAt σ v k = some u) : ∃ T id, s.TypeIs w T ∧ typeLookup (.type T) "__getitem__" = pure (some (.builtin id)) := by
  cases v with
  | tup vs =>
    obtain ⟨a, ws, rfl, ht, _⟩ := rv
    exact ⟨_, _, ht.typeIs, PySem.F.slot_tuple_getitem.lookup⟩
  | obj o =>
    simp only [itemAt] at e
    split at e
    · rename_i xs i e1
      obtain ⟨a, rfl, ea, ws, m, hl, rl⟩ := rel_obj ok rv e1
      exact ⟨"list", _, ⟨_, hl, rfl⟩, PySem.F.slot_list_getitem.lookup⟩
    · rename_i _ d e1 hneg
      obtain ⟨a, rfl, ea, z⟩ := rel_obj ok rv e1
      obtain ⟨r, e2, e3⟩ := Option.bind_eq_some_iff.mp e
      exact ⟨"dict", _, dict_type (dict_has z rk e2), PySem.F.slot_dict_getitem.lookup⟩
    · cases e
  | _ => cases k <;> cases e

theorem sub_eq {y : PySem.Expr} {o i : Value} (h : notSlice y = true) : subscripted y false o i = operate [o, i] (getItem o i) := by
  cases y <;> first | rfl | cases h

theorem sim_sub {e i : E} (ih : SimE G cf n e) (ih2 : SimE G cf n i) : SimE G cf n (.sub e i) := by
  refine sim_of (fun X x c => plain_tag (onSubscript_tag c) rfl) fun X x c L env he A hA s φ σ ρ ok lo Q q => ?_
  refine onSubscript_elim c fun x y pos c => ?_
  have c : (ckE G X e x && ckE G X i y && notSlice y) = true := c
  obtain ⟨c, c3⟩ := Bool.and_eq_true_iff.mp c
  obtain ⟨c1, c2⟩ := Bool.and_eq_true_iff.mp c
  have q : wE G.P cf e ρ σ fun v σ₁ => wE G.P cf i ρ σ₁ fun k σ₂ => match itemAt σ₂ v k with | some u => Q u σ₂ | none => False := q
  refine Subscript_ (wpAny_mono ((ih X x c1 L env he A hA s φ σ ρ ok lo).1 _ q) (fun w s' p => ?_) fun _ _ z => z)
  refine p.elim fun φ' σ' v x1 x2 x3 x4 x5 x6 => ?_
  refine wpAny_mono ((ih2 X y c2 L env he A hA s' φ' σ' ρ x2 (lo.ext ok x1)).1 _ x4) (fun w2 s'' p => ?_) fun _ _ z => z
  refine p.elim fun φ'' σ'' k y1 y2 y3 y4 y5 y6 => ?_
  split at y4
  · rename_i u e1
    have x3' := x3.mono y1.pref (y1.tk x2 fun _ m => nomatch m)
    obtain ⟨T, id, hT, hl⟩ := item_type y2 x3' y3 e1
    exact tail_any hT hl (Post.back (x1.trans y1) (y5.trans x5) (y6.trans x6) (item_get hA y2 x3' y3 e1 y4)) (sub_eq c3)
  · exact y4.elim

theorem sim_slTo {e : E} {k : Nat} (ih : SimE G cf n e) : SimE G cf n (.slTo e k) := by
  refine sim_of (fun X x c => plain_tag (onSubscript_tag c) rfl) fun X x c L env he A hA s φ σ ρ ok lo Q q => ?_
  refine onSubscript_elim c fun x y pos c => ?_
  obtain ⟨d1, d2⟩ := Bool.and_eq_true_iff.mp c
  obtain ⟨c1, d3⟩ := Bool.and_eq_true_iff.mp d1
  revert c1
  refine onName_elim d3 fun nm np _ c1 => ?_
  refine onSlice_elim d2 fun lo' up st p2 d4 => ?_
  obtain ⟨d5, d6⟩ := Bool.and_eq_true_iff.mp d4
  obtain ⟨d7, d8⟩ := Bool.and_eq_true_iff.mp d5
  cases Option.isNone_iff_eq_none.mp d7
  cases Option.isNone_iff_eq_none.mp d8
  cases up with
  | none => exact Bool.noConfusion (show false = true from d6)
  | some u =>
  refine onConstant_elim d6 fun kk a1 a2 d9 => ?_
  cases kk with
  | int m => ?_
  | _ => exact Bool.noConfusion (show false = true from d9)
  obtain ⟨c2, c3⟩ := Bool.and_eq_true_iff.mp d9
  have c2 := of_decide_eq_true c2
  subst c2
  have q : wE G.P cf e ρ σ fun v σ' => match listAt σ' v with | some xs => if xs.length < 1000000 then Q (.obj σ'.length) (σ' ++ [.list (xs.take k)]) else False | none => False := q
  refine wpAny_Subscript_list_slice (wpAny_mono ((ih X _ c1 L env he A hA s φ σ ρ ok lo).1 _ q) (fun w s' p => ?_) fun _ _ z => z)
  refine p.elim fun φ' σ' v x1 x2 x3 x4 x5 x6 => ?_
  rw [evalPart_none]
  refine wpAny_pure ?_
  rw [evalPart_some]
  refine wpAny_Constant_int ?_
  split at x4
  · rename_i xs e1
    split at x4
    · rename_i hl
      obtain ⟨o, a, ws, m, rfl, e2, rfl, ea, hg, rl, hs⟩ := listAt_some x2 x3 e1
      refine ⟨a, ws, none, some k, rfl, PySem.IsL.isList (n := m) hg, by rw [hs, sizeLine_eq]; omega, .none, .int _ _, ?_⟩
      rw [slicePick_upto']
      have hsz : s'.heap.objs.size + 1 = (s'.heap.push { cls := .type "slice", data := .fields #[.none, .int k s'.toks, .none] }).objs.size := (Heap.size_push ..).symm
      show Post G.C φ s Q (.ref (s'.heap.objs.size + 1)) _
      rw [hsz]
      have x2' := x2.push { cls := .type "slice", data := .fields #[.none, .int k s'.toks, .none] }
      have t1 : TK s'.heap (s'.heap.push { cls := .type "slice", data := .fields #[.none, .int k s'.toks, .none] }) := fun b ws' ⟨ob, e, c⟩ => ⟨ob, Heap.get?_push_of_some _ e, c⟩
      exact Post.trans (φ₁ := φ') (s₁ := { s' with heap := s'.heap.push { cls := .type "slice", data := .fields #[.none, .int k s'.toks, .none] }, toks := s'.toks + 1 }) (x1.trans (Ext.push _)) x5 x6 (new_list x2' ((rl.take k).mono (List.prefix_refl _) t1) x4)
    · exact x4.elim
  · exact x4.elim
end

end Mine
end

/-! M10 -/
noncomputable section
set_option maxHeartbeats 200000
open PyProof.Rows PySem PySem.Calls PySem.W
namespace Mine

section
variable {G : Glo} (hG : GloOk G) {cf : Cf} {n : Nat}

include hG in
theorem sim_cmp {op : Cm} {a b : E} (ih : SimE G cf n a) (ih2 : SimE G cf n b) : SimE G cf n (.cmp op a b) := by
  intro X x c L env he A hA s φ σ ρ ok lo
  refine onCompare_elim c fun x ops ys pos c => ?_
  ·
    cases ops with
    | nil => exact Bool.noConfusion (show false = true from c)
    | cons o ops =>
    cases ops with
    | cons => exact Bool.noConfusion (show false = true from c)
    | nil =>
    cases ys with
    | nil => exact Bool.noConfusion (show false = true from c)
    | cons y ys =>
    cases ys with
    | cons => exact Bool.noConfusion (show false = true from c)
    | nil =>
      have c : (ckCm op o && ckE G X a x && ckE G X b y && !behindInMarks o y) = true := c
      obtain ⟨c, c4⟩ := Bool.and_eq_true_iff.mp c
      obtain ⟨c, c3⟩ := Bool.and_eq_true_iff.mp c
      obtain ⟨c1, c2⟩ := Bool.and_eq_true_iff.mp c
      have c4 : behindInMarks o y = false := by simpa using c4
      have key : ∀ Q, wE G.P cf (.cmp op a b) ρ σ Q → wpAny (MM G) A (eval x env) (fun wa s₁ => wpAny (MM G) A (eval y env) (fun wb s₂ => wpAny (MM G) A (compareOp o wa wb) (Post G.C φ s Q) NR s₂) NR s₁) NR s := by
        intro Q q
        have q : wE G.P cf a ρ σ fun x σ₁ => wE G.P cf b ρ σ₁ fun y σ₂ => match cmpV σ₂ op x y with | some c => Q (.bool c) σ₂ | none => False := q
        refine wpAny_mono ((ih X x c2 L env he A hA s φ σ ρ ok lo).1 _ q) (fun w s' p => ?_) fun _ _ z => z
        refine p.elim fun φ' σ' v x1 x2 x3 x4 x5 x6 => ?_
        refine wpAny_mono ((ih2 X y c3 L env he A hA s' φ' σ' ρ x2 (lo.ext ok x1)).1 _ x4) (fun w2 s'' p => ?_) fun _ _ z => z
        refine p.elim fun φ'' σ'' k y1 y2 y3 y4 y5 y6 => ?_
        split at y4
        · rename_i r e1
          have x3' := x3.mono y1.pref (y1.tk x2 fun _ m => nomatch m)
          exact Post.back (x1.trans y1) (y5.trans x5) (y6.trans x6) (cmp_op hG hA y2 c1 x3' y3 e1 y4)
        · exact y4.elim
      refine ⟨fun Q q => wpAny_Compare1 (key Q q) c4, fun R q => ?_⟩
      rw [isTrue_Compare1]
      have hm : markedBehindIn o y (eval y env) = eval y env := by unfold markedBehindIn; rw [c4]
      rw [hm]
      refine wpAny_bind (wpAny_mono (key _ q) (fun wa s₁ h₁ => wpAny_bind (wpAny_holding (wpAny_mono h₁ (fun wb s₂ h₂ => wpAny_bind (wpAny_standAt (wpAny_bind (wpAny_operating (wpAny_mono h₂ (fun r s₃ p => ?_) fun _ _ z => z))))) fun _ _ z => z))) fun _ _ z => z)
      refine p.elim fun φ' σ' v x1 x2 x3 x4 x5 x6 => ?_
      cases v with
      | bool b =>
        cases x3
        exact wpAny_holding (wpAny_truthy_bool ⟨φ', σ', x1, x2, x4, x5, x6⟩)
      | _ => exact x4.elim

theorem sim_boolop {isAnd : Bool} {es : EL} (ih : SimL G cf n es) : SimE G cf n (.boolop isAnd es) := by
  intro X x c L env he A hA s φ σ ρ ok lo
  refine onBoolOp_elim c fun o xs pos c => ?_
  ·
    have c : ((isAnd == (o == .And)) && ckL G X es xs) = true := c
    obtain ⟨c1, c2⟩ := Bool.and_eq_true_iff.mp c
    have c1 := beq_iff_eq.mp c1
    subst c1
    have h := ih X xs c2 L env he A hA s φ σ ρ ok lo
    exact ⟨fun Q q => h.2.1 pos o Q q, fun R q => h.2.2 o R q⟩

theorem sim_not {e : E} (ih : SimE G cf n e) : SimE G cf n (.not e) := by
  intro X x c L env he A hA s φ σ ρ ok lo
  refine onUnaryOp_elim c fun o x pos c => ?_
  ·
    cases o with
    | Not =>
      have c : ckE G X e x = true := c
      have h := ih X x c L env he A hA s φ σ ρ ok lo
      refine ⟨fun Q q => ?_, fun R q => ?_⟩
      · have q : wE G.P cf e ρ σ fun v σ' => match v with | .bool b => Q (.bool !b) σ' | _ => False := q
        refine wpAny_UnaryOp (wpAny_mono (h.1 _ q) (fun w s' p => ?_) fun _ _ z => z)
        refine p.elim fun φ' σ' v x1 x2 x3 x4 x5 x6 => ?_
        cases v with
        | bool b =>
          cases x3
          exact PyProof.Rows.not_of (wpAny_truthy_bool ⟨φ', σ', .bool !b, x1, x2, rfl, x4, x5, x6⟩)
        | _ => exact x4.elim
      · have q : wE G.P cf e ρ σ fun v σ' => match v with | .bool b => R (!b) σ' | _ => False := q
        have hi : isTrue (.UnaryOp .Not x pos) env (eval (.UnaryOp .Not x pos) env) = (do return !(← isTrue x env (eval x env))) := rfl
        rw [hi]
        refine wpAny_bind (wpAny_mono (h.2 (fun b σ' => R (!b) σ') q) (fun b s' p => ?_) fun _ _ z => z)
        refine p.elim fun φ' σ' x1 x2 x4 x5 x6 => ?_
        exact wpAny_pure ⟨φ', σ', x1, x2, x4, x5, x6⟩
    | _ => exact Bool.noConfusion (show false = true from c)

theorem sim_neg {e : E} (ih : SimE G cf n e) : SimE G cf n (.neg e) := by
  refine sim_of (fun X x c => ?_) fun X x c L env he A hA s φ σ ρ ok lo Q q => ?_
  · refine onUnaryOp_elim c fun o x pos c => ?_
    ·
      cases o with
      | USub => rfl
      | _ => exact Bool.noConfusion (show false = true from c)
  · refine onUnaryOp_elim c fun o x pos c => ?_
    ·
      cases o with
      | USub =>
        have c : ckE G X e x = true := c
        have q : wE G.P cf e ρ σ fun v σ' => match v with | .int i => Q (.int (-i)) σ' | _ => False := q
        refine wpAny_UnaryOp (wpAny_mono ((ih X x c L env he A hA s φ σ ρ ok lo).1 _ q) (fun w s' p => ?_) fun _ _ z => z)
        refine p.elim fun φ' σ' v x1 x2 x3 x4 x5 x6 => ?_
        cases v with
        | int i =>
          obtain ⟨t, rfl⟩ := x3
          exact PySem.P.neg_int (Post.trans x1 x5 x6 (post_now x2 (v := .int (-i)) ⟨_, rfl⟩ x4))
        | _ => exact x4.elim
      | _ => exact Bool.noConfusion (show false = true from c)

theorem sim_bin {op : Bo} {a b : E} (ih : SimE G cf n a) (ih2 : SimE G cf n b) : SimE G cf n (.bin op a b) := by
  refine sim_of (fun X x c => plain_tag (onBinOp_tag c) rfl) fun X x c L env he A hA s φ σ ρ ok lo Q q => ?_
  refine onBinOp_elim c fun x o y pos c => ?_
  have c : (ckBo op o && ckE G X a x && ckE G X b y) = true := c
  obtain ⟨c, c3⟩ := Bool.and_eq_true_iff.mp c
  obtain ⟨c1, c2⟩ := Bool.and_eq_true_iff.mp c
  have q : wE G.P cf a ρ σ fun x σ₁ => wE G.P cf b ρ σ₁ fun y σ₂ => match binV op x y with | some v => Q v σ₂ | none => False := q
  refine wpAny_BinOp (wpAny_mono ((ih X x c2 L env he A hA s φ σ ρ ok lo).1 _ q) (fun w s' p => ?_) fun _ _ z => z)
  refine p.elim fun φ' σ' v x1 x2 x3 x4 x5 x6 => ?_
  refine wpAny_mono ((ih2 X y c3 L env he A hA s' φ' σ' ρ x2 (lo.ext ok x1)).1 _ x4) (fun w2 s'' p => ?_) fun _ _ z => z
  refine p.elim fun φ'' σ'' k y1 y2 y3 y4 y5 y6 => ?_
  split at y4
  · rename_i r e1
    have x3' := x3.mono y1.pref (y1.tk x2 fun _ m => nomatch m)
    exact Post.back (x1.trans y1) (y5.trans x5) (y6.trans x6) (bin_op y2 c1 x3' y3 e1 y4)
  · exact y4.elim

theorem sim_ife {c a b : E} (ih : SimE G cf n c) (ih2 : SimE G cf n a) (ih3 : SimE G cf n b) : SimE G cf n (.ife c a b) := by
  intro X x ck L env he A hA s φ σ ρ ok lo
  refine onIfExp_elim ck fun x y z pos ck => ?_
  ·
    have ck : (ckE G X c x && ckE G X a y && ckE G X b z) = true := ck
    obtain ⟨ck, c3⟩ := Bool.and_eq_true_iff.mp ck
    obtain ⟨c1, c2⟩ := Bool.and_eq_true_iff.mp ck
    have h := ih X x c1 L env he A hA s φ σ ρ ok lo
    refine ⟨fun Q q => ?_, fun R q => ?_⟩
    · have q : wE G.P cf c ρ σ fun v σ' => match v with | .bool t => (if t = true then wE G.P cf a ρ σ' Q else wE G.P cf b ρ σ' Q) | _ => False := q
      refine wpAny_IfExp (wpAny_mono (h.2 (fun t σ' => if t = true then wE G.P cf a ρ σ' Q else wE G.P cf b ρ σ' Q) q) (fun t s' p => ?_) fun _ _ z => z)
      refine p.elim fun φ' σ' x1 x2 x4 x5 x6 => ?_
      split
      · rename_i ht
        rw [if_pos ht] at x4
        exact Post.back x1 x5 x6 ((ih2 X y c2 L env he A hA s' φ' σ' ρ x2 (lo.ext ok x1)).1 _ x4)
      · rename_i ht
        rw [if_neg ht] at x4
        exact Post.back x1 x5 x6 ((ih3 X z c3 L env he A hA s' φ' σ' ρ x2 (lo.ext ok x1)).1 _ x4)
    · have q : wE G.P cf c ρ σ fun v σ' => match v with | .bool t => (if t = true then wE G.P cf a ρ σ' (fun v σ' => match v with | .bool b => R b σ' | _ => False) else wE G.P cf b ρ σ' (fun v σ' => match v with | .bool b => R b σ' | _ => False)) | _ => False := q
      have hi : isTrue (.IfExp x y z pos) env (eval (.IfExp x y z pos) env) = (do if ← isTrue x env (eval x env) then isTrue y env (eval y env) else isTrue z env (eval z env)) := rfl
      rw [hi]
      refine wpAny_bind (wpAny_mono (h.2 (fun t σ' => if t = true then wE G.P cf a ρ σ' (fun v σ' => match v with | .bool b => R b σ' | _ => False) else wE G.P cf b ρ σ' (fun v σ' => match v with | .bool b => R b σ' | _ => False)) q) (fun t s' p => ?_) fun _ _ z => z)
      refine p.elim fun φ' σ' x1 x2 x4 x5 x6 => ?_
      have bk : ∀ {m : Sem Bool}, wpAny (MM G) A m (PostT G.C φ' s' R) NR s' → wpAny (MM G) A m (PostT G.C φ s R) NR s' := fun h => wpAny_mono h (fun _ _ ⟨φ'', σ'', y1, y2, y4, y5, y6⟩ => ⟨φ'', σ'', x1.trans y1, y2, y4, y5.trans x5, y6.trans x6⟩) fun _ _ z => z
      by_cases ht : t = true
      · rw [if_pos ht] at x4 ⊢
        exact bk ((ih2 X y c2 L env he A hA s' φ' σ' ρ x2 (lo.ext ok x1)).2 _ x4)
      · rw [if_neg ht] at x4 ⊢
        exact bk ((ih3 X z c3 L env he A hA s' φ' σ' ρ x2 (lo.ext ok x1)).2 _ x4)
end

end Mine
end

/-! M11 -/
noncomputable section
set_option maxHeartbeats 200000
open PyProof.Rows PySem PySem.Calls PySem.W
namespace Mine

section
variable {G : Glo} (hG : GloOk G) {cf : Cf} {n : Nat}

theorem simL_nil : SimL G cf n .nil := by
  intro X xs c L env he A hA s φ σ ρ ok lo
  cases xs with
  | cons => exact Bool.noConfusion (show false = true from c)
  | nil =>
    refine ⟨fun pos Q q => Calls.spliced_nil ⟨φ, σ, [], .refl _ _ _, ok, rfl, ⟨rfl, q⟩, rfl, rfl⟩, fun pos op Q q => ?_, fun op R q => ?_⟩
    · exact (show False from q).elim
    · exact (show False from q).elim

theorem simL_cons {e : E} {es : EL} (ih : SimE G cf n e) (ih2 : SimL G cf n es) : SimL G cf n (.cons e es) := by
  intro X xs c L env he A hA s φ σ ρ ok lo
  cases xs with
  | nil => exact Bool.noConfusion (show false = true from c)
  | cons x xs =>
    have cc := c
    have c : (ckE G X e x && ckL G X es xs) = true := c
    obtain ⟨c1, c2⟩ := Bool.and_eq_true_iff.mp c
    have h := ih X x c1 L env he A hA s φ σ ρ ok lo
    refine ⟨fun pos Q q => ?_, fun pos op Q q => ?_, fun op R q => ?_⟩
    · have q : wE G.P cf e ρ σ fun v σ₁ => wL G.P cf es ρ σ₁ fun vs σ₂ => Q (v :: vs) σ₂ := q
      have e1 : backTo pos (starEach (x :: xs) env) = (false, eval x env) :: backTo pos (starEach xs env) := by rw [back_of env pos cc, back_of env pos c2]; rfl
      rw [e1]
      refine Calls.spliced_cons (wpAny_mono (h.1 _ q) (fun w s' p => ?_) fun _ _ z => z)
      refine p.elim fun φ' σ' v x1 x2 x3 x4 x5 x6 => ?_
      refine wpAny_mono ((ih2 X xs c2 L env he A hA s' φ' σ' ρ x2 (lo.ext ok x1)).1 pos _ x4) (fun ws s'' p => ?_) fun _ _ z => z
      refine p.elim fun φ'' σ'' vs y1 y2 y3 xq y5 y6 => ?_
      obtain ⟨y7, y4⟩ := xq
      exact ⟨φ'', σ'', v :: vs, x1.trans y1, y2, RelL.cons (x3.mono y1.pref (y1.tk x2 fun _ m => nomatch m)) y3, ⟨by rw [List.length_cons, List.length_cons, y7], y4⟩, y5.trans x5, y6.trans x6⟩
    · cases es with
      | nil =>
        cases xs with
        | cons => exact Bool.noConfusion (show false = true from c2)
        | nil => exact h.1 Q q
      | cons e' es' =>
        cases xs with
        | nil => exact Bool.noConfusion (show false = true from c2)
        | cons x' xs' =>
          have q : wE G.P cf e ρ σ fun v σ₁ => match v with | .bool b => (if b = (op == .And) then wB G.P cf (op == .And) (.cons e' es') ρ σ₁ Q else Q (.bool b) σ₁) | _ => False := q
          show wpAny (MM G) A (do
            let v ← eval x env
            standAt pos
            let t ← holding [v] (truthy v)
            match op, t with
            | .And, false | .Or, true => pure v
            | _, _ => boolOp pos op (evalEach (x' :: xs') env)) _ _ _
          refine wpAny_bind (wpAny_mono (h.1 _ q) (fun w s' p => ?_) fun _ _ z => z)
          refine p.elim fun φ' σ' v x1 x2 x3 x4 x5 x6 => ?_
          cases v with
          | bool b =>
            cases x3
            refine wpAny_bind (wpAny_standAt (wpAny_bind (wpAny_holding (wpAny_truthy_bool ?_))))
            have go : wB G.P cf (op == .And) (.cons e' es') ρ σ' Q → wpAny (MM G) A (boolOp pos op (evalEach (x' :: xs') env)) (Post G.C φ s Q) NR s' := fun q =>
              Post.back x1 x5 x6 ((ih2 X _ c2 L env he A hA s' φ' σ' ρ x2 (lo.ext ok x1)).2.1 pos op Q q)
            have stop : Q (.bool b) σ' → wpAny (MM G) A (pure (Value.bool b)) (Post G.C φ s Q) NR s' := fun q => wpAny_pure ⟨φ', σ', .bool b, x1, x2, rfl, q, x5, x6⟩
            dsimp only at x4
            cases op <;> cases b
            · exact stop (by simpa using x4)
            · exact go (by simpa using x4)
            · exact go (by simpa using x4)
            · exact stop (by simpa using x4)
          | _ => exact x4.elim
    · have fin : ∀ {b : Bool} {φ' : List Addr} {σ' : AH} {s' : Shared}, Ext [] φ s.heap φ' s'.heap → Ok G.C φ' σ' s'.heap → s'.gens = s.gens → s'.os = s.os → R b σ' → wpAny (MM G) A (pure b) (PostT G.C φ s R) NR s' :=
        fun x1 x2 x5 x6 q => wpAny_pure ⟨_, _, x1, x2, q, x5, x6⟩
      show wpAny (MM G) A (do
        match op, ← isTrue x env (eval x env) with
        | .And, false => pure false
        | .Or, true => pure true
        | _, _ => allTrue op xs env) _ _ _
      cases es with
      | nil =>
        cases xs with
        | cons => exact Bool.noConfusion (show false = true from c2)
        | nil =>
          refine wpAny_bind (wpAny_mono (h.2 R q) (fun b s' p => ?_) fun _ _ z => z)
          refine p.elim fun φ' σ' x1 x2 x4 x5 x6 => ?_
          cases op <;> cases b <;> exact fin x1 x2 x5 x6 x4
      | cons e' es' =>
        have q : wE G.P cf e ρ σ fun v σ₁ => match v with | .bool b => (if b = (op == .And) then wB G.P cf (op == .And) (.cons e' es') ρ σ₁ (fun v σ' => match v with | .bool b => R b σ' | _ => False) else R b σ₁) | _ => False := q
        refine wpAny_bind (wpAny_mono (h.2 (fun b σ₁ => if b = (op == .And) then wB G.P cf (op == .And) (.cons e' es') ρ σ₁ (fun v σ' => match v with | .bool b => R b σ' | _ => False) else R b σ₁) q) (fun b s' p => ?_) fun _ _ z => z)
        refine p.elim fun φ' σ' x1 x2 x4 x5 x6 => ?_
        have go : wB G.P cf (op == .And) (.cons e' es') ρ σ' (fun v σ' => match v with | .bool b => R b σ' | _ => False) → wpAny (MM G) A (allTrue op xs env) (PostT G.C φ s R) NR s' := fun q =>
          wpAny_mono ((ih2 X _ c2 L env he A hA s' φ' σ' ρ x2 (lo.ext ok x1)).2.2 op R q) (fun _ _ ⟨φ'', σ'', y1, y2, y4, y5, y6⟩ => ⟨φ'', σ'', x1.trans y1, y2, y4, y5.trans x5, y6.trans x6⟩) fun _ _ z => z
        cases op <;> cases b
        · exact fin x1 x2 x5 x6 (by simpa using x4)
        · exact go (by simpa using x4)
        · exact go (by simpa using x4)
        · exact fin x1 x2 x5 x6 (by simpa using x4)

theorem call_cf {A : Around} (hcf : SimCf G cf n) (hA : AOk A n) {f : Nat} {vs : List V} {σ : AH} {Q : V → AH → Prop} {s : Shared} {φ : List Addr} {ws : List Value} (q : cf f vs σ Q) (ok : Ok G.C φ σ s.heap) (r : RelL s.heap φ vs ws) :
    wpAny (MM G) A (call (.ref (G.faddr f)) ws) (Post G.C φ s Q) NR s := by
  refine wpAny_call (codeAny_mono (hcf f vs σ Q q A hA s φ ws ok r) fun r s' z => ?_)
  cases r with
  | error e => exact z
  | ok fl => cases fl <;> exact z

include hG in
theorem sim_callF (hcf : SimCf G cf n) {f : Nat} {es : EL} (ih : SimL G cf n es) : SimE G cf n (.callF f es) := by
  refine sim_of (fun X x c => plain_tag (onCall_tag c) rfl) fun X x c L env he A hA s φ σ ρ ok lo Q q => ?_
  refine onCall_elim c fun g xs kws pos c => ?_
  obtain ⟨c0, c⟩ := Bool.and_eq_true_iff.mp c
  obtain rfl := List.isEmpty_iff.mp c0
  refine onName_elim c fun y p c => ?_
  have c : (G.fname f == some y && ckName X .globalImplicit y && ckL G X es xs && decide (xs.length ≤ 20)) = true := c
  obtain ⟨c, c4⟩ := Bool.and_eq_true_iff.mp c
  obtain ⟨c, c3⟩ := Bool.and_eq_true_iff.mp c
  obtain ⟨c1, c2⟩ := Bool.and_eq_true_iff.mp c
  obtain ⟨e1, e2⟩ := hG.fn f y (beq_iff_eq.mp c1)
  have q : wL G.P cf es ρ σ fun vs σ' => cf f vs σ' Q := q
  refine wpAny_Call_Name_kw (name_glob hG ok.base he c2 e1 ?_)
  refine callW (P := G.C.K.In) (back_all env pos c3) (keeps_K e2) (wpAny_mono ((ih X xs c3 L env he A hA s φ σ ρ ok lo).1 pos _ q) (fun ws s' p => ?_) fun _ _ z => z)
  refine p.elim fun φ' σ' vs x1 x2 x3 xq x5 x6 => ?_
  obtain ⟨x7, x4⟩ := xq
  exact ⟨hG.hK.keeps x2.base, Post.back x1 x5 x6 (call_cf hcf hA.less x4 x2 x3)⟩

theorem instOf_some {s : Shared} {φ : List Addr} {σ : AH} {v : V} {w : Value} {c : Nat} (ok : Ok G.C φ σ s.heap) (rv : Rel s.heap φ v w) (e : instOf σ v = some c) : ∃ i d fs a, v = .obj i ∧ w = .ref a ∧ σ[d]? = some (.ns fs) ∧ ObjRel G.C s.heap φ a (.inst c d) := by
  cases v with
  | obj i =>
    simp only [instOf] at e
    split at e
    · rename_i c' d e1
      split at e
      · rename_i fs e2
        cases e
        obtain ⟨a, rfl, ea, z⟩ := rel_obj ok rv e1
        exact ⟨i, d, fs, a, rfl, rfl, e2, z⟩
      · cases e
    · cases e
  | _ => cases e

include hG in
theorem sim_callM (hcf : SimCf G cf n) {m : Nat} {e : E} {es : EL} (ih : SimE G cf n e) (ih2 : SimL G cf n es) : SimE G cf n (.callM m e es) := by
  refine sim_of (fun X x c => plain_tag (onCall_tag c) rfl) fun X x c L env he A hA s φ σ ρ ok lo Q q => ?_
  refine onCall_elim c fun g xs kws pos c => ?_
  obtain ⟨c0, c⟩ := Bool.and_eq_true_iff.mp c
  obtain rfl := List.isEmpty_iff.mp c0
  refine onAttribute_elim c fun x y p c => ?_
  have c : (ckE G X e x && G.mname m == some y && ckL G X es xs && decide (xs.length ≤ 20) && notCall x && (p.endLine == pos.line)) = true := c
  obtain ⟨c, c6⟩ := Bool.and_eq_true_iff.mp c
  obtain ⟨c, c5⟩ := Bool.and_eq_true_iff.mp c
  obtain ⟨c, c4⟩ := Bool.and_eq_true_iff.mp c
  obtain ⟨c, c3⟩ := Bool.and_eq_true_iff.mp c
  obtain ⟨c1, c2⟩ := Bool.and_eq_true_iff.mp c
  have q : wE G.P cf e ρ σ fun v σ₁ => match instOf σ₁ v with | some c => (match G.P.meth c m with | some f => wL G.P cf es ρ σ₁ fun vs σ₂ => cf f (v :: vs) σ₂ Q | none => False) | none => False := q
  refine Call_at c5 (back_all env pos c3) (of_decide_eq_true c4) c6 (wpAny_mono ((ih X x c1 L env he A hA s φ σ ρ ok lo).1 _ q) (fun w s' p pl => ?_) fun _ _ z => z)
  refine p.elim fun φ' σ' v x1 x2 x3 x4 x5 x6 => ?_
  split at x4
  · rename_i cl e1
    split at x4
    · rename_i f e2
      obtain ⟨i, d, fs, a, rfl, rfl, e3, z⟩ := instOf_some x2 x3 e1
      obtain ⟨hc, da, od, mm, ed, I, hn, hl, h1, h2, lt⟩ := inst_at x2 z e3
      obtain ⟨g1, g2, g3, g4, g5⟩ := hG.meth cl m f y e2 (beq_iff_eq.mp c2)
      obtain ⟨p1, p2⟩ := plainGet_of g1
      have hs : shadowIn (some od) y = some false := by
        show (lookIn y od).map (·.isSome) = some false
        rw [hl y]
        cases hm : mm y with
        | none => rfl
        | some w =>
          obtain ⟨j, u, b1, b2⟩ := h2 y w hm
          exact absurd (by rw [b2]; unfold attrName; rw [List.getD_eq_getElem?_getD, List.getElem?_eq_getElem (lt j u b1)]; exact List.getElem_mem (lt j u b1)) g5
      refine method_fn (hG.hK.keeps x2.base) I p1 p2 g2 (beq_iff_eq.mp g3) hs ?_
      refine callW (P := G.C.K.In) (back_all env pos c3) (keeps_K g4) (wpAny_mono ((ih2 X xs c3 L env he A hA s' φ' σ' ρ x2 (lo.ext ok x1)).1 pos _ x4) (fun ws s'' p => ?_) fun _ _ z => z)
      refine p.elim fun φ'' σ'' vs y1 y2 y3 xq y5 y6 => ?_
      obtain ⟨y7, y4⟩ := xq
      have x3' := x3.mono y1.pref (y1.tk x2 fun _ m => nomatch m)
      exact ⟨hG.hK.keeps y2.base, Post.back (x1.trans y1) (y5.trans x5) (y6.trans x6) (call_cf hcf hA.less y4 y2 (RelL.cons x3' y3))⟩
    · exact x4.elim
  · exact x4.elim

include hG in
theorem make_op {A : Around} (hA : AOk A (n + 1)) (hcf : SimCf G cf n) {c f : Nat} {vs : List V} {ws : List Value} {s : Shared} {φ : List Addr} {σ : AH} {Q : V → AH → Prop} (hi : G.P.init c = some f) (ok : Ok G.C φ σ s.heap) (r : RelL s.heap φ vs ws)
    (q : cf f (.obj (σ.length + 1) :: vs) (σ ++ [.ns []] ++ [.inst c σ.length]) fun v σ'' => v = .none ∧ Q (.obj (σ.length + 1)) σ'') : wpAny (MM G) A (call (.ref (G.C.cls c)) ws) (Post G.C φ s Q) NR s := by
  obtain ⟨g1, g2, g3, g4⟩ := hG.init c f hi
  have X := hG.hK.keeps ok.base
  obtain ⟨h, g, d, t, os⟩ := s
  have hg1 : (h.push emptyDict).get? h.objs.size = some emptyDict := Heap.get?_push_size _ rfl
  obtain ⟨a1, a2⟩ := alloc_gen (C := G.C) (φ := φ) (σ := σ) (h' := h.push emptyDict) (a := h.objs.size) (o := .ns []) ok (fun b ob e => Heap.get?_push_of_some _ e) (fresh_size h)
    ⟨⟨fun _ => none, Heap.Ns1.of_empty ⟨_, #[], _, hg1, rfl, fun e he => absurd he (by simp), fun _ => rfl⟩, fun i v e => by simp at e, fun x w e => by cases e⟩, fun i v e => by simp at e⟩
  have hsz : (h.push emptyDict).objs.size = h.objs.size + 1 := Heap.size_push ..
  have hg2 : ((h.push emptyDict).push (instObj (G.C.cls c) h.objs.size)).get? (h.push emptyDict).objs.size = some (instObj (G.C.cls c) h.objs.size) := Heap.get?_push_size _ rfl
  obtain ⟨b1, b2⟩ := alloc_gen (C := G.C) (φ := φ ++ [h.objs.size]) (σ := σ ++ [.ns []]) (h' := (h.push emptyDict).push (instObj (G.C.cls c) h.objs.size)) (a := (h.push emptyDict).objs.size) (o := .inst c σ.length) a2 (fun b ob e => Heap.get?_push_of_some _ e) (fresh_size _)
    ⟨g1, h.objs.size, by rw [← ok.len]; simp, hg2⟩
  refine wpAny_call (make_core (makes_of X g2) (looks_findIn X g3) (fun self => bind_fn X self (beq_iff_eq.mp g4)) (.inl rfl) ?_)
  have t1 : TK h ((h.push emptyDict).push (instObj (G.C.cls c) h.objs.size)) := fun b ws' ⟨ob, e, z⟩ => ⟨ob, Heap.get?_push_of_some _ (Heap.get?_push_of_some _ e), z⟩
  have r' : RelL ((h.push emptyDict).push (instObj (G.C.cls c) h.objs.size)) (φ ++ [h.objs.size] ++ [(h.push emptyDict).objs.size]) (.obj (σ.length + 1) :: vs) (.ref (h.objs.size + 1) :: ws) :=
    RelL.cons ⟨h.objs.size + 1, by rw [← ok.len, hsz]; simp, rfl⟩ (r.mono ⟨[h.objs.size] ++ [(h.push emptyDict).objs.size], by rw [List.append_assoc]⟩ t1)
  refine codeAny_mono (hcf f _ _ _ q _ (hA.under _ _ _) ⟨(h.push emptyDict).push (instObj (G.C.cls c) h.objs.size), g, d, t, os⟩ _ _ b2 r') fun r s' z => ?_
  cases r with
  | error e => exact z
  | ok fl =>
    cases fl with
    | ret w =>
      obtain ⟨φ', σ', v, x1, x2, x3, ⟨rfl, x4⟩, x5, x6⟩ := z
      refine ⟨x3, φ', σ', .obj (σ.length + 1), (a1.trans b1).trans x1, x2, ⟨h.objs.size + 1, ?_, rfl⟩, x4, x5, x6⟩
      exact prefix_get x1.pref (by rw [← ok.len, hsz]; simp)
    | _ => exact z

include hG in
theorem sim_new (hcf : SimCf G cf n) {cl : Nat} {es : EL} (ih : SimL G cf n es) : SimE G cf n (.new cl es) := by
  refine sim_of (fun X x c => plain_tag (onCall_tag c) rfl) fun X x c L env he A hA s φ σ ρ ok lo Q q => ?_
  refine onCall_elim c fun g xs kws pos c => ?_
  obtain ⟨c0, c⟩ := Bool.and_eq_true_iff.mp c
  obtain rfl := List.isEmpty_iff.mp c0
  refine onName_elim c fun y p c => ?_
  have c : (G.cname cl == some y && ckName X .globalImplicit y && ckL G X es xs && decide (xs.length ≤ 20)) = true := c
  obtain ⟨c, c4⟩ := Bool.and_eq_true_iff.mp c
  obtain ⟨c, c3⟩ := Bool.and_eq_true_iff.mp c
  obtain ⟨c1, c2⟩ := Bool.and_eq_true_iff.mp c
  obtain ⟨e1, e2⟩ := hG.cn cl y (beq_iff_eq.mp c1)
  have q : wL G.P cf es ρ σ fun vs σ' => match G.P.init cl with | some f => cf f (.obj (σ'.length + 1) :: vs) (σ' ++ [.ns []] ++ [.inst cl σ'.length]) (fun v σ'' => v = .none ∧ Q (.obj (σ'.length + 1)) σ'') | none => False := q
  refine wpAny_Call_Name_kw (name_glob hG ok.base he c2 e1 ?_)
  refine callW (P := G.C.K.In) (back_all env pos c3) (keeps_K e2) (wpAny_mono ((ih X xs c3 L env he A hA s φ σ ρ ok lo).1 pos _ q) (fun ws s' p => ?_) fun _ _ z => z)
  refine p.elim fun φ' σ' vs x1 x2 x3 xq x5 x6 => ?_
  obtain ⟨x7, x4⟩ := xq
  split at x4
  · rename_i f e3
    exact ⟨hG.hK.keeps x2.base, Post.back x1 x5 x6 (make_op hG hA hcf e3 x2 x3 x4)⟩
  · exact x4.elim

include hG in
theorem sim_blt {b : Nat} {es : EL} (ih : SimL G cf n es) : SimE G cf n (.blt b es) := by
  refine sim_of (fun X x c => plain_tag (onCall_tag c) rfl) fun X x c L env he A hA s φ σ ρ ok lo Q q => ?_
  refine onCall_elim c fun g xs kws pos c => ?_
  obtain ⟨c0, c⟩ := Bool.and_eq_true_iff.mp c
  obtain rfl := List.isEmpty_iff.mp c0
  refine onName_elim c fun y p c => ?_
  have c : ((bltNames.map PySem.Str.ofString)[b]? == some y && ckName X .globalImplicit y && ckL G X es xs && decide (xs.length ≤ 20)) = true := c
  obtain ⟨c, c4⟩ := Bool.and_eq_true_iff.mp c
  obtain ⟨c, c3⟩ := Bool.and_eq_true_iff.mp c
  obtain ⟨c1, c2⟩ := Bool.and_eq_true_iff.mp c
  have c9 := beq_iff_eq.mp c1
  rw [List.getElem?_map, Option.map_eq_some_iff] at c9
  obtain ⟨nm, c8, rfl⟩ := c9
  obtain ⟨e1, e2⟩ := hG.bi b nm c8
  have q : wL G.P cf es ρ σ fun vs σ' => match bltV σ' b vs with | some (v, σ'') => Q v σ'' | none => False := q
  refine wpAny_Call_Name_kw (name_blt hG ok.base he c2 e1 e2 ?_)
  refine callW (P := fun _ => True) (back_all env pos c3) (machine_keeps (by intro a; unfold bltVal; split <;> exact fun h => nomatch h)) (wpAny_mono ((ih X xs c3 L env he A hA s φ σ ρ ok lo).1 pos _ q) (fun ws s' p => ?_) fun _ _ z => z)
  refine p.elim fun φ' σ' vs x1 x2 x3 xq x5 x6 => ?_
  obtain ⟨x7, x4⟩ := xq
  split at x4
  · rename_i v σ'' e3
    exact ⟨trivial, Post.back x1 x5 x6 (blt_op hG hA.handled rfl x2 x3 e3 x4)⟩
  · exact x4.elim

include hG in
theorem sim_meth {k : Nat} {e : E} {es : EL} (ih : SimE G cf n e) (ih2 : SimL G cf n es) : SimE G cf n (.meth k e es) := by
  refine sim_of (fun X x c => plain_tag (onCall_tag c) rfl) fun X x c L env he A hA s φ σ ρ ok lo Q q => ?_
  refine onCall_elim c fun g xs kws pos c => ?_
  obtain ⟨c0, c⟩ := Bool.and_eq_true_iff.mp c
  obtain rfl := List.isEmpty_iff.mp c0
  refine onAttribute_elim c fun x y p c => ?_
  have c : (ckE G X e x && (methId k).map PySem.Str.ofString == some y && ckL G X es xs && decide (xs.length ≤ 20) && notCall x && (p.endLine == pos.line)) = true := c
  obtain ⟨c, c6⟩ := Bool.and_eq_true_iff.mp c
  obtain ⟨c, c5⟩ := Bool.and_eq_true_iff.mp c
  obtain ⟨c, c4⟩ := Bool.and_eq_true_iff.mp c
  obtain ⟨c, c3⟩ := Bool.and_eq_true_iff.mp c
  obtain ⟨c1, c2⟩ := Bool.and_eq_true_iff.mp c
  have q : wE G.P cf e ρ σ fun v σ₁ => methOk σ₁ k v = true ∧ wL G.P cf es ρ σ₁ fun vs σ₂ => match methV σ₂ k v vs with | some (u, σ₃) => Q u σ₃ | none => False := q
  refine Call_at c5 (back_all env pos c3) (of_decide_eq_true c4) c6 (wpAny_mono ((ih X x c1 L env he A hA s φ σ ρ ok lo).1 _ q) (fun w s' p pl => ?_) fun _ _ z => z)
  refine p.elim fun φ' σ' v x1 x2 x3 xq x5 x6 => ?_
  obtain ⟨e1, x4⟩ := xq
  refine getm_op x2 x3 e1 (beq_iff_eq.mp c2) ?_
  refine callW (P := fun _ => True) (back_all env pos c3) (machine_keeps (fun a h => nomatch h)) (wpAny_mono ((ih2 X xs c3 L env he A hA s' φ' σ' ρ x2 (lo.ext ok x1)).1 pos _ x4) (fun ws s'' p => ?_) fun _ _ z => z)
  refine p.elim fun φ'' σ'' vs y1 y2 y3 xq y5 y6 => ?_
  obtain ⟨y7, y4⟩ := xq
  have x3' := x3.mono y1.pref (y1.tk x2 fun _ m => nomatch m)
  split at y4
  · rename_i u σ₃ e3
    exact ⟨trivial, Post.back (x1.trans y1) (y5.trans x5) (y6.trans x6) (meth_op hG hA y2 x3' y3 e3 y4)⟩
  · exact y4.elim

mutual
theorem simE (hG : GloOk G) (hcf : SimCf G cf n) : ∀ e : E, SimE G cf n e
  | .loc i => sim_loc i
  | .kint i => sim_kint i
  | .kstr s => sim_kstr s
  | .kbool b => sim_kbool b
  | .knone => sim_knone
  | .glob g => sim_glob hG g
  | .tup es => sim_tup (simL hG hcf es)
  | .list es => sim_list (simL hG hcf es)
  | .dict0 k => sim_dict0 k
  | .attr e a => sim_attr hG (simE hG hcf e)
  | .sub e i => sim_sub (simE hG hcf e) (simE hG hcf i)
  | .slTo e k => sim_slTo (simE hG hcf e)
  | .cmp op a b => sim_cmp hG (simE hG hcf a) (simE hG hcf b)
  | .boolop d es => sim_boolop (simL hG hcf es)
  | .not e => sim_not (simE hG hcf e)
  | .neg e => sim_neg (simE hG hcf e)
  | .bin op a b => sim_bin (simE hG hcf a) (simE hG hcf b)
  | .ife c a b => sim_ife (simE hG hcf c) (simE hG hcf a) (simE hG hcf b)
  | .callF f es => sim_callF hG hcf (simL hG hcf es)
  | .callM m e es => sim_callM hG hcf (simE hG hcf e) (simL hG hcf es)
  | .new c es => sim_new hG hcf (simL hG hcf es)
  | .blt b es => sim_blt hG (simL hG hcf es)
  | .meth k e es => sim_meth hG (simE hG hcf e) (simL hG hcf es)
theorem simL (hG : GloOk G) (hcf : SimCf G cf n) : ∀ es : EL, SimL G cf n es
  | .nil => simL_nil
  | .cons e es => simL_cons (simE hG hcf e) (simL hG hcf es)
end
end

end Mine
end

/-! M12 -/
noncomputable section
set_option maxHeartbeats 200000
open PyProof.Rows PySem PySem.Calls PySem.W
namespace Mine

noncomputable def notTup : PySem.Expr → Bool
  | .Tuple .. => false
  | .List .. => false
  | _ => true
noncomputable def atAssign (x : PySem.Stmt) (f : List PySem.Expr → PySem.Expr → Pos → Bool) : Bool := if h : x.ctorIdx = 5 then PySem.Stmt.Assign.elim (motive_2 := fun _ => Bool) x h f else false
@[elab_as_elim] theorem atAssign_elim {x : PySem.Stmt} {f : List PySem.Expr → PySem.Expr → Pos → Bool} (c : atAssign x f = true) {motive : PySem.Stmt → Prop} (h : ∀ xs y p, f xs y p = true → motive (.Assign xs y p)) : motive x :=
  PySem.Stmt.Assign.elim (motive_2 := fun x => atAssign x f = true → motive x) x (ite_tag c) h c
noncomputable def atAugAssign (x : PySem.Stmt) (f : PySem.Expr → Operator → PySem.Expr → Pos → Bool) : Bool := if h : x.ctorIdx = 7 then PySem.Stmt.AugAssign.elim (motive_2 := fun _ => Bool) x h f else false
@[elab_as_elim] theorem atAugAssign_elim {x : PySem.Stmt} {f : PySem.Expr → Operator → PySem.Expr → Pos → Bool} (c : atAugAssign x f = true) {motive : PySem.Stmt → Prop} (h : ∀ y o z p, f y o z p = true → motive (.AugAssign y o z p)) : motive x :=
  PySem.Stmt.AugAssign.elim (motive_2 := fun x => atAugAssign x f = true → motive x) x (ite_tag c) h c
noncomputable def atFor (x : PySem.Stmt) (f : PySem.Expr → PySem.Expr → List Stmt → List Stmt → Pos → Bool) : Bool := if h : x.ctorIdx = 9 then PySem.Stmt.For.elim (motive_2 := fun _ => Bool) x h f else false
@[elab_as_elim] theorem atFor_elim {x : PySem.Stmt} {f : PySem.Expr → PySem.Expr → List Stmt → List Stmt → Pos → Bool} (c : atFor x f = true) {motive : PySem.Stmt → Prop} (h : ∀ y z b e p, f y z b e p = true → motive (.For y z b e p)) : motive x :=
  PySem.Stmt.For.elim (motive_2 := fun x => atFor x f = true → motive x) x (ite_tag c) h c
noncomputable def atWhile (x : PySem.Stmt) (f : PySem.Expr → List Stmt → List Stmt → Pos → Bool) : Bool := if h : x.ctorIdx = 11 then PySem.Stmt.While.elim (motive_2 := fun _ => Bool) x h f else false
@[elab_as_elim] theorem atWhile_elim {x : PySem.Stmt} {f : PySem.Expr → List Stmt → List Stmt → Pos → Bool} (c : atWhile x f = true) {motive : PySem.Stmt → Prop} (h : ∀ y b e p, f y b e p = true → motive (.While y b e p)) : motive x :=
  PySem.Stmt.While.elim (motive_2 := fun x => atWhile x f = true → motive x) x (ite_tag c) h c
noncomputable def atIf (x : PySem.Stmt) (f : PySem.Expr → List Stmt → List Stmt → Pos → Bool) : Bool := if h : x.ctorIdx = 12 then PySem.Stmt.If.elim (motive_2 := fun _ => Bool) x h f else false
@[elab_as_elim] theorem atIf_elim {x : PySem.Stmt} {f : PySem.Expr → List Stmt → List Stmt → Pos → Bool} (c : atIf x f = true) {motive : PySem.Stmt → Prop} (h : ∀ y b e p, f y b e p = true → motive (.If y b e p)) : motive x :=
  PySem.Stmt.If.elim (motive_2 := fun x => atIf x f = true → motive x) x (ite_tag c) h c
noncomputable def atReturn (x : PySem.Stmt) (f : Option PySem.Expr → Pos → Bool) : Bool := if h : x.ctorIdx = 3 then PySem.Stmt.Return.elim (motive_2 := fun _ => Bool) x h f else false
@[elab_as_elim] theorem atReturn_elim {x : PySem.Stmt} {f : Option PySem.Expr → Pos → Bool} (c : atReturn x f = true) {motive : PySem.Stmt → Prop} (h : ∀ y p, f y p = true → motive (.Return y p)) : motive x :=
  PySem.Stmt.Return.elim (motive_2 := fun x => atReturn x f = true → motive x) x (ite_tag c) h c
noncomputable def atExpr (x : PySem.Stmt) (f : PySem.Expr → Pos → Bool) : Bool := if h : x.ctorIdx = 24 then PySem.Stmt.Expr.elim (motive_2 := fun _ => Bool) x h f else false
@[elab_as_elim] theorem atExpr_elim {x : PySem.Stmt} {f : PySem.Expr → Pos → Bool} (c : atExpr x f = true) {motive : PySem.Stmt → Prop} (h : ∀ y p, f y p = true → motive (.Expr y p)) : motive x :=
  PySem.Stmt.Expr.elim (motive_2 := fun x => atExpr x f = true → motive x) x (ite_tag c) h c
noncomputable def atPass (x : PySem.Stmt) (f : Pos → Bool) : Bool := if h : x.ctorIdx = 25 then PySem.Stmt.Pass.elim (motive_2 := fun _ => Bool) x h f else false
@[elab_as_elim] theorem atPass_elim {x : PySem.Stmt} {f : Pos → Bool} (c : atPass x f = true) {motive : PySem.Stmt → Prop} (h : ∀ p, f p = true → motive (.Pass p)) : motive x :=
  PySem.Stmt.Pass.elim (motive_2 := fun x => atPass x f = true → motive x) x (ite_tag c) h c
noncomputable def atContinue (x : PySem.Stmt) (f : Pos → Bool) : Bool := if h : x.ctorIdx = 27 then PySem.Stmt.Continue.elim (motive_2 := fun _ => Bool) x h f else false
@[elab_as_elim] theorem atContinue_elim {x : PySem.Stmt} {f : Pos → Bool} (c : atContinue x f = true) {motive : PySem.Stmt → Prop} (h : ∀ p, f p = true → motive (.Continue p)) : motive x :=
  PySem.Stmt.Continue.elim (motive_2 := fun x => atContinue x f = true → motive x) x (ite_tag c) h c
noncomputable def ckLoc (X : Ck) (i : Nat) (x : PySem.Expr) : Bool := onName x fun y _ => X.names[i]? == some y && ckName X .local y
noncomputable def ckNames (X : Ck) : List Nat → List PySem.Expr → Bool
  | [], xs => xs.isEmpty
  | i :: is, xs => (match xs with
    | x :: xs => ckLoc X i x && ckNames X is xs
    | [] => false)
noncomputable def ckT (G : Nm) (X : Ck) : T → PySem.Expr → Bool
  | .loc i, x => ckLoc X i x
  | .tup is, x => onTuple x fun xs _ _ => ckNames X is xs
  | .attr e a, x => onAttribute x fun y n _ => ckE G X e y && attrNames[a]? == some n
  | .sub e i, x => onSubscript x fun y z _ => ckE G X e y && ckE G X i z
mutual
noncomputable def ckS (G : Nm) (X : Ck) : S → Stmt → Bool
  | .assign t e, x => atAssign x fun xs y _ => (match xs with
    | z :: zs => zs.isEmpty && ckT G X t z && ckE G X e y && (notTup z || notTup y)
    | [] => false)
  | .augLoc i op e, x => atAugAssign x fun y o z _ => ckLoc X i y && ckAug op o && ckE G X e z
  | .augSub e i op r, x => atAugAssign x fun u o z _ => onSubscript u fun y k _ => ckE G X e y && ckE G X i k && notSlice k && ckAug op o && ckE G X r z
  | .expr e, x => atExpr x fun y _ => ckE G X e y
  | .ite c a b, x => atIf x fun y b' e' _ => ckE G X c y && ckSL G X a b' && ckSL G X b e'
  | .while c b, x => atWhile x fun y b' e' _ => e'.isEmpty && ckE G X c y && ckSL G X b b'
  | .for_ t e b, x => atFor x fun u y b' e' _ => e'.isEmpty && (match t with
    | .loc i => ckLoc X i u
    | _ => false) && ckE G X e y && ckSL G X b b'
  | .ret e, x => atReturn x fun y _ => (match y with
    | some y => ckE G X e y
    | none => false)
  | .retN, x => atReturn x fun y _ => y.isNone
  | .cont, x => atContinue x fun _ => true
  | .pass, x => atPass x fun _ => true
  | .stuck, _ => true
noncomputable def ckSL (G : Nm) (X : Ck) : SL → List Stmt → Bool
  | .nil, xs => xs.isEmpty
  | .cons s ss, xs => (match xs with
    | x :: xs => ckS G X s x && ckSL G X ss xs
    | [] => false)
end

inductive FlRel (h : Heap) (φ : List Addr) : Fl → Flow → Prop where
  | next : FlRel h φ .next .next
  | cont : FlRel h φ .cont .cont
  | ret {v w} : Rel h φ v w → FlRel h φ (.ret v) (.ret w)

noncomputable def PostS (C : Cx) (X : Ck) (L : Addr) (φ : List Addr) (s : Shared) (Q : Fl → En → AH → Prop) : Flow → Shared → Prop := fun f s' =>
  ∃ φ' σ' ρ' fl, Ext [L] φ s.heap φ' s'.heap ∧ Ok C φ' σ' s'.heap ∧ Loc X ρ' φ' s'.heap L ∧ FlRel s'.heap φ' fl f ∧ Q fl ρ' σ' ∧ s'.gens = s.gens ∧ s'.os = s.os
noncomputable def PostE (C : Cx) (X : Ck) (L : Addr) (φ : List Addr) (s : Shared) (Q : En → AH → Prop) : Unit → Shared → Prop := fun _ s' =>
  ∃ φ' σ' ρ', Ext [L] φ s.heap φ' s'.heap ∧ Ok C φ' σ' s'.heap ∧ Loc X ρ' φ' s'.heap L ∧ Q ρ' σ' ∧ s'.gens = s.gens ∧ s'.os = s.os

theorem PostS.elim {C : Cx} {X : Ck} {L : Addr} {φ : List Addr} {s : Shared} {Q : Fl → En → AH → Prop} {w : Flow} {s' : Shared} {R : Prop} (p : PostS C X L φ s Q w s')
    (h : ∀ φ' σ' ρ' fl, Ext [L] φ s.heap φ' s'.heap → Ok C φ' σ' s'.heap → Loc X ρ' φ' s'.heap L → FlRel s'.heap φ' fl w → Q fl ρ' σ' → s'.gens = s.gens → s'.os = s.os → R) : R :=
  let ⟨a, b, c, d, e, f, g, i, j, k, l⟩ := p; h a b c d e f g i j k l
theorem PostE.elim {C : Cx} {X : Ck} {L : Addr} {φ : List Addr} {s : Shared} {Q : En → AH → Prop} {w : Unit} {s' : Shared} {R : Prop} (p : PostE C X L φ s Q w s')
    (h : ∀ φ' σ' ρ', Ext [L] φ s.heap φ' s'.heap → Ok C φ' σ' s'.heap → Loc X ρ' φ' s'.heap L → Q ρ' σ' → s'.gens = s.gens → s'.os = s.os → R) : R :=
  let ⟨a, b, c, d, e, f, g, i, j⟩ := p; h a b c d e f g i j

theorem PostS.back {C : Cx} {X : Ck} {L : Addr} {φ φ₁ : List Addr} {s s₁ : Shared} {Q : Fl → En → AH → Prop} (x : Ext [L] φ s.heap φ₁ s₁.heap) (g : s₁.gens = s.gens) (o : s₁.os = s.os) {f : Flow} {s' : Shared} (p : PostS C X L φ₁ s₁ Q f s') : PostS C X L φ s Q f s' := by
  obtain ⟨φ', σ', ρ', fl, a, b, c, d, e, f, g'⟩ := p
  exact ⟨φ', σ', ρ', fl, x.trans a, b, c, d, e, f.trans g, g'.trans o⟩
theorem PostE.back {C : Cx} {X : Ck} {L : Addr} {φ φ₁ : List Addr} {s s₁ : Shared} {Q : En → AH → Prop} (x : Ext [L] φ s.heap φ₁ s₁.heap) (g : s₁.gens = s.gens) (o : s₁.os = s.os) {u : Unit} {s' : Shared} (p : PostE C X L φ₁ s₁ Q u s') : PostE C X L φ s Q u s' := by
  obtain ⟨φ', σ', ρ', a, b, c, e, f, g'⟩ := p
  exact ⟨φ', σ', ρ', x.trans a, b, c, e, f.trans g, g'.trans o⟩

theorem Loc.tk {X : Ck} {ρ : En} {φ φ' : List Addr} {h h' : Heap} {L : Addr} {C : Cx} {σ : AH} (l : Loc X ρ φ h L) (ok : Ok C φ σ h) (x : Ext [L] φ h φ' h') : TK h h' :=
  x.tk ok fun a m ws => by
    simp only [List.mem_singleton] at m
    subst m
    obtain ⟨mm, n, _⟩ := l.ns
    exact Ns.notup n ws

/-- a local is set -/
theorem loc_put {C : Cx} {X : Ck} {ρ : En} {φ : List Addr} {σ : AH} {h h' : Heap} {L : Addr} {i : Nat} {x : PySem.Str} {v : V} {w : Value} {m : PySem.Str → Option Value} (ok : Ok C φ σ h) (l : Loc X ρ φ h L) (hLB : C.hB.get? L = none) (nd : X.names.Nodup)
    (hx : X.names[i]? = some x) (r : Rel h φ v w) (hm : ∀ i v, ρ i = some v → ∃ x w, X.names[i]? = some x ∧ m x = some w ∧ Rel h φ v w) (hn' : h'.Ns L fun y => if y = x then some w else m y) (hs : Heap.SameBut L h h') :
    Ext [L] φ h φ h' ∧ Ok C φ σ h' ∧ Loc X (ρ.put i v) φ h' L := by
  have hl : h'.get? L ≠ none := by obtain ⟨o, _, _, e, _⟩ := hn'; rw [e]; simp
  have x1 : Ext [L] φ h φ h' := Ext.sameBut hs (.inr (by simp)) hl
  have t := l.tk ok x1
  refine ⟨x1, ok.ext (fun b o e => ?_) t fun a ma => hs.2 a fun e => l.out (e ▸ ma), ⟨⟨_, hn', fun j u e => ?_⟩, l.out⟩⟩
  · rw [hs.2 b fun e' => by rw [e', hLB] at e; cases e]
    exact ok.base b o e
  · by_cases q : j = i
    · subst q
      have : v = u := by simpa [En.put] using e
      subst this
      exact ⟨x, w, hx, if_pos rfl, r.mono (List.prefix_refl _) t⟩
    · have e' : ρ j = some u := by simpa [En.put, q] using e
      obtain ⟨y, wu, a, b, c⟩ := hm j u e'
      refine ⟨y, wu, a, ?_, c.mono (List.prefix_refl _) t⟩
      rw [if_neg fun z => q ?_]
      · exact b
      · subst z
        exact (List.getElem?_inj (List.getElem?_eq_some_iff.mp a).1 nd).mp (a.trans hx.symm)

theorem store_loc {G : Glo} {X : Ck} {ρ : En} {φ : List Addr} {σ : AH} {s : Shared} {L : Addr} {env : Env} {A : Around} {i : Nat} {x : PySem.Str} {v : V} {w : Value} {E : Value → Shared → Prop} {Q : Unit → Shared → Prop} (he : EnvOk X L env) (hLB : G.C.hB.get? L = none) (ok : Ok G.C φ σ s.heap) (l : Loc X ρ φ s.heap L)
    (hx : X.names[i]? = some x) (hk : ckName X .local x = true) (r : Rel s.heap φ v w)
    (q : ∀ s', Ext [L] φ s.heap φ s'.heap → Ok G.C φ σ s'.heap → Loc X (ρ.put i v) φ s'.heap L → s'.gens = s.gens → s'.os = s.os → Q () s') : wpAny (MM G) A (storeName env x w) Q E s := by
  obtain ⟨m, hn, hm⟩ := l.ns
  refine wpAny_storeName_local (m := m) (ckName_of he hk).1 (by rw [he.loc]; exact hn) (fun h' hn' hs => ?_) (by rw [he.sc, he.kind]; rfl)
  rw [he.loc] at hn' hs
  obtain ⟨x1, x2, x3⟩ := loc_put ok l hLB he.nd hx r hm hn' hs
  exact q _ x1 x2 x3 rfl rfl

section
variable {G : Glo} (hG : GloOk G) {cf : Cf} {n : Nat}

theorem ext1 {φ φ' : List Addr} {h h' : Heap} {L : Addr} (x : Ext [] φ h φ' h') : Ext [L] φ h φ' h' := x.weak fun _ m => nomatch m

theorem each_ix {x : PySem.Expr} (h : okIx x.ctorIdx = true) (xs : List PySem.Expr) (env : Env) : assignEach (x :: xs) env = (false, assign x env) :: assignEach xs env := by
  cases x <;> first | rfl | cases h
theorem ckLoc_ix {X : Ck} {i : Nat} {x : PySem.Expr} (c : ckLoc X i x = true) : okIx x.ctorIdx = true := by
  rw [onName_tag c]; rfl
theorem assignEach_names {X : Ck} (env : Env) : ∀ {is : List Nat} {xs : List PySem.Expr}, ckNames X is xs = true → assignEach xs env = xs.map fun t => (false, assign t env)
  | [], [], _ => rfl
  | i :: is, x :: xs, c => by
    have c : (ckLoc X i x && ckNames X is xs) = true := c
    rw [each_ix (ckLoc_ix (Bool.and_eq_true_iff.mp c).1), assignEach_names env (Bool.and_eq_true_iff.mp c).2]; rfl
  | [], _ :: _, c => Bool.noConfusion (show false = true from c)
  | _ :: _, [], c => Bool.noConfusion (show false = true from c)
theorem put_loc {X : Ck} {L : Addr} {env : Env} {A : Around} (he : EnvOk X L env) (hLB : G.C.hB.get? L = none) {φ : List Addr} {σ : AH} {ρ : En} {s : Shared} {i : Nat} {x : PySem.Expr} {v : V} {w : Value} {Q : Unit → Shared → Prop} (c : ckLoc X i x = true) (ok : Ok G.C φ σ s.heap) (lo : Loc X ρ φ s.heap L) (rv : Rel s.heap φ v w)
    (q : ∀ s', Ext [L] φ s.heap φ s'.heap → Ok G.C φ σ s'.heap → Loc X (ρ.put i v) φ s'.heap L → s'.gens = s.gens → s'.os = s.os → Q () s') : wpAny (MM G) A (assign x env w) Q NR s :=
  onName_elim c fun _ _ c => wpAny_assign_Name (store_loc he hLB ok lo (beq_iff_eq.mp (Bool.and_eq_true_iff.mp c).1) (Bool.and_eq_true_iff.mp c).2 rv q)

theorem put_names {X : Ck} {L : Addr} {env : Env} {A : Around} (he : EnvOk X L env) (hLB : G.C.hB.get? L = none) {φ : List Addr} {σ : AH} {Q : En → AH → Prop} : ∀ {is : List Nat} {xs : List PySem.Expr} {vs : List V} {ws : List Value} {ρ ρ' : En} {s : Shared}, ckNames X is xs = true → Ok G.C φ σ s.heap → Loc X ρ φ s.heap L → RelL s.heap φ vs ws → putAll is vs ρ = some ρ' → Q ρ' σ →
    wpAny (MM G) A (assignInOrder (xs.map fun t => assign t env) ws) (PostE G.C X L φ s Q) NR s := by
  intro is
  induction is with
  | nil =>
    intro xs vs ws ρ ρ' s c ok lo r e q
    cases List.isEmpty_iff.mp c
    cases vs with
    | cons => cases e
    | nil =>
      cases e; cases r
      exact assignInOrder_nil ⟨φ, σ, ρ, .refl _ _ _, ok, lo, q, rfl, rfl⟩
  | cons i is ih =>
    intro xs vs ws ρ ρ' s c ok lo r e q
    cases xs with
    | nil => exact Bool.noConfusion (show false = true from c)
    | cons x xs =>
    cases vs with
    | nil => cases e
    | cons v vs =>
      obtain ⟨c1, c2⟩ := Bool.and_eq_true_iff.mp c
      obtain ⟨w, ws, rfl, rv, r⟩ := r
      refine assignInOrder_cons (put_loc he hLB c1 ok lo rv fun s' x1 x2 x3 x5 x6 => ?_)
      exact wpAny_mono (ih (s := s') c2 x2 x3 (r.mono x1.pref (lo.tk ok x1)) e q) (fun _ _ p => p.back x1 x5 x6) fun _ _ z => z

noncomputable def SimT (G : Glo) (cf : Cf) (n : Nat) (t : T) : Prop := ∀ (X : Ck) (x : PySem.Expr), ckT G X t x = true → ∀ (L : Addr) (env : Env), EnvOk X L env → G.C.hB.get? L = none → ∀ (A : Around), AOk A (n + 1) → ∀ (s : Shared) (φ : List Addr) (σ : AH) (ρ : En), Ok G.C φ σ s.heap → Loc X ρ φ s.heap L →
  ∀ (v : V) (w : Value), Rel s.heap φ v w → ∀ Q, wT G.P cf t v ρ σ Q → wpAny (MM G) A (assign x env w) (PostE G.C X L φ s Q) NR s

theorem ckNames_len {X : Ck} : ∀ {is : List Nat} {xs : List PySem.Expr}, ckNames X is xs = true → is.length = xs.length
  | [], [], _ => rfl
  | i :: is, x :: xs, c => congrArg (· + 1) (ckNames_len (Bool.and_eq_true_iff.mp c).2)
  | [], _ :: _, c => Bool.noConfusion (show false = true from c)
  | _ :: _, [], c => Bool.noConfusion (show false = true from c)
theorem putAll_len : ∀ {is : List Nat} {vs : List V} {ρ ρ' : En}, putAll is vs ρ = some ρ' → is.length = vs.length
  | [], [], _, _, _ => rfl
  | _ :: _, _ :: _, _, _, e => by exact congrArg (· + 1) (putAll_len (show putAll _ _ _ = _ from e))
  | [], _ :: _, _, _, e => by cases e
  | _ :: _, [], _, _, e => by cases e

include hG in
theorem simT (hcf : SimCf G cf n) (t : T) : SimT G cf n t := by
  intro X x c L env he hLB A hA s φ σ ρ ok lo v w rv Q q
  cases t with
  | loc i =>
    exact put_loc he hLB c ok lo rv fun s' x1 x2 x3 x5 x6 => ⟨φ, σ, _, x1, x2, x3, q, x5, x6⟩
  | tup is =>
    refine onTuple_elim c fun xs k p c => ?_
    ·
      cases v with
      | tup vs =>
        simp only [qt_tup] at q
        split at q
        · rename_i ρ' e1
          obtain ⟨a, ws, rfl, ht, rl⟩ := rv
          have hl : xs.length = ws.size := by rw [← ckNames_len c, putAll_len e1, ← rl.length, Array.length_toList]
          have ea := assignEach_names env c
          refine assign_Tuple_tuple hA.handled ht (by rw [ea, List.length_map, hl]) (by rw [ea, List.findIdx?_map]; simp [Function.comp_def]) fun h' hx => ?_
          have x1 : Ext [L] φ s.heap φ h' := Ext.extBut hx (fresh_size _)
          have t1 := lo.tk ok x1
          have keep : ∀ b o, s.heap.get? b = some o → h'.get? b = some o := fun b o e => hx b o (fun z => by subst z; rw [fresh_size] at e; cases e) e
          have ok' : Ok G.C φ σ h' := ok.ext (fun b o e => keep b o (ok.base b o e)) t1 fun b m => by obtain ⟨ob, e, _⟩ := ok.live m; rw [e]; exact keep b ob e
          have lo' : Loc X ρ φ h' L := by
            obtain ⟨⟨m, ⟨o, es, ep, e, r⟩, q⟩, out⟩ := lo
            exact ⟨⟨m, ⟨o, es, ep, keep L o e, r⟩, fun i v z => by obtain ⟨y, w, a, b, c⟩ := q i v z; exact ⟨y, w, a, b, c.mono (List.prefix_refl _) t1⟩⟩, out⟩
          rw [ea, List.map_map]
          exact wpAny_mono (put_names (s := { s with heap := h' }) he hLB c ok' lo' (rl.mono (List.prefix_refl _) t1) e1 q) (fun _ _ p => PostE.back (s₁ := { s with heap := h' }) x1 rfl rfl p) fun _ _ z => z
        · exact q.elim
      | _ => exact (show False from q).elim
  | attr e a =>
    refine onAttribute_elim c fun x y p c => ?_
    ·
      obtain ⟨c1, c2⟩ := Bool.and_eq_true_iff.mp c
      have c2 := beq_iff_eq.mp c2
      have hla : a < attrNames.length := (List.getElem?_eq_some_iff.mp c2).1
      have c2 : y = attrName a := by unfold attrName; rw [List.getD_eq_getElem?_getD, c2]; rfl
      subst c2
      have q : wE G.P cf e ρ σ fun o σ' => match attrPut σ' o a v with | some σ'' => Q ρ σ'' | none => False := q
      show wpAny (MM G) A (do
        let ov ← holding [w] (eval x env)
        standAt p.atName
        holding [w, ov] (setAttr ov (attrName a) w)
        release [w, ov] []) _ _ _
      refine wpAny_bind (wpAny_holding (wpAny_mono ((simE hG hcf e X x c1 L env he A hA s φ σ ρ ok lo).1 _ q) (fun wo s' p => wpAny_bind (wpAny_standAt (wpAny_bind (wpAny_holding ?_)))) fun _ _ z => z))
      refine p.elim fun φ' σ' o x1 x2 x3 x4 x5 x6 => ?_
      split at x4
      · rename_i σ'' e1
        refine op_set hG x2 x3 (rv.mono x1.pref (x1.tk ok fun _ m => nomatch m)) hla e1 fun s'' p => wpAny_release ?_
        obtain ⟨y1, y2, y3, y4⟩ := p
        exact ⟨φ', σ'', ρ, ext1 (x1.trans y1), y2, (lo.ext ok x1).ext x2 y1, x4, y3.trans x5, y4.trans x6⟩
      · exact x4.elim
  | sub e i =>
    refine onSubscript_elim c fun x y p c => ?_
    ·
      obtain ⟨c1, c2⟩ := Bool.and_eq_true_iff.mp c
      have q : wE G.P cf e ρ σ fun o σ₁ => wE G.P cf i ρ σ₁ fun k σ₂ => match itemPut σ₂ o k v with | some σ₃ => Q ρ σ₃ | none => False := q
      show wpAny (MM G) A (do
        let ov ← holding [w] (eval x env)
        let iv ← holding [w, ov] (eval y env)
        standAt p
        holding [w, ov, iv] (setItem ov iv w)
        release (match (generalizing := false) y with | .Slice _ _ none _ => [iv, w, ov] | _ => [w, ov, iv]) []) _ _ _
      refine wpAny_bind (wpAny_holding (wpAny_mono ((simE hG hcf e X x c1 L env he A hA s φ σ ρ ok lo).1 _ q) (fun wo s' p => ?_) fun _ _ z => z))
      refine p.elim fun φ' σ' o x1 x2 x3 x4 x5 x6 => ?_
      refine wpAny_bind (wpAny_holding (wpAny_mono ((simE hG hcf i X y c2 L env he A hA s' φ' σ' ρ x2 (lo.ext ok x1)).1 _ x4) (fun wk s'' p => wpAny_bind (wpAny_standAt (wpAny_bind (wpAny_holding ?_)))) fun _ _ z => z))
      refine p.elim fun φ'' σ'' k y1 y2 y3 y4 y5 y6 => ?_
      have t2 := y1.tk x2 fun _ m => nomatch m
      split at y4
      · rename_i σ₃ e1
        refine item_put hA y2 (x3.mono y1.pref t2) y3 ((rv.mono x1.pref (x1.tk ok fun _ m => nomatch m)).mono y1.pref t2) e1 fun s₃ p => wpAny_release ?_
        obtain ⟨z1, z2, z3, z4⟩ := p
        exact ⟨φ'', σ₃, ρ, ext1 ((x1.trans y1).trans z1), z2, ((lo.ext ok x1).ext x2 y1).ext y2 z1, y4, z3.trans (y5.trans x5), z4.trans (y6.trans x6)⟩
      · exact y4.elim
end

end Mine
end

/-! M13 -/
noncomputable section
set_option maxHeartbeats 200000
open PyProof.Rows PySem PySem.Calls PySem.W
namespace Mine

section
variable {G : Glo} (hG : GloOk G) {cf : Cf} {n : Nat}

noncomputable def SimS (G : Glo) (cf : Cf) (n : Nat) (t : S) : Prop := ∀ (X : Ck) (x : Stmt), ckS G X t x = true → ∀ (L : Addr) (env : Env), EnvOk X L env → G.C.hB.get? L = none → ∀ (A : Around), AOk A (n + 1) → ∀ (s : Shared) (φ : List Addr) (σ : AH) (ρ : En), Ok G.C φ σ s.heap → Loc X ρ φ s.heap L →
  ∀ Q, wS G.P cf t ρ σ Q → wpAny (MM G) A (exec x env) (PostS G.C X L φ s Q) NR s
noncomputable def SimSL (G : Glo) (cf : Cf) (n : Nat) (t : SL) : Prop := ∀ (X : Ck) (x : List Stmt), ckSL G X t x = true → ∀ (L : Addr) (env : Env), EnvOk X L env → G.C.hB.get? L = none → ∀ (A : Around), AOk A (n + 1) → ∀ (s : Shared) (φ : List Addr) (σ : AH) (ρ : En), Ok G.C φ σ s.heap → Loc X ρ φ s.heap L →
  ∀ Q, wSL G.P cf t ρ σ Q → wpAny (MM G) A (execs x env) (PostS G.C X L φ s Q) NR s

theorem swaps_ix {y : PySem.Expr} {t : Option PySem.Expr} {l : Nat} {env : Env} (h : okIx y.ctorIdx = true) : swapsWith y t l env = pure false := by
  cases y <;> first | rfl | cases h
theorem ck_plain {X : Ck} {e : E} {y : PySem.Expr} {t : Option PySem.Expr} {l : Nat} {env : Env} (c : ckE G X e y = true) : swapsWith y t l env = pure false := swaps_ix (ckE_ix c)

theorem swaps_none {x y : PySem.Expr} {env : Env} (h : (notTup x || notTup y) = true) : swappedStores [x] y env = pure none := by
  cases x with
  | Tuple => cases y <;> first | rfl | cases h
  | List => cases y <;> first | rfl | cases h
  | _ => rfl

theorem each_one {X : Ck} {t : T} {x : PySem.Expr} (env : Env) (c : ckT G X t x = true) : assignEach [x] env = [(false, assign x env)] := by
  refine each_ix ?_ [] env
  have go : ∀ {k : Nat}, x.ctorIdx = k → okIx k = true → okIx x.ctorIdx = true := fun a b => a ▸ b
  cases t with
  | loc => exact go (onName_tag c) rfl
  | tup => exact go (onTuple_tag c) rfl
  | attr => exact go (onAttribute_tag c) rfl
  | sub => exact go (onSubscript_tag c) rfl

theorem Assign_go {M : Model} {A : Around} {E : Value → Shared → Prop} {s : Shared} {env : Env} {x y : PySem.Expr} {pos : Pos} {Q : Flow → Shared → Prop} (h1 : swapsWith y (some x) pos.line env = pure false) (h2 : swappedStores [x] y env = pure none) (h3 : assignEach [x] env = [(false, assign x env)])
    (h : wpAny M A (eval y env) (fun v s₁ => wpAny M A (assign x env v) (fun _ => Q .next) E s₁) E s) : wpAny M A (exec (.Assign [x] y pos) env) Q E s := by
  rw [exec_Assign]
  refine wpAny_bind (wpAny_standAt ?_)
  rw [show swapsWithSole [x] y pos.line env = pure false from h1]
  refine wpAny_bind (wpAny_pure ?_)
  rw [if_neg (by decide)]
  refine wpAny_bind (wpAny_mono h (fun v s₁ h₁ => ?_) fun _ _ x => x)
  rw [h2]
  refine wpAny_bind (wpAny_pure ?_)
  rw [h3]
  show wpAny M A (do assignAll v [assign x env]; pure .next) Q E s₁
  exact wpAny_bind (wpAny_mono h₁ (fun _ _ x => wpAny_pure x) fun _ _ x => x)

include hG in
theorem sim_assign (hcf : SimCf G cf n) {t : T} {e : E} : SimS G cf n (.assign t e) := by
  intro X x c L env he hLB A hA s φ σ ρ ok lo Q q
  refine atAssign_elim c fun xs y pos c => ?_
  ·
    cases xs with
    | nil => exact Bool.noConfusion (show false = true from c)
    | cons x xs =>
      have c : (xs.isEmpty && ckT G X t x && ckE G X e y && (notTup x || notTup y)) = true := c
      obtain ⟨c, c3⟩ := Bool.and_eq_true_iff.mp c
      obtain ⟨c, c2⟩ := Bool.and_eq_true_iff.mp c
      obtain ⟨c, c1⟩ := Bool.and_eq_true_iff.mp c
      cases List.isEmpty_iff.mp c
      have q : wE G.P cf e ρ σ fun v σ' => wT G.P cf t v ρ σ' (Q .next) := q
      refine Assign_go (ck_plain c2) (swaps_none c3) (each_one env c1) (wpAny_mono ((simE hG hcf e X y c2 L env he A hA s φ σ ρ ok lo).1 _ q) (fun w s' p => ?_) fun _ _ z => z)
      refine p.elim fun φ' σ' v x1 x2 x3 x4 x5 x6 => ?_
      refine wpAny_mono (simT hG hcf t X x c1 L env he hLB A hA s' φ' σ' ρ x2 (lo.ext ok x1) v w x3 _ x4) (fun _ s'' p => ?_) fun _ _ z => z
      refine p.elim fun φ'' σ'' ρ'' y1 y2 y3 y4 y5 y6 => ?_
      exact ⟨φ'', σ'', ρ'', .next, (ext1 x1).trans y1, y2, y3, .next, y4, y5.trans x5, y6.trans x6⟩

include hG in
theorem sim_augLoc (hcf : SimCf G cf n) {i : Nat} {op : Bo} {e : E} : SimS G cf n (.augLoc i op e) := by
  intro X x c L env he hLB A hA s φ σ ρ ok lo Q q
  refine atAugAssign_elim c fun x o y pos c => ?_
  have c : (ckLoc X i x && ckAug op o && ckE G X e y) = true := c
  obtain ⟨c, c4⟩ := Bool.and_eq_true_iff.mp c
  obtain ⟨c, c3⟩ := Bool.and_eq_true_iff.mp c
  refine onName_elim c fun x p c => ?_
  ·
      obtain ⟨c1, c2⟩ := Bool.and_eq_true_iff.mp c
      simp only [qs_augLoc] at q
      split at q
      · rename_i v e1
        obtain ⟨m, hn, hm⟩ := lo.ns
        obtain ⟨y', w, b1, b2, b3⟩ := hm i v e1
        have : y' = x := Option.some.inj (b1.symm.trans (beq_iff_eq.mp c1))
        subst this
        refine wpAny_AugAssign_Name (wpAny_loadName_local (m := m) (by rw [he.sc]; exact he.kind) (ckName_of he c2).1 (by rw [he.loc]; exact hn) b2 ?_)
        refine wpAny_mono ((simE hG hcf e X y c4 L env he A hA s φ σ ρ ok lo).1 _ q) (fun w2 s' p => ?_) fun _ _ z => z
        refine p.elim fun φ' σ' v2 x1 x2 x3 x4 x5 x6 => ?_
        split at x4
        · rename_i r e2
          refine wpAny_mono (aug_op (Q := fun v σ'' => v = r ∧ σ'' = σ') x2 c3 (b3.mono x1.pref (x1.tk ok fun _ m => nomatch m)) x3 e2 ⟨rfl, rfl⟩) (fun w3 s'' p => ?_) fun _ _ z => z
          refine p.elim fun φ'' σ'' v3 y1 y2 y3 xq y5 y6 => ?_
          obtain ⟨rfl, rfl⟩ := xq
          exact store_loc he hLB y2 ((lo.ext ok x1).ext x2 y1) (beq_iff_eq.mp c1) c2 y3 fun s₃ z1 z2 z3 z5 z6 => ⟨φ'', _, _, .next, (ext1 (x1.trans y1)).trans z1, z2, z3, .next, x4, z5.trans (y5.trans x5), z6.trans (y6.trans x6)⟩
        · exact x4.elim
      · exact q.elim

theorem aug_sub {y : PySem.Expr} {ov iv new : Value} (h : notSlice y = true) : augStore y ov iv new = (do holding [new, ov, iv] (setItem ov iv new); release [new, ov, iv] []; pure .next) := by
  cases y <;> first | rfl | cases h
include hG in
theorem sim_augSub (hcf : SimCf G cf n) {e i r : E} {op : Bo} : SimS G cf n (.augSub e i op r) := by
  intro X x c L env he hLB A hA s φ σ ρ ok lo Q q
  refine atAugAssign_elim c fun x o z pos c => ?_
  refine onSubscript_elim c fun x y p c => ?_
  ·
      have c : (ckE G X e x && ckE G X i y && notSlice y && ckAug op o && ckE G X r z) = true := c
      obtain ⟨c, c5⟩ := Bool.and_eq_true_iff.mp c
      obtain ⟨c, c4⟩ := Bool.and_eq_true_iff.mp c
      obtain ⟨c, c3⟩ := Bool.and_eq_true_iff.mp c
      obtain ⟨c1, c2⟩ := Bool.and_eq_true_iff.mp c
      have q : wE G.P cf e ρ σ fun o σ₁ => wE G.P cf i ρ σ₁ fun k σ₂ => match itemAt σ₂ o k with
        | some x => wE G.P cf r ρ σ₂ fun y σ₃ => match binV op x y with
          | some v => (match itemPut σ₃ o k v with | some σ₄ => Q .next ρ σ₄ | none => False)
          | none => False
        | none => False := q
      refine wpAny_AugAssign_Subscript_any (wpAny_mono ((simE hG hcf e X x c1 L env he A hA s φ σ ρ ok lo).1 _ q) (fun w s' p => ?_) fun _ _ z => z) (fun _ _ _ => aug_sub c3)
      refine p.elim fun φ' σ' v x1 x2 x3 x4 x5 x6 => ?_
      have lo1 := lo.ext ok x1
      refine wpAny_mono ((simE hG hcf i X y c2 L env he A hA s' φ' σ' ρ x2 lo1).1 _ x4) (fun w2 s'' p => ?_) fun _ _ z => z
      refine p.elim fun φ'' σ'' k y1 y2 y3 y4 y5 y6 => ?_
      have lo2 := lo1.ext x2 y1
      have t2 := y1.tk x2 fun _ m => nomatch m
      split at y4
      · rename_i old e1
        refine wpAny_mono (item_get (Q := fun v σ₃ => v = old ∧ σ₃ = σ'') hA y2 (x3.mono y1.pref t2) y3 e1 ⟨rfl, rfl⟩) (fun w3 s₃ p => ?_) fun _ _ z => z
        refine p.elim fun φ₃ σ₃ v3 z1 z2 z3 xq z5 z6 => ?_
        obtain ⟨rfl, rfl⟩ := xq
        have lo3 := lo2.ext y2 z1
        have t3 := z1.tk y2 fun _ m => nomatch m
        refine wpAny_mono ((simE hG hcf r X z c5 L env he A hA s₃ φ₃ _ ρ z2 lo3).1 _ y4) (fun w4 s₄ p => ?_) fun _ _ z => z
        refine p.elim fun φ₄ σ₄ v4 a1 a2 a3 a4 a5 a6 => ?_
        have lo4 := lo3.ext z2 a1
        have t4 := a1.tk z2 fun _ m => nomatch m
        split at a4
        · rename_i nv e2
          refine wpAny_mono (aug_op (Q := fun v σ₅ => v = nv ∧ σ₅ = σ₄) a2 c4 (z3.mono a1.pref t4) a3 e2 ⟨rfl, rfl⟩) (fun w5 s₅ p => ?_) fun _ _ z => z
          refine p.elim fun φ₅ σ₅ v5 b1 b2 b3 xq b5 b6 => ?_
          obtain ⟨rfl, rfl⟩ := xq
          have lo5 := lo4.ext a2 b1
          have t5 := b1.tk a2 fun _ m => nomatch m
          split at a4
          · rename_i σ₆ e3
            have r1 : Rel s₅.heap φ₅ v w := (((x3.mono y1.pref t2).mono z1.pref t3).mono a1.pref t4).mono b1.pref t5
            have r2 : Rel s₅.heap φ₅ k w2 := ((y3.mono z1.pref t3).mono a1.pref t4).mono b1.pref t5
            refine item_put hA b2 r1 r2 b3 e3 fun s₆ p => ?_
            obtain ⟨d1, d2, d3, d4⟩ := p
            exact ⟨φ₅, σ₆, ρ, .next, ext1 (((((x1.trans y1).trans z1).trans a1).trans b1).trans d1), d2, lo5.ext b2 d1, .next, a4, d3.trans (b5.trans (a5.trans (z5.trans (y5.trans x5)))), d4.trans (b6.trans (a6.trans (z6.trans (y6.trans x6))))⟩
          · exact a4.elim
        · exact a4.elim
      · exact y4.elim

include hG in
theorem sim_expr (hcf : SimCf G cf n) {e : E} : SimS G cf n (.expr e) := by
  intro X x c L env he hLB A hA s φ σ ρ ok lo Q q
  refine atExpr_elim c fun x pos c => ?_
  ·
    have q : wE G.P cf e ρ σ fun _ σ' => Q .next ρ σ' := q
    refine wpAny_Expr_any (wpAny_mono ((simE hG hcf e X x c L env he A hA s φ σ ρ ok lo).1 _ q) (fun w s' p => ?_) fun _ _ z => z) (by unfold interactive; rw [he.sc, he.kind]; rfl) (ck_plain c)
    refine p.elim fun φ' σ' v x1 x2 x3 x4 x5 x6 => ?_
    exact ⟨φ', σ', ρ, .next, ext1 x1, x2, lo.ext ok x1, .next, x4, x5, x6⟩

include hG in
theorem sim_ret (hcf : SimCf G cf n) {e : E} : SimS G cf n (.ret e) := by
  intro X x c L env he hLB A hA s φ σ ρ ok lo Q q
  refine atReturn_elim c fun x pos c => ?_
  ·
    cases x with
    | none => exact Bool.noConfusion (show false = true from c)
    | some x =>
      have c : ckE G X e x = true := c
      have q : wE G.P cf e ρ σ fun v σ' => Q (.ret v) ρ σ' := q
      refine wpAny_Return_some (wpAny_mono ((simE hG hcf e X x c L env he A hA s φ σ ρ ok lo).1 _ q) (fun w s' p => ?_) fun _ _ z => z)
      refine p.elim fun φ' σ' v x1 x2 x3 x4 x5 x6 => ?_
      exact ⟨φ', σ', ρ, .ret v, ext1 x1, x2, lo.ext ok x1, .ret x3, x4, x5, x6⟩
theorem sim_retN : SimS G cf n .retN := by
  intro X x c L env he hLB A hA s φ σ ρ ok lo Q q
  refine atReturn_elim c fun x pos c => ?_
  ·
    cases x with
    | some => exact Bool.noConfusion (show false = true from c)
    | none => exact wpAny_Return_none ⟨φ, σ, ρ, .ret .none, .refl _ _ _, ok, lo, .ret rfl, q, rfl, rfl⟩
theorem sim_cont : SimS G cf n .cont := by
  intro X x c L env he hLB A hA s φ σ ρ ok lo Q q
  exact atContinue_elim c fun pos _ => wpAny_Continue ⟨φ, σ, ρ, .cont, .refl _ _ _, ok, lo, .cont, q, rfl, rfl⟩
theorem sim_pass : SimS G cf n .pass := by
  intro X x c L env he hLB A hA s φ σ ρ ok lo Q q
  exact atPass_elim c fun pos _ => wpAny_Pass ⟨φ, σ, ρ, .next, .refl _ _ _, ok, lo, .next, q, rfl, rfl⟩

include hG in
theorem sim_ite (hcf : SimCf G cf n) {e : E} {a b : SL} (ih : SimSL G cf n a) (ih2 : SimSL G cf n b) : SimS G cf n (.ite e a b) := by
  intro X x c L env he hLB A hA s φ σ ρ ok lo Q q
  refine atIf_elim c fun x y z pos c => ?_
  ·
    have c : (ckE G X e x && ckSL G X a y && ckSL G X b z) = true := c
    obtain ⟨c, c3⟩ := Bool.and_eq_true_iff.mp c
    obtain ⟨c1, c2⟩ := Bool.and_eq_true_iff.mp c
    have q : wE G.P cf e ρ σ fun v σ' => match v with | .bool t => (if t = true then wSL G.P cf a ρ σ' Q else wSL G.P cf b ρ σ' Q) | _ => False := q
    refine wpAny_If (wpAny_mono ((simE hG hcf e X x c1 L env he A hA s φ σ ρ ok lo).2 (fun t σ' => if t = true then wSL G.P cf a ρ σ' Q else wSL G.P cf b ρ σ' Q) q) (fun t s' p => ?_) fun _ _ z => z)
    refine p.elim fun φ' σ' x1 x2 x4 x5 x6 => ?_
    split
    · rename_i ht
      rw [if_pos ht] at x4
      exact wpAny_mono (ih X y c2 L env he hLB A hA s' φ' σ' ρ x2 (lo.ext ok x1) Q x4) (fun _ _ p => p.back (ext1 x1) x5 x6) fun _ _ z => z
    · rename_i ht
      rw [if_neg ht] at x4
      exact wpAny_mono (ih2 X z c3 L env he hLB A hA s' φ' σ' ρ x2 (lo.ext ok x1) Q x4) (fun _ _ p => p.back (ext1 x1) x5 x6) fun _ _ z => z

theorem simSL_nil : SimSL G cf n .nil := by
  intro X x c L env he hLB A hA s φ σ ρ ok lo Q q
  cases x with
  | nil => exact wpAny_execs_nil ⟨φ, σ, ρ, .next, .refl _ _ _, ok, lo, .next, q, rfl, rfl⟩
  | cons => exact Bool.noConfusion (show false = true from c)
theorem simSL_cons {t : S} {ts : SL} (ih : SimS G cf n t) (ih2 : SimSL G cf n ts) : SimSL G cf n (.cons t ts) := by
  intro X x c L env he hLB A hA s φ σ ρ ok lo Q q
  cases x with
  | nil => exact Bool.noConfusion (show false = true from c)
  | cons x xs =>
    have c : (ckS G X t x && ckSL G X ts xs) = true := c
    obtain ⟨c1, c2⟩ := Bool.and_eq_true_iff.mp c
    have q : wS G.P cf t ρ σ fun f ρ' σ' => match f with | .next => wSL G.P cf ts ρ' σ' Q | f => Q f ρ' σ' := q
    refine wpAny_execs_cons (wpAny_mono (ih X x c1 L env he hLB A hA s φ σ ρ ok lo _ q) (fun f s' p => ?_) fun _ _ z => z)
    refine p.elim fun φ' σ' ρ' fl x1 x2 x3 x4 x5 x6 x7 => ?_
    cases x4 with
    | next => exact wpAny_mono (ih2 X xs c2 L env he hLB A hA s' φ' σ' ρ' x2 x3 Q x5) (fun _ _ p => p.back x1 x6 x7) fun _ _ z => z
    | cont => exact ⟨φ', σ', ρ', .cont, x1, x2, x3, .cont, x5, x6, x7⟩
    | ret r => exact ⟨φ', σ', ρ', _, x1, x2, x3, .ret r, x5, x6, x7⟩

include hG in
theorem sim_while (hcf : SimCf G cf n) {e : E} {b : SL} (ih : SimSL G cf n b) : SimS G cf n (.while e b) := by
  intro X x c L env he hLB A hA s φ σ ρ ok lo Q q
  refine atWhile_elim c fun x y z pos c => ?_
  ·
      have c : (z.isEmpty && ckE G X e x && ckSL G X b y) = true := c
      obtain ⟨c, c2⟩ := Bool.and_eq_true_iff.mp c
      obtain ⟨c, c1⟩ := Bool.and_eq_true_iff.mp c
      cases List.isEmpty_iff.mp c
      obtain ⟨k, q⟩ : ∃ k, whileGo (wE G.P cf e) (wSL G.P cf b) k ρ σ Q := q
      refine wpAny_While (codeAny_whileLoop (fun k s' => ∃ φ' σ' ρ', Ext [L] φ s.heap φ' s'.heap ∧ Ok G.C φ' σ' s'.heap ∧ Loc X ρ' φ' s'.heap L ∧ whileGo (wE G.P cf e) (wSL G.P cf b) k ρ' σ' Q ∧ s'.gens = s.gens ∧ s'.os = s.os) ?_ k ⟨φ, σ, ρ, .refl _ _ _, ok, lo, q, rfl, rfl⟩)
      rintro k s' ⟨φ', σ', ρ', x1, x2, x3, x4, x5, x6⟩
      cases k with
      | zero => exact (show False from x4).elim
      | succ k =>
        have x4 : wE G.P cf e ρ' σ' fun v σ' => match v with | .bool t => (if t = true then wSL G.P cf b ρ' σ' (fun f ρ' σ'' => match f with | .ret u => Q (.ret u) ρ' σ'' | _ => whileGo (wE G.P cf e) (wSL G.P cf b) k ρ' σ'' Q) else Q .next ρ' σ') | _ => False := x4
        refine wpAny_mono ((simE hG hcf e X x c1 L env he A hA s' φ' σ' ρ' x2 x3).2 (fun t σ' => if t = true then wSL G.P cf b ρ' σ' (fun f ρ' σ'' => match f with | .ret u => Q (.ret u) ρ' σ'' | _ => whileGo (wE G.P cf e) (wSL G.P cf b) k ρ' σ'' Q) else Q .next ρ' σ') x4) (fun t s'' p => ?_) fun _ _ z => z.elim
        refine p.elim fun φ'' σ'' y1 y2 y4 y5 y6 => ?_
        have lo2 := x3.ext x2 y1
        split
        · rename_i ht
          rw [if_pos ht] at y4
          refine wpAny_mono (ih X y c2 L env he hLB A hA s'' φ'' σ'' ρ' y2 lo2 _ y4) (fun f s₃ p => ?_) fun _ _ z => z.elim
          refine p.elim fun φ₃ σ₃ ρ₃ fl z1 z2 z3 z4 z5 z6 z7 => ?_
          have xx : Ext [L] φ s.heap φ₃ s₃.heap := (x1.trans (ext1 y1)).trans z1
          cases z4 with
          | next => exact ⟨k, Nat.lt_succ_self k, φ₃, σ₃, ρ₃, xx, z2, z3, z5, z6.trans (y5.trans x5), z7.trans (y6.trans x6)⟩
          | cont => exact ⟨k, Nat.lt_succ_self k, φ₃, σ₃, ρ₃, xx, z2, z3, z5, z6.trans (y5.trans x5), z7.trans (y6.trans x6)⟩
          | ret r => exact ⟨φ₃, σ₃, ρ₃, _, xx, z2, z3, .ret r, z5, z6.trans (y5.trans x5), z7.trans (y6.trans x6)⟩
        · rename_i ht
          rw [if_neg ht] at y4
          exact wpAny_execs_nil ⟨φ'', σ'', ρ', .next, x1.trans (ext1 y1), y2, lo2, .next, y4, y5.trans x5, y6.trans x6⟩
end

end Mine
end

/-! M14 -/
noncomputable section
set_option maxHeartbeats 200000
open PyProof.Rows PySem PySem.Calls PySem.W
namespace Mine

theorem upFrom_len (a st : Int) : ∀ k, (upFrom a st k).length = k
  | 0 => rfl
  | k + 1 => by rw [upFrom, List.length_cons, upFrom_len]

noncomputable def ItAt (it : Addr) (src : Src) (all : List V) (φ : List Addr) (h : Heap) (j : Nat) : Prop := match src with
  | .tup _ => ∃ a ws, IsTupIter h it a j ∧ IsTup h a ws ∧ RelL h φ all ws.toList
  | .list o => ∃ a, φ[o]? = some a ∧ h.IsListIter it a j
  | .range => ∃ x st, IsRangeIter h it x ((all.length : Int) - (j : Int)) st ∧ all.drop j = upFrom x st (all.length - j)

theorem ItAt.notTup {it : Addr} {src : Src} {all : List V} {φ : List Addr} {h : Heap} {j : Nat} (x : ItAt it src all φ h j) (ws : Array Value) : ¬ IsTup h it ws := by
  rintro ⟨o, e, c, _⟩
  cases src with
  | tup _ => obtain ⟨a, ws, ⟨o', e', c', _⟩, _⟩ := x; rw [e] at e'; cases e'; rw [c] at c'; simp at c'
  | list _ => obtain ⟨a, _, ⟨o', e', c', _⟩⟩ := x; rw [e] at e'; cases e'; rw [c] at c'; simp at c'
  | range => obtain ⟨x, st, e', _⟩ := x; have e' : h.get? it = some _ := e'; rw [e] at e'; cases e'; simp at c
theorem ItAt.live {it : Addr} {src : Src} {all : List V} {φ : List Addr} {h : Heap} {j : Nat} (x : ItAt it src all φ h j) : h.get? it ≠ none := by
  cases src with
  | tup _ => obtain ⟨a, ws, ⟨o', e', c', _⟩, _⟩ := x; rw [e']; simp
  | list _ => obtain ⟨a, _, ⟨o', e', c', _⟩⟩ := x; rw [e']; simp
  | range => obtain ⟨x, st, e', _⟩ := x; have e' : h.get? it = some _ := e'; rw [e']; simp

theorem ItAt.carry {it : Addr} {src : Src} {all : List V} {φ φ' : List Addr} {h h' : Heap} {j : Nat} (x : ItAt it src all φ h j) (p : φ <+: φ') (t : TK h h') (k : ∀ o, h.get? it = some o → h'.get? it = some o) : ItAt it src all φ' h' j := by
  cases src with
  | tup _ => obtain ⟨a, ws, ⟨o', e', c'⟩, ht, rl⟩ := x; exact ⟨a, ws, ⟨o', k _ e', c'⟩, t _ _ ht, rl.mono p t⟩
  | list _ => obtain ⟨a, ea, ⟨o', e', c'⟩⟩ := x; exact ⟨a, prefix_get p ea, ⟨o', k _ e', c'⟩⟩
  | range => obtain ⟨x, st, e', r⟩ := x; exact ⟨x, st, k _ e', r⟩

theorem TK.sameBut {it : Addr} {h h' : Heap} (n : ∀ ws, ¬ IsTup h it ws) (hs : Heap.SameBut it h h') : TK h h' := fun a ws t => by
  have : a ≠ it := fun e => n ws (e ▸ t)
  obtain ⟨o, e, r⟩ := t
  exact ⟨o, (hs.2 a this).trans e, r⟩
theorem TK.extBut {it : Addr} {h h' : Heap} (n : ∀ ws, ¬ IsTup h it ws) (hs : Heap.ExtBut it h h') : TK h h' := fun a ws t => by
  have : a ≠ it := fun e => n ws (e ▸ t)
  obtain ⟨o, e, r⟩ := t
  exact ⟨o, hs a o this e, r⟩

section
variable {G : Glo} (hG : GloOk G) {cf : Cf} {n : Nat}

theorem it_next {A : Around} {it : Addr} {src : Src} {all : List V} {φ : List Addr} {σ : AH} {s : Shared} {j : Nat} {v : V} (hI : ItAt it src all φ s.heap j) (st : stays σ all src) (ok : Ok G.C φ σ s.heap) (e : all[j]? = some v) {Q : Option Value → Shared → Prop} {E : Value → Shared → Prop}
    (q : ∀ w h' tk, Heap.SameBut it s.heap h' → ItAt it src all φ h' (j + 1) → Rel h' φ v w → Q (some w) { s with heap := h', toks := tk }) : wpAny (MM G) A (pyNext (.ref it)) Q E s := by
  have nt := hI.notTup
  cases src with
  | tup _ =>
    obtain ⟨a, ws, hit, ht, rl⟩ := hI
    obtain ⟨w, e2, rw'⟩ := rl.get' e
    refine next_tuple_item hit ht e2 fun h' hit' hs => ?_
    have t := TK.sameBut nt hs
    exact q w h' s.toks hs ⟨a, ws, hit', t _ _ ht, rl.mono (List.prefix_refl _) t⟩ (rw'.mono (List.prefix_refl _) t)
  | list o =>
    obtain ⟨a, ea, hit⟩ := hI
    obtain ⟨b, eb, ws, m, hl, rl⟩ := ok.obj o _ st
    rw [ea] at eb; cases eb
    obtain ⟨w, e2, rw'⟩ := rl.get' e
    refine wpAny_pyNext_list_item hit (PySem.IsL.isList (n := m) hl) e2 fun h' hit' hs => ?_
    have t := TK.sameBut nt hs
    exact q w h' s.toks hs ⟨a, ea, hit'⟩ (rw'.mono (List.prefix_refl _) t)
  | range =>
    obtain ⟨x, stp, hit, hd⟩ := hI
    have hj : j < all.length := (List.getElem?_eq_some_iff.mp e).1
    refine wpAny_pyNext_range_item hit (by omega) fun h' hit' hs => ?_
    have e1 : all.length - j = (all.length - (j + 1)) + 1 := by omega
    rw [e1, List.drop_eq_getElem_cons hj, upFrom] at hd
    injection hd with hd1 hd2
    have hv : v = .int x := by
      have := (List.getElem?_eq_some_iff.mp e).2
      rw [← this, hd1]
    subst hv
    refine q _ h' (s.toks + 1) hs ⟨x + stp, stp, ?_, hd2⟩ ⟨_, rfl⟩
    have : ((all.length : Int) - ((j + 1 : Nat) : Int)) = (all.length : Int) - (j : Int) - 1 := by omega
    rw [this]; exact hit'

theorem it_end {A : Around} (hh : A.handled = none) {it : Addr} {src : Src} {all : List V} {φ : List Addr} {σ : AH} {s : Shared} {j : Nat} (hI : ItAt it src all φ s.heap j) (st : stays σ all src) (ok : Ok G.C φ σ s.heap) (e : j = all.length) {Q : Option Value → Shared → Prop} {E : Value → Shared → Prop}
    (q : ∀ h', Heap.ExtBut it s.heap h' → Q none { s with heap := h' }) : wpAny (MM G) A (pyNext (.ref it)) Q E s := by
  cases src with
  | tup _ =>
    obtain ⟨a, ws, hit, ht, rl⟩ := hI
    have hl : ws.size = all.length := by have := rl.length; simpa using this
    exact next_tuple_end hh hit ht (Array.getElem?_eq_none (by omega)) q
  | list o =>
    obtain ⟨a, ea, hit⟩ := hI
    obtain ⟨b, eb, ws, m, hl, rl⟩ := ok.obj o _ st
    rw [ea] at eb; cases eb
    have hs : ws.size = all.length := by have := rl.length; simpa using this
    exact wpAny_pyNext_list_end hh hit (PySem.IsL.isList (n := m) hl) (Array.getElem?_eq_none (by omega)) q
  | range =>
    obtain ⟨x, stp, hit, hd⟩ := hI
    exact wpAny_pyNext_range_end hh hit (by omega) q

theorem for_core {X : Ck} {L : Addr} {env : Env} (he : EnvOk X L env) (hLB : G.C.hB.get? L = none) {A : Around} (hA : AOk A (n + 1)) {b : SL} (ih : SimSL G cf n b) {bs : List Stmt} (cb : ckSL G X b bs = true) {x : PySem.Str} {p : Pos} {i : Nat} (hx : X.names[i]? = some x) (hk : ckName X .local x = true)
    {s₀ s : Shared} {φ₀ φ : List Addr} {σ : AH} {ρ : En} {it : Addr} {src : Src} {all : List V} {Q : Fl → En → AH → Prop} (x0 : Ext [L] φ₀ s₀.heap φ s.heap) (ok : Ok G.C φ σ s.heap) (lo : Loc X ρ φ s.heap L) (fr : s₀.heap.get? it = none) (itφ : it ∉ φ) (itB : G.C.hB.get? it = none) (itL : it ≠ L)
    (hI : ItAt it src all φ s.heap 0) (q : forGo all src (wT G.P cf (.loc i)) (wSL G.P cf b) all ρ σ Q) (g0 : s.gens = s₀.gens) (o0 : s.os = s₀.os) :
    codeAny (MM G) A (.forLoop (.Name x p) (.ref it) bs [] env) (fun r s' => match r with | .ok f => PostS G.C X L φ₀ s₀ Q f s' | .error e => cameBackBy (MM G) A env NR e s') s := by
  refine codeAny_forLoop (fun k s' => ∃ φ' σ' ρ' j, Ext [L, it] φ₀ s₀.heap φ' s'.heap ∧ Ok G.C φ' σ' s'.heap ∧ Loc X ρ' φ' s'.heap L ∧ it ∉ φ' ∧ ItAt it src all φ' s'.heap j ∧ forGo all src (wT G.P cf (.loc i)) (wSL G.P cf b) (all.drop j) ρ' σ' Q ∧ j ≤ all.length ∧ k = all.length - j ∧ s'.gens = s₀.gens ∧ s'.os = s₀.os)
    ?_ all.length ⟨φ, σ, ρ, 0, x0.weak (fun a m => by simp at m; simp [m]), ok, lo, itφ, hI, q, Nat.zero_le _, rfl, g0, o0⟩
  rintro k s' ⟨φ', σ', ρ', j, x1, x2, x3, x4, x5, x6, x7, x8, x9, x10⟩
  have nt := x5.notTup
  have lve := x5.live
  have strong : ∀ {φ'' : List Addr} {h'' : Heap}, Ext [L, it] φ₀ s₀.heap φ'' h'' → Ext [L] φ₀ s₀.heap φ'' h'' := fun y => y.strong fun a m => by
    simp only [List.mem_cons, List.not_mem_nil, or_false] at m
    rcases m with rfl | rfl
    · exact .inl (by simp)
    · exact .inr fr
  have okk : ∀ {h' : Heap}, (∀ a o, a ≠ it → s'.heap.get? a = some o → h'.get? a = some o) → TK s'.heap h' → Ok G.C φ' σ' h' := fun hk t => x2.ext (fun b o e => hk b o (fun z => by rw [z, itB] at e; cases e) (x2.base b o e)) t fun a m => by
    obtain ⟨ob, e, _⟩ := x2.live m
    rw [e]; exact hk a ob (fun z => x4 (z ▸ m)) e
  have lok : ∀ {h' : Heap}, (∀ a o, a ≠ it → s'.heap.get? a = some o → h'.get? a = some o) → TK s'.heap h' → Loc X ρ' φ' h' L := fun hk t => by
    obtain ⟨⟨m, ⟨o, es, ep, e, r⟩, q⟩, out⟩ := x3
    exact ⟨⟨m, ⟨o, es, ep, hk L o (Ne.symm itL) e, r⟩, fun i v z => by obtain ⟨y, w, a, b, c⟩ := q i v z; exact ⟨y, w, a, b, c.mono (List.prefix_refl _) t⟩⟩, out⟩
  by_cases hj : j < all.length
  · rw [List.drop_eq_getElem_cons hj] at x6
    obtain ⟨st, x6⟩ := x6
    have x6 : wSL G.P cf b (ρ'.put i all[j]) σ' (fun f ρ'' σ'' => match f with | .ret u => Q (.ret u) ρ'' σ'' | _ => forGo all src (wT G.P cf (.loc i)) (wSL G.P cf b) (all.drop (j + 1)) ρ'' σ'' Q) := x6
    refine it_next x5 st x2 (List.getElem?_eq_getElem hj) fun w h' tk hs hI' rw' => ?_
    have t := TK.sameBut nt hs
    have hkp : ∀ a o, a ≠ it → s'.heap.get? a = some o → h'.get? a = some o := fun a o ne e => (hs.2 a ne).trans e
    have y1 : Ext [L, it] φ' s'.heap φ' h' := Ext.sameBut hs (.inr (by simp)) hI'.live
    refine wpAny_assign_Name (store_loc (s := { s' with heap := h', toks := tk }) he hLB (okk hkp t) (lok hkp t) hx hk rw' fun s₂ z1 z2 z3 z5 z6 => ?_)
    refine wpAny_mono (ih X bs cb L env he hLB A hA s₂ φ' σ' _ z2 z3 _ x6) (fun f s₃ p => ?_) fun _ _ z => z.elim
    refine p.elim fun φ₃ σ₃ ρ₃ fl a1 a2 a3 a4 a5 a6 a7 => ?_
    have w1 : Ext [L, it] φ₀ s₀.heap φ₃ s₃.heap := ((x1.trans y1).trans (z1.weak fun a m => by simp at m; simp [m])).trans (a1.weak fun a m => by simp at m; simp [m])
    have w2 : ItAt it src all φ' s₂.heap (j + 1) := hI'.carry (List.prefix_refl _) ((lok hkp t).tk (okk hkp t) z1) fun o e => z1.keep it o x4 (by simp [itL]) e
    have w3 : ItAt it src all φ₃ s₃.heap (j + 1) := w2.carry a1.pref (z3.tk z2 a1) fun o e => a1.keep it o x4 (by simp [itL]) e
    have w4 : it ∉ φ₃ := by
      obtain ⟨ψ, e1, e2⟩ := a1.pre
      rw [e1]
      intro m
      rcases List.mem_append.mp m with m | m
      · exact x4 m
      · exact w2.live (e2 it m)
    cases a4 with
    | next => exact ⟨all.length - (j + 1), by omega, φ₃, σ₃, ρ₃, j + 1, w1, a2, a3, w4, w3, a5, by omega, rfl, a6.trans (z5.trans x9), a7.trans (z6.trans x10)⟩
    | cont => exact ⟨all.length - (j + 1), by omega, φ₃, σ₃, ρ₃, j + 1, w1, a2, a3, w4, w3, a5, by omega, rfl, a6.trans (z5.trans x9), a7.trans (z6.trans x10)⟩
    | ret r => exact ⟨φ₃, σ₃, ρ₃, _, strong w1, a2, a3, .ret r, a5, a6.trans (z5.trans x9), a7.trans (z6.trans x10)⟩
  · have hj' : j = all.length := by omega
    rw [List.drop_eq_nil_of_le (by omega)] at x6
    obtain ⟨st, x6⟩ := x6
    refine it_end hA.handled x5 st x2 hj' fun h' hs => wpAny_execs_nil ?_
    have t := TK.extBut nt hs
    have hkp : ∀ a o, a ≠ it → s'.heap.get? a = some o → h'.get? a = some o := fun a o ne e => hs a o ne e
    have w := strong x1
    refine ⟨φ', σ', ρ', .next, ⟨w.pre, fun a o m m' e => ?_, fun a m e => ?_⟩, okk hkp t, lok hkp t, .next, x6, x9, x10⟩
    · exact hkp a o (fun z => by rw [z, fr] at e; cases e) (w.keep a o m m' e)
    · obtain ⟨o, e2⟩ := Option.ne_none_iff_exists'.mp (w.alive e)
      rw [hkp a o (fun z => by rw [z] at e; exact e fr) e2]; simp

theorem wS_for {i : Nat} {e : E} {b : SL} {ρ : En} {σ : AH} {Q : Fl → En → AH → Prop} (q : wS G.P cf (.for_ (.loc i) e b) ρ σ Q) :
    (∃ es, e = .blt 1 es ∧ wL G.P cf es ρ σ fun vs σ' => match rangeV vs with | some items => forGo items .range (wT G.P cf (.loc i)) (wSL G.P cf b) items ρ σ' Q | none => False) ∨
    wE G.P cf e ρ σ fun v σ' => match iterV σ' v with | some (items, src) => forGo items src (wT G.P cf (.loc i)) (wSL G.P cf b) items ρ σ' Q | none => False := by
  cases e with
  | blt k es =>
    rcases k with _ | _ | k
    · exact .inr q
    · exact .inl ⟨es, rfl, q⟩
    · exact .inr q
  | _ => exact .inr q

/-- what a for's loop gives, from its iterator on -/
noncomputable def ForEnd (G : Glo) (A : Around) (X : Ck) (L : Addr) (env : Env) (φ : List Addr) (s : Shared) (Q : Fl → En → AH → Prop) (x : PySem.Str) (p : Pos) (bs : List Stmt) : Value → Shared → Prop := fun it s₂ =>
  codeAny (MM G) A (.forLoop (.Name x p) it bs [] env) (fun r s' => match r with | .ok f => PostS G.C X L φ s Q f s' | .error e => cameBackBy (MM G) A env NR e s') s₂

theorem for_start {X : Ck} {L : Addr} {env : Env} (he : EnvOk X L env) (hLB : G.C.hB.get? L = none) {A : Around} (hA : AOk A (n + 1)) {b : SL} (ih : SimSL G cf n b) {bs : List Stmt} (cb : ckSL G X b bs = true) {x : PySem.Str} {p : Pos} {i : Nat} (hx : X.names[i]? = some x) (hk : ckName X .local x = true)
    {s s' : Shared} {φ φ' : List Addr} {σ σ' : AH} {ρ : En} {src : Src} {items : List V} {Q : Fl → En → AH → Prop} (ok : Ok G.C φ σ s.heap) (lo : Loc X ρ φ s.heap L) (x1 : Ext [] φ s.heap φ' s'.heap) (x2 : Ok G.C φ' σ' s'.heap)
    (x4 : forGo items src (wT G.P cf (.loc i)) (wSL G.P cf b) items ρ σ' Q) (x5 : s'.gens = s.gens) (x6 : s'.os = s.os) (ob : Obj) (hI : ItAt s'.heap.objs.size src items φ' (s'.heap.push ob) 0) :
    ForEnd G A X L env φ s Q x p bs (.ref s'.heap.objs.size) { s' with heap := s'.heap.push ob } := by
  have lo1 := lo.ext ok x1
  have fr := fresh_size s'.heap
  refine for_core (s := { s' with heap := s'.heap.push ob }) he hLB hA ih cb hx hk (s₀ := s) (φ₀ := φ) (ext1 (x1.trans (Ext.push _))) (x2.push ob) (lo1.ext x2 (Ext.push _)) ?_ (fun m => ?_) ?_ (fun z => lo1.live (z ▸ fr)) hI x4 x5 x6
  · cases q : s.heap.get? s'.heap.objs.size with
    | none => rfl
    | some o => exact absurd fr (x1.alive (by rw [q]; exact fun h => nomatch h))
  · obtain ⟨ob, e, _⟩ := x2.live m
    rw [fr] at e; cases e
  · cases q : G.C.hB.get? s'.heap.objs.size with
    | none => rfl
    | some o => have := x2.base _ _ q; rw [fr] at this; cases this

theorem range_size1 (b : Int) : Builtin.Range.rangeSize 0 b 1 = b.toNat := by
  unfold Builtin.Range.rangeSize
  rw [if_pos (by decide)]
  split <;> omega
theorem range_size3 (a b : Int) : Builtin.Range.rangeSize a b (-1) = (a - b).toNat := by
  unfold Builtin.Range.rangeSize
  rw [if_neg (by decide), show (- (-1) : Int) = 1 from rfl]
  split <;> omega
theorem small_of {b : Int} (h : small b = true) : -1000 < b ∧ b < 1000 := by
  unfold small at h
  obtain ⟨h1, h2⟩ := Bool.and_eq_true_iff.mp h
  exact ⟨of_decide_eq_true h1, of_decide_eq_true h2⟩
theorem range_small {a b c : Int} {k : Nat} (h : Builtin.Range.rangeSize a b c = k) (ha : -2000 < a ∧ a < 2000) (hb : -2000 < b ∧ b < 2000) (hc : -2 < c ∧ c < 2) (hk : k < 2000) : Builtin.Range.small a b c = true := by
  unfold Builtin.Range.small
  rw [h]
  unfold Builtin.Range.rangeFitsLong
  simp
  split <;> omega

/-- range(..) makes a range -/
theorem range_call {A : Around} {s : Shared} {φ : List Addr} {vs items : List V} {ws : List Value} (hr : rangeV vs = some items) (r : RelL s.heap φ vs ws) {P : Value → Shared → Prop} {E : Value → Shared → Prop}
    (fin : ∀ (a b c : Int) (t u v : Tok) (tk : Nat), Builtin.Range.small a b c = true → Builtin.Range.rangeSize a b c = items.length → items = upFrom a c items.length →
      P (.ref s.heap.objs.size) { s with heap := s.heap.push { cls := .type "range", data := .fields #[.int a t, .int b u, .int c v] }, toks := tk }) :
    wpAny (MM G) A (call (.type "range") ws) P E s := by
  unfold rangeV at hr
  split at hr
  · rename_i b0
    split at hr
    · rename_i hs
      cases hr
      obtain ⟨w1, _, rfl, ⟨t1, rfl⟩, rn⟩ := r
      cases rn
      have hs := small_of hs
      have hz := range_size1 b0
      exact call_range_1 (fin 0 b0 1 _ _ _ _ (range_small hz ⟨by omega, by omega⟩ ⟨by omega, by omega⟩ (by decide) (by omega)) (by rw [upFrom_len]; exact hz) (by rw [upFrom_len]))
    · cases hr
  · rename_i a0 b0
    split at hr
    · rename_i hs
      cases hr
      obtain ⟨w1, _, rfl, ⟨t1, rfl⟩, w2, _, rfl, ⟨t2, rfl⟩, w3, _, rfl, ⟨t3, rfl⟩, rn⟩ := r
      cases rn
      obtain ⟨hs1, hs2⟩ := Bool.and_eq_true_iff.mp hs
      have hs1 := small_of hs1
      have hs2 := small_of hs2
      have hz := range_size3 a0 b0
      exact call_range_3 (by decide) (fin a0 b0 (-1) _ _ _ _ (range_small hz ⟨by omega, by omega⟩ ⟨by omega, by omega⟩ (by decide) (by omega)) (by rw [upFrom_len]; exact hz) (by rw [upFrom_len])) (.inl (PyProof.noPylong_small (by decide)))
    · cases hr
  · cases hr

theorem folded_ix {y : PySem.Expr} {env : Env} (h : okIx y.ctorIdx = true) (v : Value) : foldedSetIterable y env v = pure v := by
  cases y <;> first | rfl | cases h

include hG in
theorem for_rng (hcf : SimCf G cf n) {X : Ck} {L : Addr} {env : Env} (he : EnvOk X L env) (hLB : G.C.hB.get? L = none) {A : Around} (hA : AOk A (n + 1)) {b : SL} (ih : SimSL G cf n b) {bs : List Stmt} (cb : ckSL G X b bs = true) {x : PySem.Str} {p : Pos} {i : Nat} (hx : X.names[i]? = some x) (hk : ckName X .local x = true)
    {s : Shared} {φ : List Addr} {σ : AH} {ρ : En} {es : EL} {y : PySem.Expr} {Q : Fl → En → AH → Prop} (ok : Ok G.C φ σ s.heap) (lo : Loc X ρ φ s.heap L) (c : ckE G X (.blt 1 es) y = true)
    (q : wL G.P cf es ρ σ fun vs σ' => match rangeV vs with | some items => forGo items .range (wT G.P cf (.loc i)) (wSL G.P cf b) items ρ σ' Q | none => False) :
    wpAny (MM G) A (eval y env) (fun v s₁ => wpAny (MM G) A (pyIter v) (ForEnd G A X L env φ s Q x p bs) NR s₁) NR s := by
  refine onCall_elim c fun g xs kws p2 c => ?_
  obtain ⟨c0, c⟩ := Bool.and_eq_true_iff.mp c
  obtain rfl := List.isEmpty_iff.mp c0
  refine onName_elim c fun y p3 c => ?_
  obtain ⟨c, d4⟩ := Bool.and_eq_true_iff.mp c
  obtain ⟨c, d3⟩ := Bool.and_eq_true_iff.mp c
  obtain ⟨d1, d2⟩ := Bool.and_eq_true_iff.mp c
  obtain rfl : y = PySem.Str.ofString "range" := (Option.some.inj (beq_iff_eq.mp d1)).symm
  obtain ⟨e1, e2⟩ := hG.bi 1 "range" rfl
  refine wpAny_Call_Name_kw (name_blt hG ok.base he d2 e1 e2 ?_)
  refine callW (P := fun _ => True) (back_all env p2 d3) (machine_keeps (fun a h => nomatch h)) (wpAny_mono ((simL hG hcf es X xs d3 L env he A hA s φ σ ρ ok lo).1 p2 _ q) (fun ws s' p => ⟨trivial, ?_⟩) fun _ _ z => z)
  refine p.elim fun φ' σ' vs x1 x2 x3 xq x5 x6 => ?_
  have x4 := xq.2
  split at x4
  · rename_i items hr
    refine range_call hr x3 fun a b c t u v tk h1 h2 h3 => ?_
    refine wpAny_pyIter_range (Heap.get?_push_size _ rfl) h1 ?_
    refine for_start (s' := { s' with heap := s'.heap.push { cls := .type "range", data := .fields #[.int a t, .int b u, .int c v] }, toks := tk }) he hLB hA ih cb hx hk ok lo (x1.trans (Ext.push _)) (x2.push _) x4 x5 x6 _ ⟨a, c, ?_, (by simpa using h3)⟩
    have e := Heap.get?_push_size (s'.heap.push { cls := .type "range", data := .fields #[.int a t, .int b u, .int c v] }) (o := { cls := .type "range_iterator", data := .fields #[rawInt a, rawInt (Builtin.Range.rangeSize a b c), rawInt c] }) rfl
    rw [h2] at e ⊢
    exact e
  · exact x4.elim

include hG in
theorem for_plain (hcf : SimCf G cf n) {X : Ck} {L : Addr} {env : Env} (he : EnvOk X L env) (hLB : G.C.hB.get? L = none) {A : Around} (hA : AOk A (n + 1)) {b : SL} (ih : SimSL G cf n b) {bs : List Stmt} (cb : ckSL G X b bs = true) {x : PySem.Str} {p : Pos} {i : Nat} (hx : X.names[i]? = some x) (hk : ckName X .local x = true)
    {s : Shared} {φ : List Addr} {σ : AH} {ρ : En} {e : E} {y : PySem.Expr} {Q : Fl → En → AH → Prop} (ok : Ok G.C φ σ s.heap) (lo : Loc X ρ φ s.heap L) (c : ckE G X e y = true)
    (q : wE G.P cf e ρ σ fun v σ' => match iterV σ' v with | some (items, src) => forGo items src (wT G.P cf (.loc i)) (wSL G.P cf b) items ρ σ' Q | none => False) :
    wpAny (MM G) A (eval y env) (fun v s₁ => wpAny (MM G) A (pyIter v) (ForEnd G A X L env φ s Q x p bs) NR s₁) NR s := by
  refine wpAny_mono ((simE hG hcf e X y c L env he A hA s φ σ ρ ok lo).1 _ q) (fun w s' pp => ?_) fun _ _ z => z
  refine pp.elim fun φ' σ' v x1 x2 x3 x4 x5 x6 => ?_
  split at x4
  · rename_i items src hr
    have go : ∀ ob : Obj, ItAt s'.heap.objs.size src items φ' (s'.heap.push ob) 0 → ForEnd G A X L env φ s Q x p bs (.ref s'.heap.objs.size) { s' with heap := s'.heap.push ob } := fun ob => for_start he hLB hA ih cb hx hk ok lo x1 x2 x4 x5 x6 ob
    have t1 : ∀ ob, TK s'.heap (s'.heap.push ob) := fun ob b ws' ⟨o, e, z⟩ => ⟨o, Heap.get?_push_of_some _ e, z⟩
    cases v with
    | tup vs =>
      cases hr
      obtain ⟨a, ws, rfl, ht, rl⟩ := x3
      exact iter_tuple ht (go _ ⟨a, ws, ⟨_, Heap.get?_push_size _ rfl, rfl, rfl⟩, t1 _ _ _ ht, rl.mono (List.prefix_refl _) (t1 _)⟩)
    | obj o =>
      simp only [iterV] at hr
      split at hr
      · rename_i xs e1
        split at hr
        · cases hr
          obtain ⟨a, rfl, ea, ws, m, hl, rl⟩ := rel_obj x2 x3 e1
          exact wpAny_pyIter_list (PySem.IsL.isList (n := m) hl) (go _ ⟨a, ea, ⟨_, Heap.get?_push_size _ rfl, rfl, rfl⟩⟩)
        · cases hr
      · cases hr
    | _ => cases hr
  · exact x4.elim

include hG in
theorem sim_for (hcf : SimCf G cf n) {t : T} {e : E} {b : SL} (ih : SimSL G cf n b) : SimS G cf n (.for_ t e b) := by
  intro X x c L env he hLB A hA s φ σ ρ ok lo Q q
  refine atFor_elim c fun tg y bs els pos c => ?_
  obtain ⟨c, c4⟩ := Bool.and_eq_true_iff.mp c
  obtain ⟨c, c3⟩ := Bool.and_eq_true_iff.mp c
  obtain ⟨c, c1⟩ := Bool.and_eq_true_iff.mp c
  obtain rfl := List.isEmpty_iff.mp c
  cases t with
  | loc i =>
    refine onName_elim c1 fun x p c => ?_
    obtain ⟨c1, c2⟩ := Bool.and_eq_true_iff.mp c
    refine wpAny_For ?_ (folded_ix (ckE_ix c3))
    rcases wS_for q with ⟨es, rfl, q⟩ | q
    · exact for_rng hG hcf he hLB hA ih c4 (beq_iff_eq.mp c1) c2 ok lo c3 q
    · exact for_plain hG hcf he hLB hA ih c4 (beq_iff_eq.mp c1) c2 ok lo c3 q
  | _ => exact Bool.noConfusion (show false = true from c1)

mutual
theorem simS (hG : GloOk G) (hcf : SimCf G cf n) : ∀ t : S, SimS G cf n t
  | .assign t e => sim_assign hG hcf
  | .augLoc i op e => sim_augLoc hG hcf
  | .augSub e i op r => sim_augSub hG hcf
  | .expr e => sim_expr hG hcf
  | .ite c a b => sim_ite hG hcf (simSL hG hcf a) (simSL hG hcf b)
  | .while c b => sim_while hG hcf (simSL hG hcf b)
  | .for_ t e b => sim_for hG hcf (simSL hG hcf b)
  | .ret e => sim_ret hG hcf
  | .retN => sim_retN
  | .cont => sim_cont
  | .pass => sim_pass
  | .stuck => fun _ _ _ _ _ _ _ _ _ _ _ _ _ _ _ _ q => (show False from q).elim
theorem simSL (hG : GloOk G) (hcf : SimCf G cf n) : ∀ t : SL, SimSL G cf n t
  | .nil => simSL_nil
  | .cons s ss => simSL_cons (simS hG hcf s) (simSL hG hcf ss)
end
end

end Mine
end

/-! M15 -/
noncomputable section
set_option maxHeartbeats 200000
open PyProof.Rows PySem PySem.Calls PySem.W
namespace Mine

structure FnOk (G : Glo) (f : Nat) (fn : Fn) (o : Obj) (fd : FuncData) (body : List Stmt) (names : List PySem.Str) (dws : List Value) : Prop where
  ho : G.C.hB.get? (G.faddr f) = some o
  hd : o.data = .func fd
  cd : G.C.hB.CodeRec fd.code fd.qualname
  hb : fd.body = .stmts body
  co : fd.scope.isCoroutine = false
  gen : fd.scope.isGenerator = false
  kind : fd.scope.kind = .function
  cell : ∀ x ∈ fd.scope.names, x.2 ≠ .cell
  glob : fd.globals = mainGlobals
  bu : fd.builtins = builtinsNs
  nd : names.Nodup
  loc : ∀ x ∈ names, fd.scope.names.lookup x = some .local
  many : fn.arity + fn.dflt.length ≤ names.length
  dflt : RelL G.C.hB [] fn.dflt dws
  bind : ∀ (s : Shared) (ws : List Value), G.C.hB.StaysIn s.heap → ws.length = fn.arity → BindsTo s fd ⟨ws, []⟩ (names.zip (ws ++ dws))
  ck : ckSL G ⟨fd.scope, names⟩ fn.body body = true

theorem bindE_get {vs : List V} : ∀ {k j : Nat} {v : V}, bindE k vs j = some v → ∃ i, j = k + i ∧ vs[i]? = some v := by
  induction vs with
  | nil => intro k j v e; cases e
  | cons u vs ih =>
    intro k j v e
    simp only [bindE] at e
    by_cases q : j = k
    · rw [if_pos q] at e
      exact ⟨0, by omega, by simpa using e⟩
    · rw [if_neg q] at e
      obtain ⟨i, e1, e2⟩ := ih e
      exact ⟨i + 1, by omega, by simpa using e2⟩

theorem lookup_of_mem {K W : Type} [BEq K] [LawfulBEq K] : ∀ {l : List (K × W)} {x : K} {w : W}, (l.map (·.1)).Nodup → (x, w) ∈ l → l.lookup x = some w
  | (y, u) :: l, x, w, nd, m => by
    rw [List.map_cons, List.nodup_cons] at nd
    rw [List.lookup_cons]
    rcases List.mem_cons.mp m with m | m
    · cases m; simp
    · have : x ≠ y := fun e => nd.1 (List.mem_map.mpr ⟨(x, w), m, e⟩)
      rw [beq_eq_false_iff_ne.mpr this]
      exact lookup_of_mem nd.2 m

theorem zip_keys : ∀ {names : List PySem.Str} {ws : List Value}, names.Nodup → ((names.zip ws).map (·.1)).Nodup
  | [], _, _ => by simp
  | _ :: _, [], _ => by simp
  | x :: xs, w :: ws, nd => by
    rw [List.nodup_cons] at nd
    rw [List.zip_cons_cons, List.map_cons, List.nodup_cons]
    refine ⟨fun m => ?_, zip_keys nd.2⟩
    obtain ⟨⟨y, u⟩, m1, e⟩ := List.mem_map.mp m
    have e : y = x := e
    subst e
    exact nd.1 (List.of_mem_zip m1).1
theorem zip_lookup {names : List PySem.Str} {ws : List Value} {i : Nat} {x : PySem.Str} {w : Value} (nd : names.Nodup) (e : names[i]? = some x) (e2 : ws[i]? = some w) : (names.zip ws).reverse.lookup x = some w := by
  refine lookup_of_mem ?_ ?_
  · rw [List.map_reverse]
    refine List.pairwise_reverse.mpr (List.Pairwise.imp (fun h => Ne.symm h) (show ((names.zip ws).map (·.1)).Nodup from ?_))
    exact zip_keys nd
  · rw [List.mem_reverse]
    refine List.mem_iff_getElem?.mpr ⟨i, ?_⟩
    rw [List.getElem?_zip_eq_some]
    exact ⟨e, e2⟩

theorem simCf_step {G : Glo} (hG : GloOk G) {fns : Nat → Option Fn} (hfn : ∀ f fn, fns f = some fn → ∃ o fd body names dws, FnOk G f fn o fd body names dws) {m g : Nat} (hcf : SimCf G (callN G.P fns m) g) : SimCf G (callN G.P fns (m + 1)) (g + 2) := by
  intro f vs σ Q q A hA s φ ws ok r
  have q : match fns f with
    | some fn => vs.length = fn.arity ∧ wSL G.P (callN G.P fns m) fn.body (bindE 0 (vs ++ fn.dflt)) σ fun fl _ σ' => (match fl with | .ret v => Q v σ' | _ => Q .none σ')
    | none => False := q
  split at q
  · rename_i fn e
    obtain ⟨o, fd, body, names, dws, F⟩ := hfn f fn e
    obtain ⟨hlen, q⟩ := q
    have hws : ws.length = fn.arity := by rw [r.length, hlen]
    have hA' := hA.depth
    refine codeAny_call_def (by omega) (ok.base _ _ F.ho) F.hd (hG.lim.keeps ok.base) (F.cd.keeps ok.base) F.hb (F.bind s ws ok.base hws) F.cell (fun x hx => F.loc _ (List.of_mem_zip hx).1) (fun h₀ hns hk => ?_) F.co F.gen F.kind
    have x0 : Ext [] φ s.heap φ h₀ := ⟨⟨[], by simp, fun _ hm => nomatch hm⟩, fun a o _ _ e => hk a o e, fun a _ e => by
      obtain ⟨o', q⟩ := Option.ne_none_iff_exists'.mp e
      rw [hk a o' q]; simp⟩
    have t0 : TK s.heap h₀ := fun b ws' ⟨o, e, z⟩ => ⟨o, hk _ _ e, z⟩
    have ok0 : Ok G.C φ σ h₀ := ok.ext (fun b o e => hk b o (ok.base b o e)) t0 fun b m => by obtain ⟨ob, e, _⟩ := ok.live m; rw [e]; exact hk b ob e
    have fr := fresh_size s.heap
    have hLB : G.C.hB.get? s.heap.objs.size = none := by
      cases q : G.C.hB.get? s.heap.objs.size with
      | none => rfl
      | some o => have := ok.base _ _ q; rw [fr] at this; cases this
    have rr : RelL h₀ φ (vs ++ fn.dflt) (ws ++ dws) := (r.mono (List.prefix_refl _) t0).append (F.dflt.mono ⟨φ, rfl⟩ fun a ws' ⟨o, e, z⟩ => ⟨o, hk _ _ (ok.base _ _ e), z⟩)
    have lo : Loc ⟨fd.scope, names⟩ (bindE 0 (vs ++ fn.dflt)) φ h₀ s.heap.objs.size := by
      refine ⟨⟨_, hns, fun i v e => ?_⟩, fun m => ?_⟩
      · obtain ⟨j, e1, e2⟩ := bindE_get e
        have e1 : i = j := by omega
        subst e1
        obtain ⟨w, e3, rw'⟩ := rr.get e2
        have hi : i < names.length := by
          have h1 := (List.getElem?_eq_some_iff.mp e2).1
          rw [List.length_append, hlen] at h1
          exact Nat.lt_of_lt_of_le h1 F.many
        exact ⟨names[i], w, List.getElem?_eq_getElem hi, zip_lookup F.nd (List.getElem?_eq_getElem hi) e3, rw'⟩
      · obtain ⟨ob, e, _⟩ := ok.live m
        rw [fr] at e; cases e
    have he : EnvOk ⟨fd.scope, names⟩ s.heap.objs.size (callEnv fd s.heap.objs.size (G.faddr f)) := ⟨rfl, F.nd, F.kind, rfl, F.glob, F.bu⟩
    refine wpAny_mono (simSL hG hcf fn.body ⟨fd.scope, names⟩ body F.ck s.heap.objs.size _ he hLB _ (hA.deeper _) { s with heap := h₀, toks := s.toks + (names.zip (ws ++ dws)).length } φ σ _ ok0 lo _ q) (fun fl s' p => ?_) fun _ _ z => z.elim
    obtain ⟨φ', σ', ρ', fl', x1, x2, x3, x4, x5, x6, x7⟩ := p
    have w : Ext [] φ s.heap φ' s'.heap := ((x0.weak fun _ m => nomatch m).trans x1).strong fun a m => by
      simp only [List.mem_singleton] at m
      subst m
      exact .inr fr
    cases x4 with
    | next => exact ⟨φ', σ', .none, w, x2, rfl, x5, x6, x7⟩
    | cont => exact ⟨φ', σ', .none, w, x2, rfl, x5, x6, x7⟩
    | ret rv => exact ⟨φ', σ', _, w, x2, rv, x5, x6, x7⟩
  · exact q.elim

theorem simCf {G : Glo} (hG : GloOk G) {fns : Nat → Option Fn} (hfn : ∀ f fn, fns f = some fn → ∃ o fd body names dws, FnOk G f fn o fd body names dws) : ∀ m, SimCf G (callN G.P fns m) (2 * m)
  | 0 => fun f vs σ Q q => (show False from q).elim
  | m + 1 => simCf_step hG hfn (simCf hG hfn m)

end Mine
end

/-! A1 -/
noncomputable section
set_option maxHeartbeats 200000
open PyProof.Rows PySem PySem.Calls PySem.W
namespace Mine
/-! printed by print_ast.py -/
noncomputable def f_fixed_atoms : Fn := ⟨0, (.cons (.ret (.tup (.cons (.kstr (PySem.Str.ofString "[]")) (.cons (.kstr (PySem.Str.ofString ".")) (.cons (.kstr (PySem.Str.ofString "{}")) (.cons (.kstr (PySem.Str.ofString "-")) (.cons (.kstr (PySem.Str.ofString "+")) (.cons (.kstr (PySem.Str.ofString "*")) (.cons (.kstr (PySem.Str.ofString "/")) (.cons (.kstr (PySem.Str.ofString ",")) (.cons (.kstr (PySem.Str.ofString "|")) (.cons (.kstr (PySem.Str.ofString ";")) (.cons (.kstr (PySem.Str.ofString "->")) (.cons (.kstr (PySem.Str.ofString "\\+")) (.cons (.kstr (PySem.Str.ofString ":-")) (.cons (.kstr (PySem.Str.ofString "?-")) (.cons (.kstr (PySem.Str.ofString "-->")) (.cons (.kstr (PySem.Str.ofString "!")) (.cons (.kstr (PySem.Str.ofString "true")) (.cons (.kstr (PySem.Str.ofString "fail")) (.cons (.kstr (PySem.Str.ofString "false")) (.cons (.kstr (PySem.Str.ofString "call")) (.cons (.kstr (PySem.Str.ofString "=")) (.cons (.kstr (PySem.Str.ofString "^")) (.cons (.kstr (PySem.Str.ofString "error")) (.cons (.kstr (PySem.Str.ofString "")) (.cons (.kstr (PySem.Str.ofString "end_of_file")) (.cons (.kstr (PySem.Str.ofString "system")) (.cons (.kstr (PySem.Str.ofString "$VAR")) (.cons (.kstr (PySem.Str.ofString "catch")) (.cons (.kstr (PySem.Str.ofString "throw")) .nil))))))))))))))))))))))))))))))) .nil), []⟩
noncomputable def n_fixed_atoms : List PySem.Str := ([] : List String).map PySem.Str.ofString
noncomputable def f_fixed_functors : Fn := ⟨0, (.cons (.ret (.tup (.cons (.tup (.cons (.kstr (PySem.Str.ofString ".")) (.cons (.kint 2) .nil))) (.cons (.tup (.cons (.kstr (PySem.Str.ofString ",")) (.cons (.kint 2) .nil))) (.cons (.tup (.cons (.kstr (PySem.Str.ofString ";")) (.cons (.kint 2) .nil))) (.cons (.tup (.cons (.kstr (PySem.Str.ofString "->")) (.cons (.kint 2) .nil))) (.cons (.tup (.cons (.kstr (PySem.Str.ofString "\\+")) (.cons (.kint 1) .nil))) (.cons (.tup (.cons (.kstr (PySem.Str.ofString ":-")) (.cons (.kint 2) .nil))) (.cons (.tup (.cons (.kstr (PySem.Str.ofString ":-")) (.cons (.kint 1) .nil))) (.cons (.tup (.cons (.kstr (PySem.Str.ofString "?-")) (.cons (.kint 1) .nil))) (.cons (.tup (.cons (.kstr (PySem.Str.ofString "-->")) (.cons (.kint 2) .nil))) (.cons (.tup (.cons (.kstr (PySem.Str.ofString "{}")) (.cons (.kint 1) .nil))) (.cons (.tup (.cons (.kstr (PySem.Str.ofString "=")) (.cons (.kint 2) .nil))) (.cons (.tup (.cons (.kstr (PySem.Str.ofString "^")) (.cons (.kint 2) .nil))) (.cons (.tup (.cons (.kstr (PySem.Str.ofString "-")) (.cons (.kint 1) .nil))) (.cons (.tup (.cons (.kstr (PySem.Str.ofString "-")) (.cons (.kint 2) .nil))) (.cons (.tup (.cons (.kstr (PySem.Str.ofString "+")) (.cons (.kint 2) .nil))) (.cons (.tup (.cons (.kstr (PySem.Str.ofString "/")) (.cons (.kint 2) .nil))) (.cons (.tup (.cons (.kstr (PySem.Str.ofString "error")) (.cons (.kint 2) .nil))) (.cons (.tup (.cons (.kstr (PySem.Str.ofString "$VAR")) (.cons (.kint 1) .nil))) (.cons (.tup (.cons (.kstr (PySem.Str.ofString "catch")) (.cons (.kint 3) .nil))) (.cons (.tup (.cons (.kstr (PySem.Str.ofString "throw")) (.cons (.kint 1) .nil))) (.cons (.tup (.cons (.kstr (PySem.Str.ofString "!")) (.cons (.kint 0) .nil))) (.cons (.tup (.cons (.kstr (PySem.Str.ofString "true")) (.cons (.kint 0) .nil))) (.cons (.tup (.cons (.kstr (PySem.Str.ofString "fail")) (.cons (.kint 0) .nil))) (.cons (.tup (.cons (.kstr (PySem.Str.ofString "false")) (.cons (.kint 0) .nil))) (.cons (.tup (.cons (.kstr (PySem.Str.ofString "call")) (.cons (.kint 1) .nil))) (.cons (.tup (.cons (.kstr (PySem.Str.ofString "call")) (.cons (.kint 2) .nil))) (.cons (.tup (.cons (.kstr (PySem.Str.ofString "call")) (.cons (.kint 3) .nil))) (.cons (.tup (.cons (.kstr (PySem.Str.ofString "call")) (.cons (.kint 4) .nil))) (.cons (.tup (.cons (.kstr (PySem.Str.ofString "call")) (.cons (.kint 5) .nil))) (.cons (.tup (.cons (.kstr (PySem.Str.ofString "call")) (.cons (.kint 6) .nil))) (.cons (.tup (.cons (.kstr (PySem.Str.ofString "call")) (.cons (.kint 7) .nil))) (.cons (.tup (.cons (.kstr (PySem.Str.ofString "call")) (.cons (.kint 8) .nil))) .nil)))))))))))))))))))))))))))))))))) .nil), []⟩
noncomputable def n_fixed_functors : List PySem.Str := ([] : List String).map PySem.Str.ofString
noncomputable def f_Symbols___init__ : Fn := ⟨1, (.cons (.assign (.attr (.loc 0) 0) (.list .nil)) (.cons (.assign (.attr (.loc 0) 1) (.dict0 1)) (.cons (.assign (.attr (.loc 0) 2) (.list .nil)) (.cons (.assign (.attr (.loc 0) 3) (.dict0 2)) (.cons (.for_ (.loc 1) (.callF 0 .nil) (.cons (.expr (.callM 0 (.loc 0) (.cons (.loc 1) .nil))) .nil)) (.cons (.for_ (.loc 2) (.callF 1 .nil) (.cons (.expr (.callM 3 (.loc 0) (.cons (.sub (.loc 2) (.kint 0)) (.cons (.sub (.loc 2) (.kint 1)) .nil)))) .nil)) .nil)))))), []⟩
noncomputable def n_Symbols___init__ : List PySem.Str := (["self", "text", "row"] : List String).map PySem.Str.ofString
noncomputable def f_Symbols_atom : Fn := ⟨2, (.cons (.assign (.loc 2) (.meth 2 (.attr (.loc 0) 1) (.cons (.loc 1) (.cons (.neg (.kint 1)) .nil)))) (.cons (.ite (.cmp .ge (.loc 2) (.kint 0)) (.cons (.ret (.loc 2)) .nil) .nil) (.cons (.assign (.loc 3) (.blt 0 (.cons (.attr (.loc 0) 0) .nil))) (.cons (.expr (.meth 0 (.attr (.loc 0) 0) (.cons (.loc 1) .nil))) (.cons (.assign (.sub (.attr (.loc 0) 1) (.loc 1)) (.loc 3)) (.cons (.ret (.loc 3)) .nil)))))), []⟩
noncomputable def n_Symbols_atom : List PySem.Str := (["self", "text", "found", "number"] : List String).map PySem.Str.ofString
noncomputable def f_Symbols_text : Fn := ⟨2, (.cons (.ret (.sub (.attr (.loc 0) 0) (.loc 1))) .nil), []⟩
noncomputable def n_Symbols_text : List PySem.Str := (["self", "number"] : List String).map PySem.Str.ofString
noncomputable def f_Symbols_functor : Fn := ⟨3, (.cons (.assign (.loc 3) (.tup (.cons (.loc 1) (.cons (.loc 2) .nil)))) (.cons (.assign (.loc 4) (.meth 2 (.attr (.loc 0) 3) (.cons (.loc 3) (.cons (.neg (.kint 1)) .nil)))) (.cons (.ite (.cmp .ge (.loc 4) (.kint 0)) (.cons (.ret (.loc 4)) .nil) .nil) (.cons (.assign (.loc 5) (.blt 0 (.cons (.attr (.loc 0) 2) .nil))) (.cons (.expr (.meth 0 (.attr (.loc 0) 2) (.cons (.loc 3) .nil))) (.cons (.assign (.sub (.attr (.loc 0) 3) (.loc 3)) (.loc 5)) (.cons (.ret (.loc 5)) .nil))))))), []⟩
noncomputable def n_Symbols_functor : List PySem.Str := (["self", "atom", "arity", "key", "found", "number"] : List String).map PySem.Str.ofString
noncomputable def f_Symbols_func : Fn := ⟨3, (.cons (.ret (.callM 2 (.loc 0) (.cons (.callM 0 (.loc 0) (.cons (.loc 1) .nil)) (.cons (.loc 2) .nil)))) .nil), []⟩
noncomputable def n_Symbols_func : List PySem.Str := (["self", "text", "arity"] : List String).map PySem.Str.ofString
noncomputable def f_Symbols_name : Fn := ⟨2, (.cons (.ret (.sub (.sub (.attr (.loc 0) 2) (.loc 1)) (.kint 0))) .nil), []⟩
noncomputable def n_Symbols_name : List PySem.Str := (["self", "functor"] : List String).map PySem.Str.ofString
noncomputable def f_Symbols_arity : Fn := ⟨2, (.cons (.ret (.sub (.sub (.attr (.loc 0) 2) (.loc 1)) (.kint 1))) .nil), []⟩
noncomputable def n_Symbols_arity : List PySem.Str := (["self", "functor"] : List String).map PySem.Str.ofString
noncomputable def f_Symbols_count : Fn := ⟨1, (.cons (.ret (.blt 0 (.cons (.attr (.loc 0) 0) .nil))) .nil), []⟩
noncomputable def n_Symbols_count : List PySem.Str := (["self"] : List String).map PySem.Str.ofString
noncomputable def f_Cells___init__ : Fn := ⟨2, (.cons (.assign (.attr (.loc 0) 4) (.loc 1)) (.cons (.assign (.attr (.loc 0) 5) (.loc 2)) (.cons (.assign (.attr (.loc 0) 6) (.list .nil)) (.cons (.assign (.attr (.loc 0) 7) (.list .nil)) (.cons (.assign (.attr (.loc 0) 8) (.list .nil)) (.cons (.assign (.attr (.loc 0) 9) (.kint 0)) (.cons (.assign (.attr (.loc 0) 10) (.kint 0)) .nil))))))), [.int 100000]⟩
noncomputable def n_Cells___init__ : List PySem.Str := (["self", "symbols", "max_heap"] : List String).map PySem.Str.ofString
noncomputable def f_Cells_push : Fn := ⟨2, (.cons (.assign (.loc 2) (.blt 0 (.cons (.attr (.loc 0) 6) .nil))) (.cons (.ite (.cmp .ge (.loc 2) (.attr (.loc 0) 5)) (.cons .stuck .nil) .nil) (.cons (.expr (.meth 0 (.attr (.loc 0) 6) (.cons (.loc 1) .nil))) (.cons (.ret (.loc 2)) .nil)))), []⟩
noncomputable def n_Cells_push : List PySem.Str := (["self", "cell", "address"] : List String).map PySem.Str.ofString
noncomputable def f_Cells_new_var : Fn := ⟨1, (.cons (.assign (.loc 1) (.tup (.cons (.glob 0) (.cons (.blt 0 (.cons (.attr (.loc 0) 6) .nil)) .nil)))) (.cons (.expr (.callM 7 (.loc 0) (.cons (.loc 1) .nil))) (.cons (.ret (.loc 1)) .nil))), []⟩
noncomputable def n_Cells_new_var : List PySem.Str := (["self", "cell"] : List String).map PySem.Str.ofString
noncomputable def f_Cells_reserve : Fn := ⟨2, (.cons (.assign (.loc 2) (.blt 0 (.cons (.attr (.loc 0) 6) .nil))) (.cons (.ite (.cmp .gt (.bin .add (.loc 2) (.loc 1)) (.attr (.loc 0) 5)) (.cons .stuck .nil) .nil) (.cons (.for_ (.loc 3) (.blt 1 (.cons (.loc 1) .nil)) (.cons (.expr (.meth 0 (.attr (.loc 0) 6) (.cons (.tup (.cons (.glob 0) (.cons (.bin .add (.loc 2) (.loc 3)) .nil))) .nil))) .nil)) (.cons (.ret (.loc 2)) .nil)))), []⟩
noncomputable def n_Cells_reserve : List PySem.Str := (["self", "count", "first", "step"] : List String).map PySem.Str.ofString
noncomputable def f_Cells_deref : Fn := ⟨2, (.cons (.while (.kbool true) (.cons (.assign (.loc 2) (.sub (.loc 1) (.kint 0))) (.cons (.ite (.cmp .eq (.loc 2) (.glob 0)) (.cons (.assign (.loc 3) (.sub (.attr (.loc 0) 6) (.sub (.loc 1) (.kint 1)))) .nil) (.cons (.ite (.cmp .eq (.loc 2) (.glob 1)) (.cons (.assign (.loc 3) (.sub (.attr (.loc 0) 7) (.sub (.loc 1) (.kint 1)))) .nil) (.cons (.ret (.loc 1)) .nil)) .nil)) (.cons (.ite (.cmp .eq (.loc 3) (.loc 1)) (.cons (.ret (.loc 1)) .nil) .nil) (.cons (.assign (.loc 1) (.loc 3)) .nil))))) .nil), []⟩
noncomputable def n_Cells_deref : List PySem.Str := (["self", "cell", "tag", "found"] : List String).map PySem.Str.ofString
noncomputable def f_Cells_is_unbound : Fn := ⟨2, (.cons (.ite (.cmp .eq (.sub (.loc 1) (.kint 0)) (.glob 0)) (.cons (.ret (.cmp .eq (.sub (.attr (.loc 0) 6) (.sub (.loc 1) (.kint 1))) (.loc 1))) .nil) .nil) (.cons (.ite (.cmp .eq (.sub (.loc 1) (.kint 0)) (.glob 1)) (.cons (.ret (.cmp .eq (.sub (.attr (.loc 0) 7) (.sub (.loc 1) (.kint 1))) (.loc 1))) .nil) .nil) (.cons (.ret (.kbool false)) .nil))), []⟩
noncomputable def n_Cells_is_unbound : List PySem.Str := (["self", "cell"] : List String).map PySem.Str.ofString
noncomputable def f_Cells_bind : Fn := ⟨3, (.cons (.assign (.loc 3) (.sub (.loc 1) (.kint 1))) (.cons (.ite (.cmp .eq (.sub (.loc 1) (.kint 0)) (.glob 0)) (.cons (.assign (.sub (.attr (.loc 0) 6) (.loc 3)) (.loc 2)) (.cons (.ite (.cmp .lt (.loc 3) (.attr (.loc 0) 9)) (.cons (.expr (.meth 0 (.attr (.loc 0) 8) (.cons (.loc 3) .nil))) .nil) .nil) .nil)) (.cons (.assign (.sub (.attr (.loc 0) 7) (.loc 3)) (.loc 2)) (.cons (.ite (.cmp .lt (.loc 3) (.attr (.loc 0) 10)) (.cons (.expr (.meth 0 (.attr (.loc 0) 8) (.cons (.bin .sub (.neg (.kint 1)) (.loc 3)) .nil))) .nil) .nil) .nil))) .nil)), []⟩
noncomputable def n_Cells_bind : List PySem.Str := (["self", "cell", "value", "place"] : List String).map PySem.Str.ofString
noncomputable def f_Cells_bind_pair : Fn := ⟨3, (.cons (.ite (.cmp .eq (.loc 1) (.loc 2)) (.cons .retN .nil) .nil) (.cons (.ite (.cmp .eq (.sub (.loc 1) (.kint 0)) (.sub (.loc 2) (.kint 0))) (.cons (.ite (.cmp .lt (.sub (.loc 1) (.kint 1)) (.sub (.loc 2) (.kint 1))) (.cons (.expr (.callM 12 (.loc 0) (.cons (.loc 2) (.cons (.loc 1) .nil)))) .nil) (.cons (.expr (.callM 12 (.loc 0) (.cons (.loc 1) (.cons (.loc 2) .nil)))) .nil)) .nil) (.cons (.ite (.cmp .eq (.sub (.loc 1) (.kint 0)) (.glob 1)) (.cons (.expr (.callM 12 (.loc 0) (.cons (.loc 1) (.cons (.loc 2) .nil)))) .nil) (.cons (.expr (.callM 12 (.loc 0) (.cons (.loc 2) (.cons (.loc 1) .nil)))) .nil)) .nil)) .nil)), []⟩
noncomputable def n_Cells_bind_pair : List PySem.Str := (["self", "c1", "c2"] : List String).map PySem.Str.ofString
noncomputable def f_Cells_globalise : Fn := ⟨2, (.cons (.assign (.loc 1) (.callM 10 (.loc 0) (.cons (.loc 1) .nil))) (.cons (.ite (.cmp .eq (.sub (.loc 1) (.kint 0)) (.glob 1)) (.cons (.assign (.loc 2) (.callM 8 (.loc 0) .nil)) (.cons (.expr (.callM 12 (.loc 0) (.cons (.loc 1) (.cons (.loc 2) .nil)))) (.cons (.ret (.loc 2)) .nil))) .nil) (.cons (.ret (.loc 1)) .nil))), []⟩
noncomputable def n_Cells_globalise : List PySem.Str := (["self", "cell", "fresh"] : List String).map PySem.Str.ofString
noncomputable def f_Cells_mark : Fn := ⟨1, (.cons (.ret (.blt 0 (.cons (.attr (.loc 0) 8) .nil))) .nil), []⟩
noncomputable def n_Cells_mark : List PySem.Str := (["self"] : List String).map PySem.Str.ofString
noncomputable def f_Cells_undo_to : Fn := ⟨2, (.cons (.while (.cmp .gt (.blt 0 (.cons (.attr (.loc 0) 8) .nil)) (.loc 1)) (.cons (.assign (.loc 2) (.meth 1 (.attr (.loc 0) 8) .nil)) (.cons (.ite (.cmp .ge (.loc 2) (.kint 0)) (.cons (.assign (.sub (.attr (.loc 0) 6) (.loc 2)) (.tup (.cons (.glob 0) (.cons (.loc 2) .nil)))) .nil) (.cons (.assign (.loc 3) (.bin .sub (.neg (.kint 1)) (.loc 2))) (.cons (.assign (.sub (.attr (.loc 0) 7) (.loc 3)) (.tup (.cons (.glob 1) (.cons (.loc 3) .nil)))) .nil))) .nil))) .nil), []⟩
noncomputable def n_Cells_undo_to : List PySem.Str := (["self", "mark", "entry", "slot"] : List String).map PySem.Str.ofString
noncomputable def f_Cells_stack_put : Fn := ⟨3, (.cons (.assign (.loc 3) (.attr (.loc 0) 7)) (.cons (.ite (.cmp .lt (.loc 1) (.blt 0 (.cons (.loc 3) .nil))) (.cons (.assign (.sub (.loc 3) (.loc 1)) (.loc 2)) (.cons .retN .nil)) .nil) (.cons (.while (.cmp .lt (.blt 0 (.cons (.loc 3) .nil)) (.loc 1)) (.cons (.expr (.meth 0 (.loc 3) (.cons (.glob 7) .nil))) .nil)) (.cons (.expr (.meth 0 (.loc 3) (.cons (.loc 2) .nil))) .nil)))), []⟩
noncomputable def n_Cells_stack_put : List PySem.Str := (["self", "i", "value", "stack"] : List String).map PySem.Str.ofString
noncomputable def f_Cells_is_compound : Fn := ⟨2, (.cons (.ret (.boolop false (.cons (.cmp .eq (.sub (.loc 1) (.kint 0)) (.glob 2)) (.cons (.cmp .eq (.sub (.loc 1) (.kint 0)) (.glob 3)) .nil)))) .nil), []⟩
noncomputable def n_Cells_is_compound : List PySem.Str := (["self", "cell"] : List String).map PySem.Str.ofString
noncomputable def f_Cells_width : Fn := ⟨2, (.cons (.assign (.loc 2) (.sub (.loc 1) (.kint 0))) (.cons (.ite (.cmp .eq (.loc 2) (.glob 3)) (.cons (.ret (.kint 2)) .nil) .nil) (.cons (.ite (.cmp .eq (.loc 2) (.glob 2)) (.cons (.ret (.callM 5 (.attr (.loc 0) 4) (.cons (.sub (.sub (.attr (.loc 0) 6) (.sub (.loc 1) (.kint 1))) (.kint 1)) .nil))) .nil) .nil) (.cons (.ret (.kint 0)) .nil)))), []⟩
noncomputable def n_Cells_width : List PySem.Str := (["self", "cell", "tag"] : List String).map PySem.Str.ofString
noncomputable def f_Cells_base : Fn := ⟨2, (.cons (.ite (.cmp .eq (.sub (.loc 1) (.kint 0)) (.glob 3)) (.cons (.ret (.sub (.loc 1) (.kint 1))) .nil) .nil) (.cons (.ret (.bin .add (.sub (.loc 1) (.kint 1)) (.kint 1))) .nil)), []⟩
noncomputable def n_Cells_base : List PySem.Str := (["self", "cell"] : List String).map PySem.Str.ofString
noncomputable def f_Cells_new_block : Fn := ⟨2, (.cons (.ite (.cmp .eq (.loc 1) (.glob 8)) (.cons (.ret (.tup (.cons (.glob 3) (.cons (.callM 9 (.loc 0) (.cons (.kint 2) .nil)) .nil)))) .nil) .nil) (.cons (.assign (.loc 2) (.callM 9 (.loc 0) (.cons (.bin .add (.kint 1) (.callM 5 (.attr (.loc 0) 4) (.cons (.loc 1) .nil))) .nil))) (.cons (.assign (.sub (.attr (.loc 0) 6) (.loc 2)) (.tup (.cons (.glob 6) (.cons (.loc 1) .nil)))) (.cons (.ret (.tup (.cons (.glob 2) (.cons (.loc 2) .nil)))) .nil)))), []⟩
noncomputable def n_Cells_new_block : List PySem.Str := (["self", "f", "start"] : List String).map PySem.Str.ofString
noncomputable def f_Store_put_term : Fn := ⟨3, (.cons (.for_ (.loc 3) (.blt 2 (.cons (.loc 2) .nil)) (.cons (.ite (.cmp .eq (.sub (.sub (.loc 2) (.loc 3)) (.kint 0)) (.glob 1)) (.cons (.assign (.sub (.loc 2) (.loc 3)) (.callM 14 (.loc 0) (.cons (.sub (.loc 2) (.loc 3)) .nil))) .nil) .nil) .nil)) (.cons (.assign (.loc 4) (.sub (.loc 1) (.kint 0))) (.cons (.ite (.cmp .eq (.loc 4) (.kstr (PySem.Str.ofString "v"))) (.cons (.ite (.cmp .notIn (.sub (.loc 1) (.kint 1)) (.loc 2)) (.cons (.assign (.sub (.loc 2) (.sub (.loc 1) (.kint 1))) (.callM 8 (.loc 0) .nil)) .nil) .nil) (.cons (.ret (.sub (.loc 2) (.sub (.loc 1) (.kint 1)))) .nil)) .nil) (.cons (.ite (.cmp .eq (.loc 4) (.kstr (PySem.Str.ofString "a"))) (.cons (.ret (.tup (.cons (.glob 4) (.cons (.sub (.loc 1) (.kint 1)) .nil)))) .nil) .nil) (.cons (.ite (.cmp .eq (.loc 4) (.kstr (PySem.Str.ofString "i"))) (.cons (.ret (.tup (.cons (.glob 5) (.cons (.sub (.loc 1) (.kint 1)) .nil)))) .nil) .nil) (.cons (.assign (.loc 5) (.callM 21 (.loc 0) (.cons (.sub (.loc 1) (.kint 1)) .nil))) (.cons (.assign (.loc 6) (.list (.cons (.tup (.cons (.callM 20 (.loc 0) (.cons (.loc 5) .nil)) (.cons (.sub (.loc 1) (.kint 2)) .nil))) .nil))) (.cons (.assign (.loc 7) (.kint 0)) (.cons (.while (.cmp .lt (.loc 7) (.blt 0 (.cons (.loc 6) .nil))) (.cons (.assign (.tup [8, 9]) (.sub (.loc 6) (.loc 7))) (.cons (.augLoc 7 .add (.kint 1)) (.cons (.for_ (.loc 10) (.loc 9) (.cons (.assign (.loc 4) (.sub (.loc 10) (.kint 0))) (.cons (.ite (.cmp .eq (.loc 4) (.kstr (PySem.Str.ofString "v"))) (.cons (.ite (.cmp .isIn (.sub (.loc 10) (.kint 1)) (.loc 2)) (.cons (.assign (.sub (.attr (.loc 0) 6) (.loc 8)) (.sub (.loc 2) (.sub (.loc 10) (.kint 1)))) .nil) (.cons (.assign (.sub (.loc 2) (.sub (.loc 10) (.kint 1))) (.tup (.cons (.glob 0) (.cons (.loc 8) .nil)))) .nil)) .nil) (.cons (.ite (.cmp .eq (.loc 4) (.kstr (PySem.Str.ofString "a"))) (.cons (.assign (.sub (.attr (.loc 0) 6) (.loc 8)) (.tup (.cons (.glob 4) (.cons (.sub (.loc 10) (.kint 1)) .nil)))) .nil) (.cons (.ite (.cmp .eq (.loc 4) (.kstr (PySem.Str.ofString "i"))) (.cons (.assign (.sub (.attr (.loc 0) 6) (.loc 8)) (.tup (.cons (.glob 5) (.cons (.sub (.loc 10) (.kint 1)) .nil)))) .nil) (.cons (.assign (.loc 11) (.callM 21 (.loc 0) (.cons (.sub (.loc 10) (.kint 1)) .nil))) (.cons (.assign (.sub (.attr (.loc 0) 6) (.loc 8)) (.loc 11)) (.cons (.expr (.meth 0 (.loc 6) (.cons (.tup (.cons (.callM 20 (.loc 0) (.cons (.loc 11) .nil)) (.cons (.sub (.loc 10) (.kint 2)) .nil))) .nil))) .nil)))) .nil)) .nil)) (.cons (.augLoc 8 .add (.kint 1)) .nil)))) .nil)))) (.cons (.ret (.loc 5)) .nil)))))))))), []⟩
noncomputable def n_Store_put_term : List PySem.Str := (["self", "term", "table", "k", "kind", "made", "waiting", "at", "place", "items", "item", "inner"] : List String).map PySem.Str.ofString
noncomputable def f_PairSet___init__ : Fn := ⟨2, (.cons (.assign (.attr (.loc 0) 11) (.bin .add (.blt 0 (.cons (.attr (.loc 1) 6) .nil)) (.kint 1))) (.cons (.assign (.attr (.loc 0) 12) (.blt 3 .nil)) .nil)), []⟩
noncomputable def n_PairSet___init__ : List PySem.Str := (["self", "store"] : List String).map PySem.Str.ofString
noncomputable def f_PairSet_add : Fn := ⟨3, (.cons (.assign (.loc 3) (.bin .add (.bin .mul (.sub (.loc 1) (.kint 1)) (.attr (.loc 0) 11)) (.sub (.loc 2) (.kint 1)))) (.cons (.ite (.cmp .isIn (.loc 3) (.attr (.loc 0) 12)) (.cons (.ret (.kbool false)) .nil) .nil) (.cons (.expr (.meth 3 (.attr (.loc 0) 12) (.cons (.loc 3) .nil))) (.cons (.ret (.kbool true)) .nil)))), []⟩
noncomputable def n_PairSet_add : List PySem.Str := (["self", "left", "right", "number"] : List String).map PySem.Str.ofString
noncomputable def f_push_arguments : Fn := ⟨3, (.cons (.assign (.loc 3) (.callM 20 (.loc 0) (.cons (.loc 1) .nil))) (.cons (.for_ (.loc 4) (.blt 1 (.cons (.bin .sub (.callM 19 (.loc 0) (.cons (.loc 1) .nil)) (.kint 1)) (.cons (.neg (.kint 1)) (.cons (.neg (.kint 1)) .nil)))) (.cons (.expr (.meth 0 (.loc 2) (.cons (.sub (.attr (.loc 0) 6) (.bin .add (.loc 3) (.loc 4))) .nil))) .nil)) .nil)), []⟩
noncomputable def n_push_arguments : List PySem.Str := (["store", "cell", "work", "place", "step"] : List String).map PySem.Str.ofString
noncomputable def f_push_pairs : Fn := ⟨4, (.cons (.assign (.loc 4) (.callM 20 (.loc 0) (.cons (.loc 1) .nil))) (.cons (.assign (.loc 5) (.callM 20 (.loc 0) (.cons (.loc 2) .nil))) (.cons (.for_ (.loc 6) (.blt 1 (.cons (.bin .sub (.callM 19 (.loc 0) (.cons (.loc 1) .nil)) (.kint 1)) (.cons (.neg (.kint 1)) (.cons (.neg (.kint 1)) .nil)))) (.cons (.expr (.meth 0 (.loc 3) (.cons (.tup (.cons (.sub (.attr (.loc 0) 6) (.bin .add (.loc 4) (.loc 6))) (.cons (.sub (.attr (.loc 0) 6) (.bin .add (.loc 5) (.loc 6))) .nil))) .nil))) .nil)) .nil))), []⟩
noncomputable def n_push_pairs : List PySem.Str := (["store", "left", "right", "work", "left_place", "right_place", "step"] : List String).map PySem.Str.ofString
noncomputable def f_same_shape : Fn := ⟨3, (.cons (.ite (.cmp .ne (.sub (.loc 1) (.kint 0)) (.sub (.loc 2) (.kint 0))) (.cons (.ret (.kbool false)) .nil) .nil) (.cons (.ite (.cmp .eq (.sub (.loc 1) (.kint 0)) (.glob 3)) (.cons (.ret (.kbool true)) .nil) .nil) (.cons (.ret (.cmp .eq (.sub (.attr (.loc 0) 6) (.sub (.loc 1) (.kint 1))) (.sub (.attr (.loc 0) 6) (.sub (.loc 2) (.kint 1))))) .nil))), []⟩
noncomputable def n_same_shape : List PySem.Str := (["store", "left", "right"] : List String).map PySem.Str.ofString
noncomputable def f_is_variable : Fn := ⟨1, (.cons (.ret (.boolop false (.cons (.cmp .eq (.sub (.loc 0) (.kint 0)) (.glob 0)) (.cons (.cmp .eq (.sub (.loc 0) (.kint 0)) (.glob 1)) .nil)))) .nil), []⟩
noncomputable def n_is_variable : List PySem.Str := (["cell"] : List String).map PySem.Str.ofString
noncomputable def f_unify : Fn := ⟨4, (.cons (.assign (.loc 4) (.new 3 (.cons (.loc 0) .nil))) (.cons (.assign (.loc 5) (.list (.cons (.tup (.cons (.loc 1) (.cons (.loc 2) .nil))) .nil))) (.cons (.while (.cmp .gt (.blt 0 (.cons (.loc 5) .nil)) (.kint 0)) (.cons (.assign (.tup [6, 7]) (.meth 1 (.loc 5) .nil)) (.cons (.assign (.loc 6) (.callM 10 (.loc 0) (.cons (.loc 6) .nil))) (.cons (.assign (.loc 7) (.callM 10 (.loc 0) (.cons (.loc 7) .nil))) (.cons (.ite (.cmp .eq (.loc 6) (.loc 7)) (.cons .cont .nil) .nil) (.cons (.ite (.callF 32 (.cons (.loc 6) .nil)) (.cons (.ite (.callF 32 (.cons (.loc 7) .nil)) (.cons (.expr (.callM 13 (.loc 0) (.cons (.loc 6) (.cons (.loc 7) .nil)))) .nil) (.cons (.ite (.not (.callF 34 (.cons (.loc 0) (.cons (.loc 6) (.cons (.loc 7) (.cons (.loc 3) .nil)))))) (.cons (.ret (.kbool false)) .nil) .nil) .nil)) .nil) (.cons (.ite (.callF 32 (.cons (.loc 7) .nil)) (.cons (.ite (.not (.callF 34 (.cons (.loc 0) (.cons (.loc 7) (.cons (.loc 6) (.cons (.loc 3) .nil)))))) (.cons (.ret (.kbool false)) .nil) .nil) .nil) (.cons (.ite (.boolop true (.cons (.callM 18 (.loc 0) (.cons (.loc 6) .nil)) (.cons (.callF 31 (.cons (.loc 0) (.cons (.loc 6) (.cons (.loc 7) .nil)))) .nil))) (.cons (.ite (.callM 23 (.loc 4) (.cons (.loc 6) (.cons (.loc 7) .nil))) (.cons (.expr (.callF 30 (.cons (.loc 0) (.cons (.loc 6) (.cons (.loc 7) (.cons (.loc 5) .nil)))))) .nil) .nil) .nil) (.cons (.ret (.kbool false)) .nil)) .nil)) .nil)) .nil)))))) (.cons (.ret (.kbool true)) .nil)))), []⟩
noncomputable def n_unify : List PySem.Str := (["store", "c1", "c2", "occurs", "met", "work", "left", "right"] : List String).map PySem.Str.ofString
noncomputable def f_bind_checked : Fn := ⟨4, (.cons (.ite (.boolop true (.cons (.loc 3) (.cons (.callF 36 (.cons (.loc 0) (.cons (.loc 1) (.cons (.loc 2) .nil)))) .nil))) (.cons (.ret (.kbool false)) .nil) .nil) (.cons (.expr (.callM 12 (.loc 0) (.cons (.loc 1) (.cons (.loc 2) .nil)))) (.cons (.ret (.kbool true)) .nil))), []⟩
noncomputable def n_bind_checked : List PySem.Str := (["store", "variable", "value", "occurs"] : List String).map PySem.Str.ofString
noncomputable def f_trial : Fn := ⟨4, (.cons (.assign (.loc 4) (.attr (.loc 0) 9)) (.cons (.assign (.loc 5) (.attr (.loc 0) 10)) (.cons (.assign (.loc 6) (.callM 15 (.loc 0) .nil)) (.cons (.assign (.attr (.loc 0) 9) (.blt 0 (.cons (.attr (.loc 0) 6) .nil))) (.cons (.assign (.attr (.loc 0) 10) (.blt 0 (.cons (.attr (.loc 0) 7) .nil))) (.cons (.assign (.loc 7) (.callF 33 (.cons (.loc 0) (.cons (.loc 1) (.cons (.loc 2) (.cons (.loc 3) .nil)))))) (.cons (.expr (.callM 16 (.loc 0) (.cons (.loc 6) .nil))) (.cons (.assign (.attr (.loc 0) 9) (.loc 4)) (.cons (.assign (.attr (.loc 0) 10) (.loc 5)) (.cons (.ret (.loc 7)) .nil)))))))))), []⟩
noncomputable def n_trial : List PySem.Str := (["store", "c1", "c2", "occurs", "hb", "bb", "mark", "found"] : List String).map PySem.Str.ofString
noncomputable def f_occurs_in : Fn := ⟨3, (.cons (.assign (.loc 2) (.callM 10 (.loc 0) (.cons (.loc 2) .nil))) (.cons (.ite (.cmp .eq (.loc 2) (.loc 1)) (.cons (.ret (.kbool true)) .nil) .nil) (.cons (.ite (.boolop false (.cons (.cmp .eq (.sub (.loc 1) (.kint 0)) (.glob 1)) (.cons (.not (.callM 18 (.loc 0) (.cons (.loc 2) .nil))) .nil))) (.cons (.ret (.kbool false)) .nil) .nil) (.cons (.assign (.loc 3) (.blt 3 .nil)) (.cons (.assign (.loc 4) (.list (.cons (.loc 2) .nil))) (.cons (.while (.cmp .gt (.blt 0 (.cons (.loc 4) .nil)) (.kint 0)) (.cons (.assign (.loc 2) (.callM 10 (.loc 0) (.cons (.meth 1 (.loc 4) .nil) .nil))) (.cons (.ite (.cmp .eq (.loc 2) (.loc 1)) (.cons (.ret (.kbool true)) .nil) .nil) (.cons (.ite (.boolop true (.cons (.callM 18 (.loc 0) (.cons (.loc 2) .nil)) (.cons (.cmp .notIn (.sub (.loc 2) (.kint 1)) (.loc 3)) .nil))) (.cons (.expr (.meth 3 (.loc 3) (.cons (.sub (.loc 2) (.kint 1)) .nil))) (.cons (.expr (.callF 29 (.cons (.loc 0) (.cons (.loc 2) (.cons (.loc 4) .nil))))) .nil)) .nil) .nil)))) (.cons (.ret (.kbool false)) .nil))))))), []⟩
noncomputable def n_occurs_in : List PySem.Str := (["store", "variable", "cell", "met", "work"] : List String).map PySem.Str.ofString
noncomputable def f__law_dip : Fn := ⟨2, (.cons (.augSub (.loc 0) (.kint 1) .add (.kint 1)) (.cons (.ite (.cmp .gt (.sub (.loc 0) (.kint 1)) (.blt 0 (.cons (.sub (.loc 0) (.kint 0)) .nil))) (.cons (.ret (.kint 0)) .nil) .nil) (.cons (.assign (.loc 2) (.sub (.sub (.loc 0) (.kint 0)) (.bin .sub (.sub (.loc 0) (.kint 1)) (.kint 1)))) (.cons (.ret (.bin .mod (.ife (.cmp .ge (.loc 2) (.kint 0)) (.loc 2) (.neg (.loc 2))) (.loc 1))) .nil)))), []⟩
noncomputable def n__law_dip : List PySem.Str := (["jar", "limit", "grain"] : List String).map PySem.Str.ofString
noncomputable def f__law_bound : Fn := ⟨2, (.cons (.for_ (.loc 2) (.blt 1 (.cons (.bin .add (.kint 1) (.callF 37 (.cons (.loc 0) (.cons (.kint 4) .nil)))) .nil)) (.cons (.assign (.loc 3) (.callF 37 (.cons (.loc 0) (.cons (.kint 3) .nil)))) (.cons (.assign (.loc 4) (.callM 10 (.loc 1) (.cons (.tup (.cons (.glob 0) (.cons (.callF 37 (.cons (.loc 0) (.cons (.kint 4) .nil))) .nil))) .nil))) (.cons (.assign (.loc 5) (.callM 10 (.loc 1) (.cons (.tup (.cons (.glob 1) (.cons (.callF 37 (.cons (.loc 0) (.cons (.kint 3) .nil))) .nil))) .nil))) (.cons (.ite (.boolop true (.cons (.cmp .eq (.loc 3) (.kint 0)) (.cons (.callM 11 (.loc 1) (.cons (.loc 4) .nil)) .nil))) (.cons (.expr (.callM 12 (.loc 1) (.cons (.loc 4) (.cons (.tup (.cons (.glob 5) (.cons (.bin .add (.kint 5) (.loc 2)) .nil))) .nil)))) .nil) (.cons (.ite (.boolop true (.cons (.cmp .eq (.loc 3) (.kint 1)) (.cons (.callM 11 (.loc 1) (.cons (.loc 5) .nil)) .nil))) (.cons (.expr (.callM 12 (.loc 1) (.cons (.loc 5) (.cons (.tup (.cons (.glob 5) (.cons (.kint 5) .nil))) .nil)))) .nil) (.cons (.ite (.boolop true (.cons (.cmp .eq (.loc 3) (.kint 2)) (.cons (.callM 11 (.loc 1) (.cons (.loc 4) .nil)) (.cons (.callM 11 (.loc 1) (.cons (.loc 5) .nil)) .nil)))) (.cons (.expr (.callM 13 (.loc 1) (.cons (.loc 5) (.cons (.loc 4) .nil)))) .nil) .nil) .nil)) .nil)) .nil))))) .nil), []⟩
noncomputable def n__law_bound : List PySem.Str := (["jar", "store", "lap", "way", "heap_one", "stack_one"] : List String).map PySem.Str.ofString
noncomputable def f__law_part : Fn := ⟨1, (.cons (.assign (.loc 1) (.callF 37 (.cons (.loc 0) (.cons (.kint 6) .nil)))) (.cons (.ite (.cmp .lt (.loc 1) (.kint 4)) (.cons (.ret (.tup (.cons (.kstr (PySem.Str.ofString "v")) (.cons (.loc 1) .nil)))) .nil) .nil) (.cons (.ret (.tup (.cons (.kstr (PySem.Str.ofString "i")) (.cons (.bin .add (.loc 1) (.kint 1)) .nil)))) .nil))), []⟩
noncomputable def n__law_part : List PySem.Str := (["jar", "way"] : List String).map PySem.Str.ofString
noncomputable def f__law_side : Fn := ⟨4, (.cons (.assign (.loc 4) (.callF 37 (.cons (.loc 0) (.cons (.kint 5) .nil)))) (.cons (.ite (.cmp .eq (.loc 4) (.kint 0)) (.cons (.ret (.tup (.cons (.glob 1) (.cons (.callF 37 (.cons (.loc 0) (.cons (.kint 3) .nil))) .nil)))) .nil) .nil) (.cons (.ite (.cmp .eq (.loc 4) (.kint 1)) (.cons (.ret (.tup (.cons (.glob 0) (.cons (.callF 37 (.cons (.loc 0) (.cons (.kint 4) .nil))) .nil)))) .nil) .nil) (.cons (.ite (.cmp .eq (.loc 4) (.kint 2)) (.cons (.ret (.callM 22 (.loc 2) (.cons (.tup (.cons (.kstr (PySem.Str.ofString "s")) (.cons (.callM 3 (.loc 1) (.cons (.kstr (PySem.Str.ofString "g")) (.cons (.kint 1) .nil))) (.cons (.tup (.cons (.callF 39 (.cons (.loc 0) .nil)) .nil)) .nil)))) (.cons (.loc 3) .nil)))) .nil) .nil) (.cons (.assign (.loc 5) (.tup (.cons (.kstr (PySem.Str.ofString "s")) (.cons (.callM 3 (.loc 1) (.cons (.kstr (PySem.Str.ofString "g")) (.cons (.kint 1) .nil))) (.cons (.tup (.cons (.callF 39 (.cons (.loc 0) .nil)) .nil)) .nil))))) (.cons (.ret (.callM 22 (.loc 2) (.cons (.tup (.cons (.kstr (PySem.Str.ofString "s")) (.cons (.callM 3 (.loc 1) (.cons (.kstr (PySem.Str.ofString "h")) (.cons (.kint 2) .nil))) (.cons (.tup (.cons (.loc 5) (.cons (.callF 39 (.cons (.loc 0) .nil)) .nil))) .nil)))) (.cons (.loc 3) .nil)))) .nil)))))), []⟩
noncomputable def n__law_side : List PySem.Str := (["jar", "names", "store", "table", "way", "inner"] : List String).map PySem.Str.ofString
noncomputable def f__law_scene : Fn := ⟨2, (.cons (.assign (.loc 2) (.list (.cons (.slTo (.loc 0) 50) (.cons (.kint 0) .nil)))) (.cons (.assign (.loc 3) (.new 2 (.cons (.loc 1) .nil))) (.cons (.assign (.loc 4) (.dict0 0)) (.cons (.for_ (.loc 5) (.blt 1 (.cons (.kint 4) .nil)) (.cons (.assign (.sub (.loc 4) (.loc 5)) (.callM 8 (.loc 3) .nil)) .nil)) (.cons (.for_ (.loc 6) (.blt 1 (.cons (.kint 3) .nil)) (.cons (.expr (.callM 17 (.loc 3) (.cons (.loc 6) (.cons (.tup (.cons (.glob 1) (.cons (.loc 6) .nil))) .nil)))) .nil)) (.cons (.assign (.attr (.loc 3) 9) (.bin .add (.kint 1) (.callF 37 (.cons (.loc 2) (.cons (.kint 4) .nil))))) (.cons (.assign (.attr (.loc 3) 10) (.bin .add (.kint 1) (.callF 37 (.cons (.loc 2) (.cons (.kint 3) .nil))))) (.cons (.expr (.callF 38 (.cons (.loc 2) (.cons (.loc 3) .nil)))) (.cons (.assign (.loc 7) (.callF 40 (.cons (.loc 2) (.cons (.loc 1) (.cons (.loc 3) (.cons (.loc 4) .nil)))))) (.cons (.assign (.loc 8) (.callF 40 (.cons (.loc 2) (.cons (.loc 1) (.cons (.loc 3) (.cons (.loc 4) .nil)))))) (.cons (.ret (.tup (.cons (.loc 3) (.cons (.loc 7) (.cons (.loc 8) (.cons (.cmp .eq (.callF 37 (.cons (.loc 2) (.cons (.kint 2) .nil))) (.kint 0)) .nil)))))) .nil))))))))))), []⟩
noncomputable def n__law_scene : List PySem.Str := (["script", "names", "jar", "store", "table", "number", "slot", "one", "two"] : List String).map PySem.Str.ofString
noncomputable def f__law_state : Fn := ⟨1, (.cons (.ret (.tup (.cons (.blt 2 (.cons (.attr (.loc 0) 6) .nil)) (.cons (.blt 2 (.cons (.attr (.loc 0) 7) .nil)) (.cons (.blt 2 (.cons (.attr (.loc 0) 8) .nil)) (.cons (.attr (.loc 0) 9) (.cons (.attr (.loc 0) 10) .nil))))))) .nil), []⟩
noncomputable def n__law_state : List PySem.Str := (["store"] : List String).map PySem.Str.ofString
noncomputable def f_law : Fn := ⟨1, (.cons (.assign (.loc 1) (.new 0 .nil)) (.cons (.assign (.tup [2, 3, 4, 5]) (.callF 41 (.cons (.loc 0) (.cons (.loc 1) .nil)))) (.cons (.assign (.loc 6) (.callF 42 (.cons (.loc 2) .nil))) (.cons (.assign (.loc 7) (.callF 35 (.cons (.loc 2) (.cons (.loc 3) (.cons (.loc 4) (.cons (.loc 5) .nil)))))) (.cons (.ite (.boolop false (.cons (.cmp .ne (.callF 42 (.cons (.loc 2) .nil)) (.loc 6)) (.cons (.cmp .ne (.callF 35 (.cons (.loc 2) (.cons (.loc 4) (.cons (.loc 3) (.cons (.loc 5) .nil))))) (.loc 7)) (.cons (.cmp .ne (.callF 42 (.cons (.loc 2) .nil)) (.loc 6)) .nil)))) (.cons (.ret (.kbool false)) .nil) .nil) (.cons (.assign (.tup [8, 9, 10, 11]) (.callF 41 (.cons (.loc 0) (.cons (.loc 1) .nil)))) (.cons (.ite (.boolop false (.cons (.cmp .ne (.callF 33 (.cons (.loc 8) (.cons (.loc 9) (.cons (.loc 10) (.cons (.loc 11) .nil))))) (.loc 7)) (.cons (.cmp .ne (.callF 33 (.cons (.loc 2) (.cons (.loc 3) (.cons (.loc 4) (.cons (.loc 5) .nil))))) (.loc 7)) .nil))) (.cons (.ret (.kbool false)) .nil) .nil) (.cons (.ite (.cmp .ne (.callF 42 (.cons (.loc 2) .nil)) (.callF 42 (.cons (.loc 8) .nil))) (.cons (.ret (.kbool false)) .nil) .nil) (.cons (.assign (.loc 12) (.blt 2 (.cons (.attr (.loc 2) 8) .nil))) (.cons (.expr (.callM 16 (.loc 2) (.cons (.kint 0) .nil))) (.cons (.for_ (.loc 13) (.loc 12) (.cons (.assign (.loc 14) (.ife (.cmp .ge (.loc 13) (.kint 0)) (.loc 13) (.bin .sub (.neg (.kint 1)) (.loc 13)))) (.cons (.assign (.loc 15) (.ife (.cmp .ge (.loc 13) (.kint 0)) (.attr (.loc 2) 6) (.attr (.loc 2) 7))) (.cons (.ite (.cmp .ne (.sub (.loc 15) (.loc 14)) (.ife (.cmp .ge (.loc 13) (.kint 0)) (.tup (.cons (.glob 0) (.cons (.loc 14) .nil))) (.tup (.cons (.glob 1) (.cons (.loc 14) .nil))))) (.cons (.ret (.kbool false)) .nil) .nil) .nil)))) (.cons (.ret (.cmp .eq (.attr (.loc 2) 8) (.list .nil))) .nil)))))))))))), []⟩
noncomputable def n_law : List PySem.Str := (["script", "names", "store", "one", "two", "check", "before", "told", "other", "left", "right", "same_check", "free", "entry", "place", "row"] : List String).map PySem.Str.ofString
noncomputable def fns : Nat → Option Fn
  | 0 => some f_fixed_atoms
  | 1 => some f_fixed_functors
  | 2 => some f_Symbols___init__
  | 3 => some f_Symbols_atom
  | 4 => some f_Symbols_text
  | 5 => some f_Symbols_functor
  | 6 => some f_Symbols_func
  | 7 => some f_Symbols_name
  | 8 => some f_Symbols_arity
  | 9 => some f_Symbols_count
  | 10 => some f_Cells___init__
  | 11 => some f_Cells_push
  | 12 => some f_Cells_new_var
  | 13 => some f_Cells_reserve
  | 14 => some f_Cells_deref
  | 15 => some f_Cells_is_unbound
  | 16 => some f_Cells_bind
  | 17 => some f_Cells_bind_pair
  | 18 => some f_Cells_globalise
  | 19 => some f_Cells_mark
  | 20 => some f_Cells_undo_to
  | 21 => some f_Cells_stack_put
  | 22 => some f_Cells_is_compound
  | 23 => some f_Cells_width
  | 24 => some f_Cells_base
  | 25 => some f_Cells_new_block
  | 26 => some f_Store_put_term
  | 27 => some f_PairSet___init__
  | 28 => some f_PairSet_add
  | 29 => some f_push_arguments
  | 30 => some f_push_pairs
  | 31 => some f_same_shape
  | 32 => some f_is_variable
  | 33 => some f_unify
  | 34 => some f_bind_checked
  | 35 => some f_trial
  | 36 => some f_occurs_in
  | 37 => some f__law_dip
  | 38 => some f__law_bound
  | 39 => some f__law_part
  | 40 => some f__law_side
  | 41 => some f__law_scene
  | 42 => some f__law_state
  | 43 => some f_law
  | _ => none
noncomputable def fnNames : List (List PySem.Str) := [n_fixed_atoms, n_fixed_functors, n_Symbols___init__, n_Symbols_atom, n_Symbols_text, n_Symbols_functor, n_Symbols_func, n_Symbols_name, n_Symbols_arity, n_Symbols_count, n_Cells___init__, n_Cells_push, n_Cells_new_var, n_Cells_reserve, n_Cells_deref, n_Cells_is_unbound, n_Cells_bind, n_Cells_bind_pair, n_Cells_globalise, n_Cells_mark, n_Cells_undo_to, n_Cells_stack_put, n_Cells_is_compound, n_Cells_width, n_Cells_base, n_Cells_new_block, n_Store_put_term, n_PairSet___init__, n_PairSet_add, n_push_arguments, n_push_pairs, n_same_shape, n_is_variable, n_unify, n_bind_checked, n_trial, n_occurs_in, n__law_dip, n__law_bound, n__law_part, n__law_side, n__law_scene, n__law_state, n_law]
/-- the defs at the top -/
noncomputable def topFns : List (Nat × String) := [(0, "fixed_atoms"), (1, "fixed_functors"), (29, "push_arguments"), (30, "push_pairs"), (31, "same_shape"), (32, "is_variable"), (33, "unify"), (34, "bind_checked"), (35, "trial"), (36, "occurs_in"), (37, "_law_dip"), (38, "_law_bound"), (39, "_law_part"), (40, "_law_side"), (41, "_law_scene"), (42, "_law_state"), (43, "law")]
noncomputable def methNames : List String := ["atom", "text", "functor", "func", "name", "arity", "count", "push", "new_var", "reserve", "deref", "is_unbound", "bind", "bind_pair", "globalise", "mark", "undo_to", "stack_put", "is_compound", "width", "base", "new_block", "put_term", "add"]
noncomputable def methTab : List (Nat × Nat × Nat) := [(0, 0, 3), (0, 1, 4), (0, 2, 5), (0, 3, 6), (0, 4, 7), (0, 5, 8), (0, 6, 9), (1, 7, 11), (1, 8, 12), (1, 9, 13), (1, 10, 14), (1, 11, 15), (1, 12, 16), (1, 13, 17), (1, 14, 18), (1, 15, 19), (1, 16, 20), (1, 17, 21), (1, 18, 22), (1, 19, 23), (1, 20, 24), (1, 21, 25), (2, 7, 11), (2, 8, 12), (2, 9, 13), (2, 10, 14), (2, 11, 15), (2, 12, 16), (2, 13, 17), (2, 14, 18), (2, 15, 19), (2, 16, 20), (2, 17, 21), (2, 18, 22), (2, 19, 23), (2, 20, 24), (2, 21, 25), (2, 22, 26), (3, 23, 28)]
noncomputable def initTab : List (Nat × Nat) := [(0, 2), (1, 10), (2, 10), (3, 27)]

noncomputable def faddrs : List Nat := [60, 67, 81, 88, 95, 102, 109, 116, 123, 137, 195, 202, 209, 216, 230, 237, 244, 251, 258, 265, 272, 279, 286, 300, 307, 321, 364, 397, 404, 418, 425, 432, 439, 446, 453, 460, 467, 474, 481, 488, 495, 502, 509, 516]
noncomputable def clss : List Nat := [154, 324, 381, 407]
noncomputable def kAt : List Nat := [0, 1, 3, 59, 60, 66, 67, 80, 81, 87, 88, 94, 95, 101, 102, 108, 109, 115, 116, 122, 123, 136, 137, 153, 154, 180, 188, 194, 195, 201, 202, 208, 209, 215, 216, 229, 230, 236, 237, 243, 244, 250, 251, 257, 258, 264, 265, 271, 272, 278, 279, 285, 286, 299, 300, 306, 307, 320, 321, 323, 324, 363, 364, 380, 381, 396, 397, 403, 404, 406, 407, 417, 418, 424, 425, 431, 432, 438, 439, 445, 446, 452, 453, 459, 460, 466, 467, 473, 474, 480, 481, 487, 488, 494, 495, 501, 502, 508, 509, 515, 516]
noncomputable def globTab : List (Nat × String × V) := [(0, "REF", .int 0), (1, "SRF", .int 1), (2, "STR", .int 2), (3, "LIS", .int 3), (4, "CON", .int 4), (5, "INT", .int 5), (6, "FUN", .int 6), (7, "VOID", .tup [.int 5, .int 0]), (8, "F_DOT", .int 0)]
noncomputable def clsNames : List String := ["Symbols", "Cells", "Store", "PairSet"]

noncomputable def P1 : Prg where
  glob := fun g => (globTab.lookup g).map (·.2)
  meth := fun c m => (methTab.find? fun r => r.1 == c && r.2.1 == m).map (·.2.2)
  init := fun c => initTab.lookup c
noncomputable def nm1 : Nm where
  gname := fun g => (globTab.lookup g).map fun r => PySem.Str.ofString r.1
  fname := fun f => (topFns.lookup f).map PySem.Str.ofString
  mname := fun m => (methNames[m]?).map PySem.Str.ofString
  cname := fun c => (clsNames[c]?).map PySem.Str.ofString
noncomputable def faddr1 (f : Nat) : Addr := faddrs.getD f 0
noncomputable def cls1 (c : Nat) : Addr := clss.getD c 0

noncomputable def nsOf (K : Frag) (a : Addr) (x : PySem.Str) : Option Value := match K.lookup a with
  | some ⟨_, _, .dict es _, _⟩ => nsFind es x
  | _ => none
noncomputable def strKeysB (K : Frag) (a : Addr) : Bool := match K.lookup a with
  | some ⟨_, _, .dict es _, _⟩ => es.toList.all fun e => match e.key with | .str .. => true | _ => false
  | _ => false

noncomputable def isInt : V → Value → Bool
  | .int i, x => (match x with
    | .int j _ => decide (i = j)
    | _ => false)
  | _, _ => false
noncomputable def areInts : List V → List Value → Bool
  | [], [] => true
  | a :: as, x :: xs => isInt a x && areInts as xs
  | _, _ => false
noncomputable def relB (K : Frag) : V → Value → Bool
  | .none, w => w == .none
  | .tup vs, w => (match w with
    | .ref r => (match K.lookup r with
      | some ob => ob.cls == .type "tuple" && (match ob.data with
        | .seq ws _ => areInts vs ws.toList
        | _ => false)
      | none => false)
    | _ => false)
  | v, w => isInt v w

noncomputable def fnGood (K : Frag) (f : Nat) (fn : Fn) (names : List PySem.Str) : Bool := match K.lookup (faddr1 f) with
  | some ⟨_, _, .func fd, _⟩ => match fd.body with
    | .stmts body => codeIn K fd.code fd.qualname && !fd.scope.isCoroutine && !fd.scope.isGenerator && (fd.scope.kind == .function) && fd.scope.names.all (fun x => !(x.2 == .cell)) && decide (fd.globals = mainGlobals) && decide (fd.builtins = builtinsNs) &&
      decide names.Nodup && names.all (fun x => fd.scope.names.lookup x == some .local) && decide (fn.arity + fn.dflt.length ≤ names.length) &&
      fd.params.posonlyargs.isEmpty && fd.params.kwonlyargs.isEmpty && fd.params.vararg.isNone && fd.params.kwarg.isNone && decide (fd.params.args.map (·.arg) = names.take (fn.arity + fn.dflt.length)) &&
      (match fn.dflt with
        | [] => fd.defaults == .none
        | [d] => decide (fn.arity = 2) && (match fd.defaults with
          | .ref t => match K.lookup t with
            | some ⟨_, _, .seq ws _, _⟩ => match ws.toList with
              | [w] => relB K d w
              | _ => false
            | _ => false
          | _ => false)
        | _ => false) &&
      ckSL nm1 ⟨fd.scope, names⟩ fn.body body
    | _ => false
  | _ => false

noncomputable def good (K : Frag) : Bool :=
  (K.lookup sysModules).isSome && strKeysB K mainGlobals && strKeysB K builtinsNs &&
  (bltNames.zipIdx.all fun p => nsOf K mainGlobals (PySem.Str.ofString p.1) == none && nsOf K builtinsNs (PySem.Str.ofString p.1) == some (bltVal p.2)) &&
  (globTab.all fun r => match nsOf K mainGlobals (PySem.Str.ofString r.2.1) with | some w => relB K r.2.2 w | none => false) &&
  (topFns.all fun r => nsOf K mainGlobals (PySem.Str.ofString r.2) == some (.ref (faddr1 r.1)) && keepIn K (.ref (faddr1 r.1))) &&
  (clsNames.zipIdx.all fun p => nsOf K mainGlobals (PySem.Str.ofString p.1) == some (.ref (cls1 p.2)) && keepIn K (.ref (cls1 p.2)) && plainGet K (cls1 p.2) PySem.Str.empty && hasDictIn K (cls1 p.2) &&
    (findIn K (.ref (cls1 p.2)) "__setattr__" == some (some (.builtin "object.__setattr__"))) && plainOver K (cls1 p.2) &&
    attrNames.all fun a => findIn K (.ref (cls1 p.2)) a == some none && takerIn K (cls1 p.2) a == some none) &&
  (methTab.all fun r => match methNames[r.2.1]? with
    | some n => findIn K (.ref (cls1 r.1)) (PySem.Str.ofString n) == some (some (.ref (faddr1 r.2.2))) && isFn K (.ref (faddr1 r.2.2)) && keepIn K (.ref (faddr1 r.2.2)) && !attrNames.contains (PySem.Str.ofString n)
    | none => false) &&
  (initTab.all fun r => makesIn K (cls1 r.1) && findIn K (.ref (cls1 r.1)) "__init__" == some (some (.ref (faddr1 r.2))) && isFn K (.ref (faddr1 r.2))) &&
  ((List.range fnNames.length).all fun f => match fns f, fnNames[f]? with
    | some fn, some names => fnGood K f fn names
    | _, _ => false)

noncomputable def kOf (h : Heap) : List Addr → Option Frag
  | [] => some []
  | a :: as => match h.get? a, kOf h as with
    | some o, some K => some ((a, o) :: K)
    | _, _ => none
theorem kOf_in {h : Heap} : ∀ {as : List Addr} {K : Frag}, kOf h as = some K → K.In h
  | [], K, e => by cases e; exact fun a o e => by cases e
  | a :: as, K, e => by
    simp only [kOf] at e
    split at e
    · rename_i o K' e1 e2
      cases e
      intro b ob eb
      rw [List.lookup_cons] at eb
      by_cases q : b = a
      · subst q; simp at eb; subst eb; exact e1
      · rw [beq_eq_false_iff_ne.mpr q] at eb
        exact kOf_in e2 b ob eb
    · cases e
noncomputable def goodAt (h : Heap) : Bool := match kOf h kAt with
  | some K => good K
  | none => false
theorem goodAt_of {h : Heap} (e : goodAt h = true) : ∃ K : Frag, K.In h ∧ good K = true := by
  unfold goodAt at e
  split at e
  · rename_i K q; exact ⟨K, kOf_in q, e⟩
  · cases e
noncomputable def hook1 : Hook := ⟨Bool, fun s => goodAt s.heap, fun _ => true, fun _ h => (∃ K : Frag, K.In h ∧ good K = true), fun _ _ e => goodAt_of e, fun _ _ _ ⟨K, a, b⟩ k => ⟨K, a.keeps k, b⟩⟩

end Mine
end

/-! A2 -/
noncomputable section
set_option maxHeartbeats 200000
open PyProof.Rows PySem PySem.Calls PySem.W
namespace Mine

theorem lookup_zip : ∀ {ps : List PySem.Str} {ws : List Value} {x : PySem.Str} {i : Nat}, ps.Nodup → ps[i]? = some x → ∀ {w : Value}, ws[i]? = some w → (ps.zip ws).lookup x = some w
  | [], _, _, _, _, e, _, _ => by simp at e
  | p :: ps, [], _, _, _, _, _, e => by simp at e
  | p :: ps, w :: ws, x, 0, nd, e, w', e' => by
    simp at e e'
    subst e; subst e'
    rw [List.zip_cons_cons, List.lookup_cons]; simp
  | p :: ps, w :: ws, x, i + 1, nd, e, w', e' => by
    simp at e e'
    rw [List.nodup_cons] at nd
    have : x ≠ p := fun z => nd.1 (z ▸ List.mem_of_getElem? e)
    rw [List.zip_cons_cons, List.lookup_cons, beq_eq_false_iff_ne.mpr this]
    exact lookup_zip nd.2 e e'
theorem filterMap_zip {qs : List (PySem.Str × Value)} : ∀ {ps : List PySem.Str} {ws : List Value}, ps.length = ws.length → (∀ (i : Nat) (x : PySem.Str) (w : Value), ps[i]? = some x → ws[i]? = some w → qs.lookup x = some w) → (ps.filterMap fun n => (qs.lookup n).map fun x => (n, x)) = ps.zip ws
  | [], [], _, _ => rfl
  | p :: ps, w :: ws, hl, h => by
    have e := h 0 p w rfl rfl
    rw [List.filterMap_cons, e, List.zip_cons_cons]
    show (p, w) :: _ = _
    rw [filterMap_zip (by simpa using hl) fun i x w e1 e2 => h (i + 1) x w (by simpa using e1) (by simpa using e2)]
  | [], _ :: _, hl, _ => by simp at hl
  | _ :: _, [], hl, _ => by simp at hl

theorem binds0 {fd : FuncData} {ps : List PySem.Str} {ws : List Value} {s : Shared} (h1 : fd.params.posonlyargs = []) (h2 : fd.params.kwonlyargs = []) (h3 : fd.params.vararg = none) (h4 : fd.params.kwarg = none) (h5 : fd.params.args.map (·.arg) = ps)
    (hd : fd.defaults = .none) (nd : ps.Nodup) (hl : ps.length = ws.length) : BindsTo s fd ⟨ws, []⟩ (ps.zip ws) := by
  have hlk : ∀ (i : Nat) (x : PySem.Str) (w : Value), ps[i]? = some x → ws[i]? = some w → (ps.zip ws).lookup x = some w := fun i x w e1 e2 => lookup_zip nd e1 e2
  have hmem : ∀ x ∈ ps, ((ps.zip ws).lookup x).isNone = false := fun x m => by
    obtain ⟨i, e⟩ := List.mem_iff_getElem?.mp m
    have hi := (List.getElem?_eq_some_iff.mp e).1
    rw [hlk i x ws[i] e (List.getElem?_eq_getElem (hl ▸ hi))]; rfl
  refine BindsTo.of_eq ?_
  unfold bindArgs
  have hs : seqItems? Value.none = pure none := rfl
  have hf : List.filter (fun n => ((ps.zip ws).lookup n).isNone) (ps.take (ws.length - 0)) = [] := by
    rw [List.filter_eq_nil_iff]
    intro x m
    rw [hmem x (List.mem_of_mem_take m)]; simp
  simp only [h1, h2, h3, h4, h5, hd, hs, List.map_nil, List.nil_append, List.append_nil, List.forIn_nil, pure_bind, Option.getD_none, List.length_nil, List.drop_nil, List.zip_nil_right, hl]
  rw [if_neg (by simp), if_neg (by rw [hf]; simp), if_neg (by simp), filterMap_zip hl hlk]

theorem binds1 {fd : FuncData} {p q r : PySem.Str} {a b d : Value} {t : Addr} {o : Obj} {n : Nat} {s : Shared} (h1 : fd.params.posonlyargs = []) (h2 : fd.params.kwonlyargs = []) (h3 : fd.params.vararg = none) (h4 : fd.params.kwarg = none) (h5 : fd.params.args.map (·.arg) = [p, q, r])
    (hd : fd.defaults = .ref t) (ho : s.heap.get? t = some o) (hs : o.data = .seq #[d] n) (nd : [p, q, r].Nodup) : BindsTo s fd ⟨[a, b], []⟩ [(p, a), (q, b), (r, d)] := by
  intro M A E Q hq
  unfold bindArgs
  simp only [h1, h2, h3, h4, h5, hd, List.map_nil, List.nil_append, List.append_nil, List.forIn_nil, pure_bind]
  refine wpAny_bind (wpAny_seqItems ho hs ?_)
  have npq : (q == p) = false := by simp at nd; simp [Ne.symm nd.1.1]
  have npr : (r == p) = false := by simp at nd; simp [Ne.symm nd.1.2]
  have nqr : (r == q) = false := by simp at nd; simp [Ne.symm nd.2]
  simp [npq, npr, nqr, List.lookup_cons]
  exact wpAny_pure hq

noncomputable def G1 (prog : Program) (w : World) (K : Frag) (hB : Heap) : Glo := { nm1 with C := { prog, w, K, hB, cls := cls1, nc := 4 }, P := P1, mg := nsOf K mainGlobals, mb := nsOf K builtinsNs, faddr := faddr1 }

theorem mem_of_lookup {K W : Type} [BEq K] [LawfulBEq K] : ∀ {l : List (K × W)} {x : K} {w : W}, l.lookup x = some w → (x, w) ∈ l
  | (y, u) :: l, x, w, e => by
    rw [List.lookup_cons] at e
    by_cases q : x = y
    · subst q; simp at e; subst e; exact .head _
    · rw [beq_eq_false_iff_ne.mpr q] at e; exact .tail _ (mem_of_lookup e)

theorem ns_of {K : Frag} {h : Heap} (X : K.In h) {a : Addr} (e : strKeysB K a = true) : h.Ns a (nsOf K a) := by
  unfold strKeysB at e
  split at e
  · rename_i c d es ep sl q
    refine ⟨_, es, ep, X _ _ q, rfl, fun en m => ?_, fun x => ?_⟩
    · have := List.all_eq_true.mp e en (Array.mem_toList_iff.mpr m)
      revert this
      cases hk : en.key <;> simp
    · unfold nsOf; rw [q]
  · cases e

theorem isInt_rel {h : Heap} {φ : List Addr} {v : V} {w : Value} (e : isInt v w = true) : Rel h φ v w := by
  cases v with
  | int i =>
    cases w with
    | int j t => exact ⟨t, by rw [of_decide_eq_true (show decide (i = j) = true from e)]⟩
    | _ => exact Bool.noConfusion (show false = true from e)
  | _ => exact Bool.noConfusion (show false = true from e)
theorem areInts_rel {h : Heap} {φ : List Addr} : ∀ {vs : List V} {ws : List Value}, areInts vs ws = true → RelL h φ vs ws
  | [], [], _ => RelL.nil
  | v :: vs, w :: ws, e => by
    obtain ⟨a, b⟩ := Bool.and_eq_true_iff.mp (show (isInt v w && areInts vs ws) = true from e)
    exact RelL.cons (isInt_rel a) (areInts_rel b)
  | [], _ :: _, e => Bool.noConfusion (show false = true from e)
  | _ :: _, [], e => Bool.noConfusion (show false = true from e)
theorem relB_of {K : Frag} {h : Heap} (X : K.In h) {v : V} {w : Value} (e : relB K v w = true) : Rel h [] v w := by
  cases v with
  | none => exact beq_iff_eq.mp (show (w == Value.none) = true from e)
  | tup vs =>
    cases w with
    | ref r =>
      have e : (match K.lookup r with
        | some ob => ob.cls == .type "tuple" && (match ob.data with
          | .seq ws _ => areInts vs ws.toList
          | _ => false)
        | none => false) = true := e
      cases hk : K.lookup r with
      | none => rw [hk] at e; cases e
      | some ob =>
        rw [hk] at e
        obtain ⟨e1, e2⟩ := Bool.and_eq_true_iff.mp e
        obtain ⟨c, d, da, sl⟩ := ob
        cases da with
        | seq ws n => exact ⟨r, ws, rfl, ⟨_, X _ _ hk, beq_iff_eq.mp e1, n, rfl⟩, areInts_rel e2⟩
        | _ => exact Bool.noConfusion (show false = true from e2)
    | _ => exact Bool.noConfusion (show false = true from e)
  | int i => exact isInt_rel (show isInt (.int i) w = true from e)
  | _ => exact Bool.noConfusion (show false = true from e)

theorem zip_take {A B : Type} : ∀ {l : List A} {k : Nat} {ws : List B}, ws.length = k → l.zip ws = (l.take k).zip ws
  | [], _, _, _ => by simp
  | _ :: _, _, [], _ => by simp
  | x :: l, 0, _ :: _, h => by simp at h
  | x :: l, k + 1, w :: ws, h => by rw [List.take_succ_cons, List.zip_cons_cons, List.zip_cons_cons, ← zip_take (by simpa using h)]
theorem initTab_lt : ∀ r ∈ initTab, r.1 < 4 := by decide
theorem methTab_lt : ∀ r ∈ methTab, r.1 < 4 := by decide

theorem gloOk1 {prog : Program} {w : World} {K : Frag} {hB : Heap} (X : K.In hB) (g : good K = true) (lim : hB.NoLimit) : GloOk (G1 prog w K hB) := by
  unfold good at g
  simp only [Bool.and_eq_true] at g
  obtain ⟨⟨⟨⟨⟨⟨⟨⟨⟨g1, g2⟩, g3⟩, g4⟩, g5⟩, g6⟩, g7⟩, g8⟩, g9⟩, g10⟩ := g
  have hcls : ∀ c, c < 4 → ∃ n, (n, c) ∈ clsNames.zipIdx := fun c hc => by
    refine ⟨clsNames[c]'(by exact hc), ?_⟩
    rw [List.mk_mem_zipIdx_iff_getElem?]
    exact List.getElem?_eq_getElem _
  have h7 := List.all_eq_true.mp g7
  refine { hK := X, g := ns_of X g2, b := ns_of X g3, lim := lim, sm := ?_, bi := ?_, glob := ?_, fn := ?_, cn := ?_, meth := ?_, attr := ?_, sets := ?_, init := ?_ }
  · obtain ⟨o, e⟩ := Option.isSome_iff_exists.mp g1
    show hB.get? sysModules ≠ none
    rw [X _ _ e]; simp
  · intro i n e
    have := List.all_eq_true.mp g4 (n, i) (List.mk_mem_zipIdx_iff_getElem?.mpr e)
    obtain ⟨a, b⟩ := Bool.and_eq_true_iff.mp this
    exact ⟨beq_iff_eq.mp a, beq_iff_eq.mp b⟩
  · intro gg x v e1 e2
    have e1 : (globTab.lookup gg).map (fun r => PySem.Str.ofString r.1) = some x := e1
    have e2 : (globTab.lookup gg).map (·.2) = some v := e2
    obtain ⟨⟨n, u⟩, e3, rfl⟩ := Option.map_eq_some_iff.mp e1
    rw [e3] at e2
    cases e2
    have := List.all_eq_true.mp g5 (gg, n, u) (mem_of_lookup e3)
    dsimp only at this
    split at this
    · rename_i wv q; exact ⟨wv, q, relB_of X this⟩
    · cases this
  · intro f x e
    have e : (topFns.lookup f).map PySem.Str.ofString = some x := e
    obtain ⟨n, e3, rfl⟩ := Option.map_eq_some_iff.mp e
    obtain ⟨a, b⟩ := Bool.and_eq_true_iff.mp (List.all_eq_true.mp g6 (f, n) (mem_of_lookup e3))
    exact ⟨beq_iff_eq.mp a, b⟩
  · intro c x e
    have e : (clsNames[c]?).map PySem.Str.ofString = some x := e
    obtain ⟨n, e3, rfl⟩ := Option.map_eq_some_iff.mp e
    have := h7 (n, c) (List.mk_mem_zipIdx_iff_getElem?.mpr e3)
    simp only [Bool.and_eq_true] at this
    exact ⟨beq_iff_eq.mp this.1.1.1.1.1.1, this.1.1.1.1.1.2⟩
  · intro c m f x e1 e2
    have e1 : (methTab.find? fun r => r.1 == c && r.2.1 == m).map (·.2.2) = some f := e1
    have e2 : (methNames[m]?).map PySem.Str.ofString = some x := e2
    obtain ⟨⟨c', m', f'⟩, e3, rfl⟩ := Option.map_eq_some_iff.mp e1
    have hm := List.mem_of_find?_eq_some e3
    have hp := List.find?_some e3
    simp only [Bool.and_eq_true, beq_iff_eq] at hp
    obtain ⟨rfl, rfl⟩ := hp
    obtain ⟨n, e4, rfl⟩ := Option.map_eq_some_iff.mp e2
    have := List.all_eq_true.mp g8 _ hm
    dsimp only at this
    rw [e4] at this
    simp only [Bool.and_eq_true] at this
    obtain ⟨⟨⟨a, b⟩, c⟩, d⟩ := this
    obtain ⟨nn, hc⟩ := hcls c' (methTab_lt _ hm)
    have hc := h7 _ hc
    simp only [Bool.and_eq_true] at hc
    exact ⟨hc.1.1.1.1.2, beq_iff_eq.mp a, b, c, by simpa using d⟩
  · intro c a hc ha
    obtain ⟨nn, hc⟩ := hcls c hc
    have hc := h7 _ hc
    simp only [Bool.and_eq_true] at hc
    have hm : attrName a ∈ attrNames := by unfold attrName; rw [List.getD_eq_getElem?_getD, List.getElem?_eq_getElem ha]; exact List.getElem_mem ha
    have := List.all_eq_true.mp hc.2 _ hm
    simp only [Bool.and_eq_true] at this
    exact ⟨hc.1.1.1.1.2, hc.1.1.1.2, beq_iff_eq.mp this.1, beq_iff_eq.mp this.2⟩
  · intro c hc
    obtain ⟨nn, hc⟩ := hcls c hc
    have hc := h7 _ hc
    simp only [Bool.and_eq_true] at hc
    exact ⟨beq_iff_eq.mp hc.1.1.2, hc.1.2⟩
  · intro c f e
    have hm := mem_of_lookup (show initTab.lookup c = some f from e)
    have := List.all_eq_true.mp g9 _ hm
    simp only [Bool.and_eq_true] at this
    exact ⟨initTab_lt _ hm, this.1.1, beq_iff_eq.mp this.1.2, this.2⟩

theorem fnOk1 {prog : Program} {w : World} {K : Frag} {hB : Heap} (X : K.In hB) (g : good K = true) : ∀ f fn, fns f = some fn → ∃ o fd body names dws, FnOk (G1 prog w K hB) f fn o fd body names dws := by
  intro f fn e
  unfold good at g
  simp only [Bool.and_eq_true] at g
  obtain ⟨_, g10⟩ := g
  have hf : f < fnNames.length := by
    by_cases h : f < 44
    · exact h
    · obtain ⟨n, rfl⟩ : ∃ n, f = n + 44 := ⟨f - 44, by omega⟩
      cases e
  have := List.all_eq_true.mp g10 f (List.mem_range.mpr hf)
  rw [e, List.getElem?_eq_getElem hf] at this
  dsimp only at this
  unfold fnGood at this
  split at this
  · rename_i c d fd sl ho
    split at this
    · rename_i body hb
      simp only [Bool.and_eq_true] at this
      obtain ⟨⟨⟨⟨⟨⟨⟨⟨⟨⟨⟨⟨⟨⟨⟨⟨a1, a2⟩, a3⟩, a4⟩, a5⟩, a6⟩, a7⟩, a8⟩, a9⟩, a10⟩, a11⟩, a12⟩, a13⟩, a14⟩, a15⟩, a16⟩, a17⟩ := this
      have nd : (fnNames[f]).Nodup := of_decide_eq_true a8
      have p1 := List.isEmpty_iff.mp a11
      have p2 := List.isEmpty_iff.mp a12
      have p3 : fd.params.vararg = none := Option.isNone_iff_eq_none.mp a13
      have p4 : fd.params.kwarg = none := Option.isNone_iff_eq_none.mp a14
      have p5 := of_decide_eq_true a15
      have many := of_decide_eq_true a10
      have base : ∀ dws, RelL hB [] fn.dflt dws → (∀ (s : Shared) (ws : List Value), hB.StaysIn s.heap → ws.length = fn.arity → BindsTo s fd ⟨ws, []⟩ ((fnNames[f]).zip (ws ++ dws))) → FnOk (G1 prog w K hB) f fn ⟨c, d, .func fd, sl⟩ fd body (fnNames[f]) dws := fun dws r1 r2 =>
        { ho := X _ _ ho, hd := rfl, cd := codeRec_of X a1, hb := hb, co := by simpa using a2, gen := by simpa using a3, kind := beq_iff_eq.mp a4,
          cell := fun x m h => by have := List.all_eq_true.mp a5 x m; rw [h] at this; cases this
          glob := of_decide_eq_true a6, bu := of_decide_eq_true a7, nd := nd, loc := fun x m => beq_iff_eq.mp (List.all_eq_true.mp a9 x m), many := many, dflt := r1, bind := r2, ck := a17 }
      have tk : ∀ (k : Nat) (ws : List Value), ws.length = k → (fnNames[f]).zip ws = ((fnNames[f]).take k).zip ws := fun k ws h => by
        exact zip_take h
      split at a16
      · rename_i hd0
        refine ⟨_, fd, body, fnNames[f], [], base [] (by rw [hd0]; rfl) fun s ws hs hl => ?_⟩
        rw [hd0] at p5 many
        simp only [List.length_nil, Nat.add_zero] at p5 many
        rw [List.append_nil, tk fn.arity ws hl]
        exact binds0 p1 p2 p3 p4 p5 (beq_iff_eq.mp a16) (nd.sublist (List.take_sublist _ _)) (by rw [List.length_take, hl]; omega)
      · rename_i dv hd1
        obtain ⟨b1, b2⟩ := Bool.and_eq_true_iff.mp a16
        have b1 := of_decide_eq_true b1
        split at b2
        · rename_i t ht
          split at b2
          · rename_i c' d' ws' n' sl' ho'
            split at b2
            · rename_i wv hw
              have rr := relB_of X b2
              rw [hd1, b1] at p5 many
              simp only [List.length_cons, List.length_nil] at p5 many
              refine ⟨_, fd, body, fnNames[f], [wv], base [wv] (by rw [hd1]; exact RelL.cons rr RelL.nil) fun s ws hs hl => ?_⟩
              rw [b1] at hl
              obtain ⟨x, y, rfl⟩ : ∃ x y, ws = [x, y] := by
                match ws, hl with
                | [x, y], _ => exact ⟨x, y, rfl⟩
              obtain ⟨p, q, r, hp⟩ : ∃ p q r, (fnNames[f]).take 3 = [p, q, r] := by
                have h3 : ((fnNames[f]).take 3).length = 3 := by rw [List.length_take]; omega
                match (fnNames[f]).take 3, h3 with
                | [p, q, r], _ => exact ⟨p, q, r, rfl⟩
              rw [tk 3 ([x, y] ++ [wv]) rfl, hp]
              have hws : ws' = #[wv] := by rw [← Array.toArray_toList (xs := ws'), hw]
              refine binds1 p1 p2 p3 p4 (by rw [p5]; exact hp) ht (hs _ _ (X _ _ ho')) (by rw [hws]) ?_
              rw [← hp]; exact nd.sublist (List.take_sublist _ _)
            · cases b2
          · cases b2
        · cases b2
      · cases a16
    · cases this
  · cases this

end Mine
end

/-! C1 -/
noncomputable section
set_option maxHeartbeats 200000
open PySem
namespace Mine

noncomputable abbrev Cell := Int × Int
noncomputable def cV (c : Cell) : V := .tup [.int c.1, .int c.2]
structure St where
  H : List Cell
  S : List Cell
  T : List Int
  hb : Int
  bb : Int
structure Rc where
  d : Nat
  h : Nat
  s : Nat
  t : Nat
  sy : Nat
noncomputable def nsL (r : Rc) (st : St) : List (Nat × V) := [(4, .obj r.sy), (5, .int 100000), (6, .obj r.h), (7, .obj r.s), (8, .obj r.t), (9, .int st.hb), (10, .int st.bb)]
structure View (σ : AH) (so : Nat) (r : Rc) (st : St) : Prop where
  inst : σ[so]? = some (.inst 2 r.d)
  ns : σ[r.d]? = some (.ns (nsL r st))
  h : σ[r.h]? = some (.list (st.H.map cV))
  s : σ[r.s]? = some (.list (st.S.map cV))
  t : σ[r.t]? = some (.list (st.T.map .int))
  dhs : r.h ≠ r.s
  dht : r.h ≠ r.t
  dst : r.s ≠ r.t
  h0 : r.h ≠ 0
  s0 : r.s ≠ 0
  t0 : r.t ≠ 0
  hl : st.H.length < 60
  sl : st.S.length < 60
  tl : st.T.length < 900000

theorem g0 : P1.glob 0 = some (.int 0) := rfl
theorem g1 : P1.glob 1 = some (.int 1) := rfl
theorem g2 : P1.glob 2 = some (.int 2) := rfl
theorem g3 : P1.glob 3 = some (.int 3) := rfl
theorem g4 : P1.glob 4 = some (.int 4) := rfl
theorem g5 : P1.glob 5 = some (.int 5) := rfl
theorem g6 : P1.glob 6 = some (.int 6) := rfl
theorem g7 : P1.glob 7 = some (.tup [.int 5, .int 0]) := rfl
theorem g8 : P1.glob 8 = some (.int 0) := rfl

theorem me7 : P1.meth 2 7 = some 11 := rfl
theorem me8 : P1.meth 2 8 = some 12 := rfl
theorem me9 : P1.meth 2 9 = some 13 := rfl
theorem me10 : P1.meth 2 10 = some 14 := rfl
theorem me11 : P1.meth 2 11 = some 15 := rfl
theorem me12 : P1.meth 2 12 = some 16 := rfl
theorem me13 : P1.meth 2 13 = some 17 := rfl
theorem me14 : P1.meth 2 14 = some 18 := rfl
theorem me15 : P1.meth 2 15 = some 19 := rfl
theorem me16 : P1.meth 2 16 = some 20 := rfl
theorem me17 : P1.meth 2 17 = some 21 := rfl
theorem me18 : P1.meth 2 18 = some 22 := rfl
theorem me19 : P1.meth 2 19 = some 23 := rfl
theorem me20 : P1.meth 2 20 = some 24 := rfl
theorem me21 : P1.meth 2 21 = some 25 := rfl
theorem me22 : P1.meth 2 22 = some 26 := rfl
theorem me23 : P1.meth 3 23 = some 28 := rfl
theorem ms0 : P1.meth 0 0 = some 3 := rfl
theorem ms2 : P1.meth 0 2 = some 5 := rfl
theorem ms3 : P1.meth 0 3 = some 6 := rfl
theorem ms5 : P1.meth 0 5 = some 8 := rfl
theorem eq_int (σ : AH) (x y : Int) : eqV σ (.int x) (.int y) = some (decide (x = y)) := by
  show (if (SeqAt.shaped (PyData.int x) && SeqAt.shaped (PyData.int y)) = true then some (PyData.eqv (.int x) (.int y)) else none) = _
  exact if_pos rfl
theorem eq_cell (σ : AH) (a b : Cell) : eqV σ (cV a) (cV b) = some (decide (a = b)) := by
  obtain ⟨a1, a2⟩ := a
  obtain ⟨b1, b2⟩ := b
  show (if (SeqAt.shaped (PyData.tuple [.int a1, .int a2]) && SeqAt.shaped (PyData.tuple [.int b1, .int b2])) = true then some (PyData.eqv (.tuple [.int a1, .int a2]) (.tuple [.int b1, .int b2])) else none) = _
  have h0 : (SeqAt.shaped (PyData.tuple [.int a1, .int a2]) && SeqAt.shaped (PyData.tuple [.int b1, .int b2])) = true := rfl
  rw [if_pos h0]
  congr 1
  by_cases h : a1 = b1 <;> by_cases h' : a2 = b2 <;> simp [PyData.eqv, PyData.eqvAll, h, h']
theorem tup0 (σ : AH) (c : Cell) : itemAt σ (cV c) (.int 0) = some (.int c.1) := rfl
theorem tup1 (σ : AH) (c : Cell) : itemAt σ (cV c) (.int 1) = some (.int c.2) := rfl

theorem call_of {m f : Nat} {fn : Fn} {vs : List V} {σ : AH} {Q : V → AH → Prop} (e : fns f = some fn) (hl : vs.length = fn.arity)
    (h : wSL P1 (callN P1 fns m) fn.body (bindE 0 (vs ++ fn.dflt)) σ (fun fl _ σ' => match fl with | .ret v => Q v σ' | _ => Q .none σ')) : callN P1 fns (m + 1) f vs σ Q := by
  show (match fns f with | some fn => _ | none => _)
  rw [e]
  exact ⟨hl, h⟩

section
variable {σ : AH} {so : Nat} {r : Rc} {st : St}
theorem View.a4 (v : View σ so r st) : attrAt σ (.obj so) 4 = some (.obj r.sy) := by simp [attrAt, v.inst, v.ns, nsL, List.lookup]
theorem View.a5 (v : View σ so r st) : attrAt σ (.obj so) 5 = some (.int 100000) := by simp [attrAt, v.inst, v.ns, nsL, List.lookup]
theorem View.a6 (v : View σ so r st) : attrAt σ (.obj so) 6 = some (.obj r.h) := by simp [attrAt, v.inst, v.ns, nsL, List.lookup]
theorem View.a7 (v : View σ so r st) : attrAt σ (.obj so) 7 = some (.obj r.s) := by simp [attrAt, v.inst, v.ns, nsL, List.lookup]
theorem View.a8 (v : View σ so r st) : attrAt σ (.obj so) 8 = some (.obj r.t) := by simp [attrAt, v.inst, v.ns, nsL, List.lookup]
theorem View.a9 (v : View σ so r st) : attrAt σ (.obj so) 9 = some (.int st.hb) := by simp [attrAt, v.inst, v.ns, nsL, List.lookup]
theorem View.a10 (v : View σ so r st) : attrAt σ (.obj so) 10 = some (.int st.bb) := by simp [attrAt, v.inst, v.ns, nsL, List.lookup]
theorem View.cl (v : View σ so r st) : instOf σ (.obj so) = some 2 := by simp [instOf, v.inst, v.ns]

theorem list_item {o : Nat} {xs : List V} {k : Int} {v : V} (e : σ[o]? = some (.list xs)) (h0 : 0 ≤ k) (hl : xs.length < 1000000) (hv : xs[k.toNat]? = some v) : itemAt σ (.obj o) (.int k) = some v := by
  have h1 := (List.getElem?_eq_some_iff.mp hv).1
  have h2 : k < xs.length := by omega
  simp only [itemAt, e, idxR]
  rw [if_pos ⟨h0, h2, hl⟩]
  exact hv

noncomputable def Valid (st : St) (c : Cell) : Prop := (c.1 = 0 → 0 ≤ c.2 ∧ c.2.toNat < st.H.length) ∧ (c.1 = 1 → 0 ≤ c.2 ∧ c.2.toNat < st.S.length)

theorem View.hget (v : View σ so r st) {k : Int} {c : Cell} (h0 : 0 ≤ k) (hk : st.H[k.toNat]? = some c) : itemAt σ (.obj r.h) (.int k) = some (cV c) :=
  list_item v.h h0 (by rw [List.length_map]; have := v.hl; omega) (by rw [List.getElem?_map, hk]; rfl)
theorem View.sget (v : View σ so r st) {k : Int} {c : Cell} (h0 : 0 ≤ k) (hk : st.S[k.toNat]? = some c) : itemAt σ (.obj r.s) (.int k) = some (cV c) :=
  list_item v.s h0 (by rw [List.length_map]; have := v.sl; omega) (by rw [List.getElem?_map, hk]; rfl)
end

noncomputable def nextC (st : St) (c : Cell) : Option Cell := if c.1 = 0 then st.H[c.2.toNat]? else if c.1 = 1 then st.S[c.2.toNat]? else none
noncomputable def derefP (st : St) : Nat → Cell → Cell
  | 0, c => c
  | n + 1, c => match nextC st c with
    | some f => if f = c then c else derefP st n f
    | none => c

noncomputable def derefBody : SL := (.cons (.assign (.loc 2) (.sub (.loc 1) (.kint 0))) (.cons (.ite (.cmp .eq (.loc 2) (.glob 0)) (.cons (.assign (.loc 3) (.sub (.attr (.loc 0) 6) (.sub (.loc 1) (.kint 1)))) .nil) (.cons (.ite (.cmp .eq (.loc 2) (.glob 1)) (.cons (.assign (.loc 3) (.sub (.attr (.loc 0) 7) (.sub (.loc 1) (.kint 1)))) .nil) (.cons (.ret (.loc 1)) .nil)) .nil)) (.cons (.ite (.cmp .eq (.loc 3) (.loc 1)) (.cons (.ret (.loc 1)) .nil) .nil) (.cons (.assign (.loc 1) (.loc 3)) .nil))))

theorem deref_body {σ : AH} {so : Nat} {r : Rc} {st : St} (v : View σ so r st) {cf : Cf} {Q : Fl → En → AH → Prop} {c : Cell} {ρ : En} (hv : Valid st c) (h0 : ρ 0 = some (.obj so)) (h1 : ρ 1 = some (cV c))
    (q : match nextC st c with | none => ∀ ρ', Q (.ret (cV c)) ρ' σ | some f => if f = c then ∀ ρ', Q (.ret (cV c)) ρ' σ else ∀ ρ', ρ' 0 = some (.obj so) → ρ' 1 = some (cV f) → Q .next ρ' σ) : wSL P1 cf derefBody ρ σ Q := by
  by_cases t0 : c.1 = 0
  · obtain ⟨a, b⟩ := hv.1 t0
    have e : nextC st c = some st.H[c.2.toNat] := by simp only [nextC, t0, if_true]; exact List.getElem?_eq_getElem b
    simp only [e] at q
    simp [derefBody, ↓qq_nil, ↓qq_cons, ↓qs_assign, ↓qs_augLoc, ↓qs_augSub, ↓qs_expr, ↓qs_ite, ↓qs_while, ↓qs_range, ↓qs_for2, ↓qs_forL, ↓qs_forF, ↓qs_ret, ↓qs_retN, ↓qs_cont, ↓qs_pass, ↓qe_loc, ↓qe_kint, ↓qe_kstr, ↓qe_kbool, ↓qe_knone, ↓qe_glob, ↓qe_tup, ↓qe_list, ↓qe_dict0, ↓qe_attr, ↓qe_sub, ↓qe_slTo, ↓qe_cmp, ↓qe_boolop, ↓qe_not, ↓qe_neg, ↓qe_bin, ↓qe_ife, ↓qe_callF, ↓qe_callM, ↓qe_new, ↓qe_blt, ↓qe_meth, ↓qt_loc, ↓qt_tup, ↓qt_attr, ↓qt_sub, ↓ql_nil, ↓ql_cons, ↓qb_one, ↓qb_cons, cmpV, En.put, bindE, g0, g1, g2, g3, g4, g5, g6, g7, g8, eq_int, eq_cell, tup0, tup1, me7, me8, me9, me10, me11, me12, me13, me14, me15, me16, me17, me18, me19, me20, me21, me22, me23, ms0, ms2, ms3, ms5, -List.map_set, -List.map_append, -List.map_reverse, h0, h1, t0, v.a6, v.hget a (List.getElem?_eq_getElem b)]
    split
    · rename_i z; rw [if_pos z] at q; exact q _
    · rename_i z; rw [if_neg z] at q; exact q _ (by simp [En.put, h0]) (by simp [En.put])
  · by_cases t1 : c.1 = 1
    · obtain ⟨a, b⟩ := hv.2 t1
      have e : nextC st c = some st.S[c.2.toNat] := by simp [nextC, t1]
      simp only [e] at q
      simp [derefBody, ↓qq_nil, ↓qq_cons, ↓qs_assign, ↓qs_augLoc, ↓qs_augSub, ↓qs_expr, ↓qs_ite, ↓qs_while, ↓qs_range, ↓qs_for2, ↓qs_forL, ↓qs_forF, ↓qs_ret, ↓qs_retN, ↓qs_cont, ↓qs_pass, ↓qe_loc, ↓qe_kint, ↓qe_kstr, ↓qe_kbool, ↓qe_knone, ↓qe_glob, ↓qe_tup, ↓qe_list, ↓qe_dict0, ↓qe_attr, ↓qe_sub, ↓qe_slTo, ↓qe_cmp, ↓qe_boolop, ↓qe_not, ↓qe_neg, ↓qe_bin, ↓qe_ife, ↓qe_callF, ↓qe_callM, ↓qe_new, ↓qe_blt, ↓qe_meth, ↓qt_loc, ↓qt_tup, ↓qt_attr, ↓qt_sub, ↓ql_nil, ↓ql_cons, ↓qb_one, ↓qb_cons, cmpV, En.put, bindE, g0, g1, g2, g3, g4, g5, g6, g7, g8, eq_int, eq_cell, tup0, tup1, me7, me8, me9, me10, me11, me12, me13, me14, me15, me16, me17, me18, me19, me20, me21, me22, me23, ms0, ms2, ms3, ms5, -List.map_set, -List.map_append, -List.map_reverse, h0, h1, t1, v.a7, v.sget a (List.getElem?_eq_getElem b)]
      split
      · rename_i z; rw [if_pos z] at q; exact q _
      · rename_i z; rw [if_neg z] at q; exact q _ (by simp [En.put, h0]) (by simp [En.put])
    · have e : nextC st c = none := by simp only [nextC, t0, t1, if_false]
      simp only [e] at q
      simp [derefBody, ↓qq_nil, ↓qq_cons, ↓qs_assign, ↓qs_augLoc, ↓qs_augSub, ↓qs_expr, ↓qs_ite, ↓qs_while, ↓qs_range, ↓qs_for2, ↓qs_forL, ↓qs_forF, ↓qs_ret, ↓qs_retN, ↓qs_cont, ↓qs_pass, ↓qe_loc, ↓qe_kint, ↓qe_kstr, ↓qe_kbool, ↓qe_knone, ↓qe_glob, ↓qe_tup, ↓qe_list, ↓qe_dict0, ↓qe_attr, ↓qe_sub, ↓qe_slTo, ↓qe_cmp, ↓qe_boolop, ↓qe_not, ↓qe_neg, ↓qe_bin, ↓qe_ife, ↓qe_callF, ↓qe_callM, ↓qe_new, ↓qe_blt, ↓qe_meth, ↓qt_loc, ↓qt_tup, ↓qt_attr, ↓qt_sub, ↓ql_nil, ↓ql_cons, ↓qb_one, ↓qb_cons, cmpV, En.put, bindE, g0, g1, g2, g3, g4, g5, g6, g7, g8, eq_int, eq_cell, tup0, tup1, me7, me8, me9, me10, me11, me12, me13, me14, me15, me16, me17, me18, me19, me20, me21, me22, me23, ms0, ms2, ms3, ms5, -List.map_set, -List.map_append, -List.map_reverse, h0, h1, t0, t1]
      exact q _

/-- what is kept of the heap -/
structure Same (X : List Nat) (σ σ' : AH) : Prop where
  len : σ.length ≤ σ'.length
  get : ∀ (i : Nat) (o : AObj), i ∉ X → σ[i]? = some o → σ'[i]? = some o

noncomputable def rank (st : St) (c : Cell) : Nat := if c.1 = 0 then c.2.toNat + 1 else if c.1 = 1 then st.H.length + c.2.toNat + 2 else 0
/-- the store's cells point down -/
structure WF (st : St) : Prop where
  heap : ∀ (a : Nat) (c : Cell), st.H[a]? = some c → Valid st c ∧ c.1 ≠ 1 ∧ (c.1 = 0 → c.2 ≤ a)
  stack : ∀ (a : Nat) (c : Cell), st.S[a]? = some c → Valid st c ∧ (c.1 = 1 → c.2 ≤ a)

theorem next_rank {st : St} (w : WF st) {c f : Cell} (hv : Valid st c) (e : nextC st c = some f) : Valid st f ∧ (f ≠ c → rank st f < rank st c) := by
  unfold nextC at e
  split at e
  · rename_i t0
    obtain ⟨a, b, d⟩ := w.heap _ _ e
    obtain ⟨h1, h2⟩ := hv.1 t0
    refine ⟨a, fun hne => ?_⟩
    unfold rank
    rw [if_pos t0]
    split
    · rename_i f0
      have h3 := d f0
      have h4 := (a.1 f0).1
      have : f.2 ≠ c.2 := fun z => hne (Prod.ext (f0.trans t0.symm) z)
      omega
    · omega
  · split at e
    · rename_i t0 t1
      obtain ⟨a, d⟩ := w.stack _ _ e
      obtain ⟨h1, h2⟩ := hv.2 t1
      refine ⟨a, fun hne => ?_⟩
      unfold rank
      rw [if_neg t0, if_pos t1]
      split
      · rename_i f0
        have := (a.1 f0).2
        omega
      · split
        · rename_i f0 f1
          have h3 := d f1
          have h4 := (a.2 f1).1
          have : f.2 ≠ c.2 := fun z => hne (Prod.ext (f1.trans t1.symm) z)
          omega
        · omega
    · cases e

theorem deref_loop {σ : AH} {so : Nat} {r : Rc} {st : St} (v : View σ so r st) (w : WF st) {cf : Cf} {Q : Fl → En → AH → Prop} : ∀ (k : Nat) (c : Cell) (ρ : En), rank st c < k → Valid st c → ρ 0 = some (.obj so) → ρ 1 = some (cV c) →
    (∀ ρ', Q (.ret (cV (derefP st k c))) ρ' σ) → whileGo (wE P1 cf (.kbool true)) (wSL P1 cf derefBody) k ρ σ Q
  | 0, c, ρ, hk, _, _, _, _ => absurd hk (Nat.not_lt_zero _)
  | k + 1, c, ρ, hk, hv, h0, h1, q => by
    show wSL P1 cf derefBody ρ σ (fun f ρ' σ'' => match f with | .ret u => Q (.ret u) ρ' σ'' | _ => whileGo (wE P1 cf (.kbool true)) (wSL P1 cf derefBody) k ρ' σ'' Q)
    refine deref_body v hv h0 h1 ?_
    cases e : nextC st c with
    | none =>
      simp only [derefP, e] at q ⊢
      exact q
    | some f =>
      simp only [derefP, e] at q ⊢
      obtain ⟨hf, hlt⟩ := next_rank w hv e
      by_cases z : f = c
      · rw [if_pos z] at q ⊢; exact q
      · rw [if_neg z] at q ⊢
        have := hlt z
        exact fun ρ' r0 r1 => deref_loop v w k f ρ' (by omega) hf r0 r1 q

/-- where a chain ends -/
noncomputable def der (st : St) (c : Cell) : Cell := derefP st (st.H.length + st.S.length + 3) c
theorem rank_lt {st : St} {c : Cell} (hv : Valid st c) : rank st c < st.H.length + st.S.length + 3 := by
  unfold rank
  split
  · rename_i h; have := (hv.1 h).2; omega
  · split
    · rename_i h; have := (hv.2 h).2; omega
    · omega

theorem deref_ok {m : Nat} {σ : AH} {so : Nat} {r : Rc} {st : St} (v : View σ so r st) (w : WF st) {c : Cell} (hv : Valid st c) {Q : V → AH → Prop} (q : Q (cV (der st c)) σ) : callN P1 fns (m + 1) 14 [.obj so, cV c] σ Q := by
  refine call_of (fn := f_Cells_deref) rfl rfl ?_
  show wSL P1 _ (.cons (.while (.kbool true) derefBody) .nil) _ _ _
  simp only [↓qq_nil, ↓qq_cons, ↓qs_assign, ↓qs_augLoc, ↓qs_augSub, ↓qs_expr, ↓qs_ite, ↓qs_while, ↓qs_range, ↓qs_for2, ↓qs_forL, ↓qs_forF, ↓qs_ret, ↓qs_retN, ↓qs_cont, ↓qs_pass]
  exact ⟨_, deref_loop v w (st.H.length + st.S.length + 3) c _ (rank_lt hv) hv rfl rfl fun ρ' => q⟩

theorem derefP_end {st : St} (w : WF st) : ∀ (k : Nat) (c : Cell), rank st c < k → Valid st c → Valid st (derefP st k c) ∧ (nextC st (derefP st k c) = none ∨ nextC st (derefP st k c) = some (derefP st k c))
  | 0, c, hk, _ => absurd hk (Nat.not_lt_zero _)
  | k + 1, c, hk, hv => by
    unfold derefP
    cases e : nextC st c with
    | none => exact ⟨hv, .inl e⟩
    | some f =>
      dsimp only
      obtain ⟨hf, hlt⟩ := next_rank w hv e
      by_cases z : f = c
      · rw [if_pos z]; exact ⟨hv, .inr (z ▸ e)⟩
      · rw [if_neg z]
        have := hlt z
        exact derefP_end w k f (by omega) hf
theorem der_end {st : St} (w : WF st) {c : Cell} (hv : Valid st c) : Valid st (der st c) ∧ (nextC st (der st c) = none ∨ nextC st (der st c) = some (der st c)) := derefP_end w _ c (rank_lt hv) hv

end Mine
end

/-! C2 -/
noncomputable section
set_option maxHeartbeats 200000
open PySem
namespace Mine

theorem set_get {σ : AH} {i j : Nat} {o : AObj} : (σ.set i o)[j]? = if i = j then (if i < σ.length then some o else none) else σ[j]? := by
  rw [List.getElem?_set]

theorem Same.refl (X : List Nat) (σ : AH) : Same X σ σ := ⟨Nat.le_refl _, fun _ _ _ e => e⟩
theorem Same.trans {X : List Nat} {σ σ₁ σ₂ : AH} (x : Same X σ σ₁) (y : Same X σ₁ σ₂) : Same X σ σ₂ := ⟨Nat.le_trans x.len y.len, fun i o m e => y.get i o m (x.get i o m e)⟩
theorem Same.weak {X Y : List Nat} {σ σ₁ : AH} (x : Same X σ σ₁) (h : ∀ i ∈ X, i ∈ Y) : Same Y σ σ₁ := ⟨x.len, fun i o m e => x.get i o (fun z => m (h i z)) e⟩
theorem Same.set {X : List Nat} {σ : AH} {i : Nat} {o : AObj} (h : i ∈ X) : Same X σ (σ.set i o) := ⟨by simp, fun j p m e => by
  rw [set_get, if_neg (fun z : i = j => m (z ▸ h))]; exact e⟩
theorem Same.app {X : List Nat} {σ : AH} (l : AH) : Same X σ (σ ++ l) := ⟨by simp, fun j p m e => by
  rw [List.getElem?_append_left (List.getElem?_eq_some_iff.mp e).1]; exact e⟩
/-- what lies above may be turned -/
theorem Same.strong {X Y : List Nat} {σ σ₁ : AH} (x : Same Y σ σ₁) (h : ∀ i ∈ Y, i ∈ X ∨ σ.length ≤ i) : Same X σ σ₁ := ⟨x.len, fun i o m e => x.get i o (fun z => (h i z).elim m fun q => by
  have := (List.getElem?_eq_some_iff.mp e).1; omega) e⟩

section
variable {σ σ' : AH} {so : Nat} {r : Rc} {st : St}
theorem View.same (v : View σ so r st) {X : List Nat} (x : Same X σ σ') (h1 : so ∉ X) (h2 : r.d ∉ X) (h3 : r.h ∉ X) (h4 : r.s ∉ X) (h5 : r.t ∉ X) : View σ' so r st :=
  ⟨x.get _ _ h1 v.inst, x.get _ _ h2 v.ns, x.get _ _ h3 v.h, x.get _ _ h4 v.s, x.get _ _ h5 v.t, v.dhs, v.dht, v.dst, v.h0, v.s0, v.t0, v.hl, v.sl, v.tl⟩
theorem ne_of_get {i j : Nat} {a b : AObj} (x : σ[i]? = some a) (y : σ[j]? = some b) (h : a ≠ b) : i ≠ j := fun z => by
  subst z; rw [x] at y; exact h (Option.some.inj y)
theorem View.d_so_h (v : View σ so r st) : r.h ≠ so := ne_of_get v.h v.inst (fun h => nomatch h)
theorem View.d_so_s (v : View σ so r st) : r.s ≠ so := ne_of_get v.s v.inst (fun h => nomatch h)
theorem View.d_so_t (v : View σ so r st) : r.t ≠ so := ne_of_get v.t v.inst (fun h => nomatch h)
theorem View.d_so_d (v : View σ so r st) : r.d ≠ so := ne_of_get v.ns v.inst (fun h => nomatch h)
theorem View.d_d_h (v : View σ so r st) : r.h ≠ r.d := ne_of_get v.h v.ns (fun h => nomatch h)
theorem View.d_d_s (v : View σ so r st) : r.s ≠ r.d := ne_of_get v.s v.ns (fun h => nomatch h)
theorem View.d_d_t (v : View σ so r st) : r.t ≠ r.d := ne_of_get v.t v.ns (fun h => nomatch h)
theorem lt_of_get {i : Nat} {a : AObj} (x : σ[i]? = some a) : i < σ.length := (List.getElem?_eq_some_iff.mp x).1

theorem View.setH (v : View σ so r st) {H' : List Cell} (hl : H'.length < 60) : View (σ.set r.h (.list (H'.map cV))) so r { st with H := H' } := by
  refine ⟨?_, ?_, ?_, ?_, ?_, v.dhs, v.dht, v.dst, v.h0, v.s0, v.t0, hl, v.sl, v.tl⟩
  · rw [set_get, if_neg v.d_so_h]; exact v.inst
  · rw [set_get, if_neg v.d_d_h]; exact v.ns
  · rw [set_get, if_pos rfl, if_pos (lt_of_get v.h)]
  · rw [set_get, if_neg v.dhs]; exact v.s
  · rw [set_get, if_neg v.dht]; exact v.t
theorem View.setS (v : View σ so r st) {S' : List Cell} (hl : S'.length < 60) : View (σ.set r.s (.list (S'.map cV))) so r { st with S := S' } := by
  refine ⟨?_, ?_, ?_, ?_, ?_, v.dhs, v.dht, v.dst, v.h0, v.s0, v.t0, v.hl, hl, v.tl⟩
  · rw [set_get, if_neg v.d_so_s]; exact v.inst
  · rw [set_get, if_neg v.d_d_s]; exact v.ns
  · rw [set_get, if_neg (Ne.symm v.dhs)]; exact v.h
  · rw [set_get, if_pos rfl, if_pos (lt_of_get v.s)]
  · rw [set_get, if_neg v.dst]; exact v.t
theorem View.setT (v : View σ so r st) {T' : List Int} (hl : T'.length < 900000) : View (σ.set r.t (.list (T'.map .int))) so r { st with T := T' } := by
  refine ⟨?_, ?_, ?_, ?_, ?_, v.dhs, v.dht, v.dst, v.h0, v.s0, v.t0, v.hl, v.sl, hl⟩
  · rw [set_get, if_neg v.d_so_t]; exact v.inst
  · rw [set_get, if_neg v.d_d_t]; exact v.ns
  · rw [set_get, if_neg (Ne.symm v.dht)]; exact v.h
  · rw [set_get, if_neg (Ne.symm v.dst)]; exact v.s
  · rw [set_get, if_pos rfl, if_pos (lt_of_get v.t)]
theorem View.setD (v : View σ so r st) (st' : St) (e1 : st'.H = st.H) (e2 : st'.S = st.S) (e3 : st'.T = st.T) : View (σ.set r.d (.ns (nsL r st'))) so r st' := by
  refine ⟨?_, ?_, ?_, ?_, ?_, v.dhs, v.dht, v.dst, v.h0, v.s0, v.t0, by rw [e1]; exact v.hl, by rw [e2]; exact v.sl, by rw [e3]; exact v.tl⟩
  · rw [set_get, if_neg v.d_so_d]; exact v.inst
  · rw [set_get, if_pos rfl, if_pos (lt_of_get v.ns)]
  · rw [set_get, if_neg (Ne.symm v.d_d_h), e1]; exact v.h
  · rw [set_get, if_neg (Ne.symm v.d_d_s), e2]; exact v.s
  · rw [set_get, if_neg (Ne.symm v.d_d_t), e3]; exact v.t
theorem View.app (v : View σ so r st) (l : AH) : View (σ ++ l) so r st := v.same (X := []) (.app l) (by simp) (by simp) (by simp) (by simp) (by simp)

theorem list_put {o : Nat} {xs : List V} {k : Int} {u : V} (e : σ[o]? = some (.list xs)) (hz : o ≠ 0) (h0 : 0 ≤ k) (hk : k.toNat < xs.length) (hl : xs.length < 1000000) : itemPut σ (.obj o) (.int k) u = some (σ.set o (.list (xs.set k.toNat u))) := by
  have h2 : k < xs.length := by omega
  simp only [itemPut, e, idx, if_neg hz]
  rw [if_pos ⟨h0, h2, hl⟩]
  rfl
theorem View.hput (v : View σ so r st) {k : Int} (c : Cell) (h0 : 0 ≤ k) (hk : k.toNat < st.H.length) : itemPut σ (.obj r.h) (.int k) (cV c) = some (σ.set r.h (.list ((st.H.set k.toNat c).map cV))) := by
  rw [list_put v.h v.h0 h0 (by rw [List.length_map]; exact hk) (by rw [List.length_map]; have := v.hl; omega), List.map_set]
theorem View.sput (v : View σ so r st) {k : Int} (c : Cell) (h0 : 0 ≤ k) (hk : k.toNat < st.S.length) : itemPut σ (.obj r.s) (.int k) (cV c) = some (σ.set r.s (.list ((st.S.set k.toNat c).map cV))) := by
  rw [list_put v.s v.s0 h0 (by rw [List.length_map]; exact hk) (by rw [List.length_map]; have := v.sl; omega), List.map_set]
theorem list_app {o : Nat} {xs : List V} {u : V} (e : σ[o]? = some (.list xs)) (hz : o ≠ 0) (hl : xs.length < 1000000) : methV σ 0 (.obj o) [u] = some (.none, σ.set o (.list (xs ++ [u]))) := by
  rw [meth_of e]
  show (if _ then _ else _) = _
  rw [if_pos ⟨hz, hl⟩]
theorem list_mok {o : Nat} {xs : List V} (e : σ[o]? = some (.list xs)) : methOk σ 0 (.obj o) = true ∧ methOk σ 1 (.obj o) = true := ⟨ok_of e rfl, ok_of e rfl⟩
theorem View.tapp (v : View σ so r st) (k : Int) : methV σ 0 (.obj r.t) [.int k] = some (.none, σ.set r.t (.list ((st.T ++ [k]).map .int))) := by
  rw [list_app v.t v.t0 (by rw [List.length_map]; have := v.tl; omega), List.map_append]; rfl
theorem View.tok (v : View σ so r st) : methOk σ 0 (.obj r.t) = true := (list_mok v.t).1
theorem list_len {o : Nat} {xs : List V} (e : σ[o]? = some (.list xs)) (hl : xs.length < 1000000) : bltV σ 0 [.obj o] = some (.int xs.length, σ) := by
  simp only [bltV, listAt, e]
  rw [if_pos hl]
theorem View.hlen (v : View σ so r st) : bltV σ 0 [.obj r.h] = some (.int st.H.length, σ) := by
  rw [list_len v.h (by rw [List.length_map]; have := v.hl; omega), List.length_map]
theorem View.slen (v : View σ so r st) : bltV σ 0 [.obj r.s] = some (.int st.S.length, σ) := by
  rw [list_len v.s (by rw [List.length_map]; have := v.sl; omega), List.length_map]
theorem View.tlen (v : View σ so r st) : bltV σ 0 [.obj r.t] = some (.int st.T.length, σ) := by
  rw [list_len v.t (by rw [List.length_map]; have := v.tl; omega), List.length_map]
end

noncomputable def trailed (st : St) (e : Int) : Bool := if 0 ≤ e then decide (e < st.hb) else decide (-1 - e < st.bb)
noncomputable def entry (c : Cell) : Int := if c.1 = 0 then c.2 else -1 - c.2
noncomputable def bindP (st : St) (c x : Cell) : St := { st with
  H := if c.1 = 0 then st.H.set c.2.toNat x else st.H
  S := if c.1 = 0 then st.S else st.S.set c.2.toNat x
  T := if (if c.1 = 0 then c.2 < st.hb else c.2 < st.bb) then st.T ++ [entry c] else st.T }

theorem bind_ok {m : Nat} {σ : AH} {so : Nat} {r : Rc} {st : St} (v : View σ so r st) {c x : Cell} (hc : c.1 = 0 ∨ c.1 = 1) (hv : Valid st c) (tl : st.T.length < 890000) {Q : V → AH → Prop}
    (q : ∀ σ', View σ' so r (bindP st c x) → Same [r.h, r.s, r.t] σ σ' → σ'.length = σ.length → Q .none σ') : callN P1 fns (m + 1) 16 [.obj so, cV c, cV x] σ Q := by
  refine call_of (fn := f_Cells_bind) rfl rfl ?_
  by_cases t0 : c.1 = 0
  · obtain ⟨a, b⟩ := hv.1 t0
    have v1 := v.setH (H' := st.H.set c.2.toNat x) (by rw [List.length_set]; exact v.hl)
    simp [f_Cells_bind, ↓qq_nil, ↓qq_cons, ↓qs_assign, ↓qs_augLoc, ↓qs_augSub, ↓qs_expr, ↓qs_ite, ↓qs_while, ↓qs_range, ↓qs_for2, ↓qs_forL, ↓qs_forF, ↓qs_ret, ↓qs_retN, ↓qs_cont, ↓qs_pass, ↓qe_loc, ↓qe_kint, ↓qe_kstr, ↓qe_kbool, ↓qe_knone, ↓qe_glob, ↓qe_tup, ↓qe_list, ↓qe_dict0, ↓qe_attr, ↓qe_sub, ↓qe_slTo, ↓qe_cmp, ↓qe_boolop, ↓qe_not, ↓qe_neg, ↓qe_bin, ↓qe_ife, ↓qe_callF, ↓qe_callM, ↓qe_new, ↓qe_blt, ↓qe_meth, ↓qt_loc, ↓qt_tup, ↓qt_attr, ↓qt_sub, ↓ql_nil, ↓ql_cons, ↓qb_one, ↓qb_cons, cmpV, En.put, bindE, g0, g1, g2, g3, g4, g5, g6, g7, g8, eq_int, eq_cell, tup0, tup1, me7, me8, me9, me10, me11, me12, me13, me14, me15, me16, me17, me18, me19, me20, me21, me22, me23, ms0, ms2, ms3, ms5, -List.map_set, -List.map_append, -List.map_reverse, t0, v.a6, v.hput x a b, v1.a9]
    by_cases hb : c.2 < st.hb
    · have v2 := v1.setT (T' := st.T ++ [c.2]) (by rw [List.length_append]; simp; omega)
      simp [hb, ↓qq_nil, ↓qq_cons, ↓qs_assign, ↓qs_augLoc, ↓qs_augSub, ↓qs_expr, ↓qs_ite, ↓qs_while, ↓qs_range, ↓qs_for2, ↓qs_forL, ↓qs_forF, ↓qs_ret, ↓qs_retN, ↓qs_cont, ↓qs_pass, ↓qe_loc, ↓qe_kint, ↓qe_kstr, ↓qe_kbool, ↓qe_knone, ↓qe_glob, ↓qe_tup, ↓qe_list, ↓qe_dict0, ↓qe_attr, ↓qe_sub, ↓qe_slTo, ↓qe_cmp, ↓qe_boolop, ↓qe_not, ↓qe_neg, ↓qe_bin, ↓qe_ife, ↓qe_callF, ↓qe_callM, ↓qe_new, ↓qe_blt, ↓qe_meth, ↓qt_loc, ↓qt_tup, ↓qt_attr, ↓qt_sub, ↓ql_nil, ↓ql_cons, ↓qb_one, ↓qb_cons, cmpV, En.put, bindE, g0, g1, g2, g3, g4, g5, g6, g7, g8, eq_int, eq_cell, tup0, tup1, me7, me8, me9, me10, me11, me12, me13, me14, me15, me16, me17, me18, me19, me20, me21, me22, me23, ms0, ms2, ms3, ms5, -List.map_set, -List.map_append, -List.map_reverse, v1.a8, v1.tok, v1.tapp]
      refine q _ ?_ ((Same.set (i := r.h) (by simp)).trans (Same.set (i := r.t) (by simp))) (by simp)
      simpa [bindP, t0, hb, entry] using v2
    · simp [hb, ↓qq_nil, ↓qq_cons, ↓qs_assign, ↓qs_augLoc, ↓qs_augSub, ↓qs_expr, ↓qs_ite, ↓qs_while, ↓qs_range, ↓qs_for2, ↓qs_forL, ↓qs_forF, ↓qs_ret, ↓qs_retN, ↓qs_cont, ↓qs_pass, ↓qe_loc, ↓qe_kint, ↓qe_kstr, ↓qe_kbool, ↓qe_knone, ↓qe_glob, ↓qe_tup, ↓qe_list, ↓qe_dict0, ↓qe_attr, ↓qe_sub, ↓qe_slTo, ↓qe_cmp, ↓qe_boolop, ↓qe_not, ↓qe_neg, ↓qe_bin, ↓qe_ife, ↓qe_callF, ↓qe_callM, ↓qe_new, ↓qe_blt, ↓qe_meth, ↓qt_loc, ↓qt_tup, ↓qt_attr, ↓qt_sub, ↓ql_nil, ↓ql_cons, ↓qb_one, ↓qb_cons, cmpV, En.put, bindE, g0, g1, g2, g3, g4, g5, g6, g7, g8, eq_int, eq_cell, tup0, tup1, me7, me8, me9, me10, me11, me12, me13, me14, me15, me16, me17, me18, me19, me20, me21, me22, me23, ms0, ms2, ms3, ms5, -List.map_set, -List.map_append, -List.map_reverse]
      refine q _ ?_ (Same.set (i := r.h) (by simp)) (by simp)
      simpa [bindP, t0, hb] using v1
  · have t1 : c.1 = 1 := hc.resolve_left t0
    obtain ⟨a, b⟩ := hv.2 t1
    have v1 := v.setS (S' := st.S.set c.2.toNat x) (by rw [List.length_set]; exact v.sl)
    simp [f_Cells_bind, ↓qq_nil, ↓qq_cons, ↓qs_assign, ↓qs_augLoc, ↓qs_augSub, ↓qs_expr, ↓qs_ite, ↓qs_while, ↓qs_range, ↓qs_for2, ↓qs_forL, ↓qs_forF, ↓qs_ret, ↓qs_retN, ↓qs_cont, ↓qs_pass, ↓qe_loc, ↓qe_kint, ↓qe_kstr, ↓qe_kbool, ↓qe_knone, ↓qe_glob, ↓qe_tup, ↓qe_list, ↓qe_dict0, ↓qe_attr, ↓qe_sub, ↓qe_slTo, ↓qe_cmp, ↓qe_boolop, ↓qe_not, ↓qe_neg, ↓qe_bin, ↓qe_ife, ↓qe_callF, ↓qe_callM, ↓qe_new, ↓qe_blt, ↓qe_meth, ↓qt_loc, ↓qt_tup, ↓qt_attr, ↓qt_sub, ↓ql_nil, ↓ql_cons, ↓qb_one, ↓qb_cons, cmpV, En.put, bindE, g0, g1, g2, g3, g4, g5, g6, g7, g8, eq_int, eq_cell, tup0, tup1, me7, me8, me9, me10, me11, me12, me13, me14, me15, me16, me17, me18, me19, me20, me21, me22, me23, ms0, ms2, ms3, ms5, -List.map_set, -List.map_append, -List.map_reverse, t1, v.a7, v.sput x a b, v1.a10]
    by_cases hb : c.2 < st.bb
    · have v2 := v1.setT (T' := st.T ++ [-1 - c.2]) (by rw [List.length_append]; simp; omega)
      simp [hb, ↓qq_nil, ↓qq_cons, ↓qs_assign, ↓qs_augLoc, ↓qs_augSub, ↓qs_expr, ↓qs_ite, ↓qs_while, ↓qs_range, ↓qs_for2, ↓qs_forL, ↓qs_forF, ↓qs_ret, ↓qs_retN, ↓qs_cont, ↓qs_pass, ↓qe_loc, ↓qe_kint, ↓qe_kstr, ↓qe_kbool, ↓qe_knone, ↓qe_glob, ↓qe_tup, ↓qe_list, ↓qe_dict0, ↓qe_attr, ↓qe_sub, ↓qe_slTo, ↓qe_cmp, ↓qe_boolop, ↓qe_not, ↓qe_neg, ↓qe_bin, ↓qe_ife, ↓qe_callF, ↓qe_callM, ↓qe_new, ↓qe_blt, ↓qe_meth, ↓qt_loc, ↓qt_tup, ↓qt_attr, ↓qt_sub, ↓ql_nil, ↓ql_cons, ↓qb_one, ↓qb_cons, cmpV, En.put, bindE, g0, g1, g2, g3, g4, g5, g6, g7, g8, eq_int, eq_cell, tup0, tup1, me7, me8, me9, me10, me11, me12, me13, me14, me15, me16, me17, me18, me19, me20, me21, me22, me23, ms0, ms2, ms3, ms5, -List.map_set, -List.map_append, -List.map_reverse, v1.a8, v1.tok, binV, v1.tapp]
      refine q _ ?_ ((Same.set (i := r.s) (by simp)).trans (Same.set (i := r.t) (by simp))) (by simp)
      simpa [bindP, t1, hb, entry] using v2
    · simp [hb, ↓qq_nil, ↓qq_cons, ↓qs_assign, ↓qs_augLoc, ↓qs_augSub, ↓qs_expr, ↓qs_ite, ↓qs_while, ↓qs_range, ↓qs_for2, ↓qs_forL, ↓qs_forF, ↓qs_ret, ↓qs_retN, ↓qs_cont, ↓qs_pass, ↓qe_loc, ↓qe_kint, ↓qe_kstr, ↓qe_kbool, ↓qe_knone, ↓qe_glob, ↓qe_tup, ↓qe_list, ↓qe_dict0, ↓qe_attr, ↓qe_sub, ↓qe_slTo, ↓qe_cmp, ↓qe_boolop, ↓qe_not, ↓qe_neg, ↓qe_bin, ↓qe_ife, ↓qe_callF, ↓qe_callM, ↓qe_new, ↓qe_blt, ↓qe_meth, ↓qt_loc, ↓qt_tup, ↓qt_attr, ↓qt_sub, ↓ql_nil, ↓ql_cons, ↓qb_one, ↓qb_cons, cmpV, En.put, bindE, g0, g1, g2, g3, g4, g5, g6, g7, g8, eq_int, eq_cell, tup0, tup1, me7, me8, me9, me10, me11, me12, me13, me14, me15, me16, me17, me18, me19, me20, me21, me22, me23, ms0, ms2, ms3, ms5, -List.map_set, -List.map_append, -List.map_reverse]
      refine q _ ?_ (Same.set (i := r.s) (by simp)) (by simp)
      simpa [bindP, t1, hb] using v1

end Mine
end

/-! C3 -/
noncomputable section
set_option maxHeartbeats 200000
open PySem
namespace Mine

noncomputable def isV (c : Cell) : Prop := c.1 = 0 ∨ c.1 = 1
noncomputable instance (c : Cell) : Decidable (isV c) := by unfold isV; infer_instance
noncomputable def pairP (st : St) (a b : Cell) : St := if a = b then st else if a.1 = b.1 then (if a.2 < b.2 then bindP st b a else bindP st a b) else if a.1 = 1 then bindP st a b else bindP st b a

section
variable {m : Nat} {σ : AH} {so : Nat} {r : Rc} {st : St} {Q : V → AH → Prop}

theorem pair_ok (v : View σ so r st) {a b : Cell} (ha : isV a) (hb : isV b) (va : Valid st a) (vb : Valid st b) (tl : st.T.length < 890000)
    (q : ∀ σ', View σ' so r (pairP st a b) → Same [r.h, r.s, r.t] σ σ' → σ'.length = σ.length → Q .none σ') : callN P1 fns (m + 2) 17 [.obj so, cV a, cV b] σ Q := by
  refine call_of (fn := f_Cells_bind_pair) rfl rfl ?_
  unfold pairP at q
  by_cases e : a = b
  · subst e
    rw [if_pos rfl] at q
    simp [f_Cells_bind_pair, ↓qq_nil, ↓qq_cons, ↓qs_assign, ↓qs_augLoc, ↓qs_augSub, ↓qs_expr, ↓qs_ite, ↓qs_while, ↓qs_range, ↓qs_for2, ↓qs_forL, ↓qs_forF, ↓qs_ret, ↓qs_retN, ↓qs_cont, ↓qs_pass, ↓qe_loc, ↓qe_kint, ↓qe_kstr, ↓qe_kbool, ↓qe_knone, ↓qe_glob, ↓qe_tup, ↓qe_list, ↓qe_dict0, ↓qe_attr, ↓qe_sub, ↓qe_slTo, ↓qe_cmp, ↓qe_boolop, ↓qe_not, ↓qe_neg, ↓qe_bin, ↓qe_ife, ↓qe_callF, ↓qe_callM, ↓qe_new, ↓qe_blt, ↓qe_meth, ↓qt_loc, ↓qt_tup, ↓qt_attr, ↓qt_sub, ↓ql_nil, ↓ql_cons, ↓qb_one, ↓qb_cons, cmpV, En.put, bindE, g0, g1, g2, g3, g4, g5, g6, g7, g8, eq_int, eq_cell, tup0, tup1, me7, me8, me9, me10, me11, me12, me13, me14, me15, me16, me17, me18, me19, me20, me21, me22, me23, ms0, ms2, ms3, ms5, -List.map_set, -List.map_append, -List.map_reverse]
    exact q σ v (.refl _ _) rfl
  · rw [if_neg e] at q
    by_cases e1 : a.1 = b.1
    · rw [if_pos e1] at q
      by_cases e2 : a.2 < b.2
      · rw [if_pos e2] at q
        simp [f_Cells_bind_pair, ↓qq_nil, ↓qq_cons, ↓qs_assign, ↓qs_augLoc, ↓qs_augSub, ↓qs_expr, ↓qs_ite, ↓qs_while, ↓qs_range, ↓qs_for2, ↓qs_forL, ↓qs_forF, ↓qs_ret, ↓qs_retN, ↓qs_cont, ↓qs_pass, ↓qe_loc, ↓qe_kint, ↓qe_kstr, ↓qe_kbool, ↓qe_knone, ↓qe_glob, ↓qe_tup, ↓qe_list, ↓qe_dict0, ↓qe_attr, ↓qe_sub, ↓qe_slTo, ↓qe_cmp, ↓qe_boolop, ↓qe_not, ↓qe_neg, ↓qe_bin, ↓qe_ife, ↓qe_callF, ↓qe_callM, ↓qe_new, ↓qe_blt, ↓qe_meth, ↓qt_loc, ↓qt_tup, ↓qt_attr, ↓qt_sub, ↓ql_nil, ↓ql_cons, ↓qb_one, ↓qb_cons, cmpV, En.put, bindE, g0, g1, g2, g3, g4, g5, g6, g7, g8, eq_int, eq_cell, tup0, tup1, me7, me8, me9, me10, me11, me12, me13, me14, me15, me16, me17, me18, me19, me20, me21, me22, me23, ms0, ms2, ms3, ms5, -List.map_set, -List.map_append, -List.map_reverse, e, e1, e2, v.cl]
        exact bind_ok v hb vb tl fun σ' x y z => q σ' x y z
      · rw [if_neg e2] at q
        simp [f_Cells_bind_pair, ↓qq_nil, ↓qq_cons, ↓qs_assign, ↓qs_augLoc, ↓qs_augSub, ↓qs_expr, ↓qs_ite, ↓qs_while, ↓qs_range, ↓qs_for2, ↓qs_forL, ↓qs_forF, ↓qs_ret, ↓qs_retN, ↓qs_cont, ↓qs_pass, ↓qe_loc, ↓qe_kint, ↓qe_kstr, ↓qe_kbool, ↓qe_knone, ↓qe_glob, ↓qe_tup, ↓qe_list, ↓qe_dict0, ↓qe_attr, ↓qe_sub, ↓qe_slTo, ↓qe_cmp, ↓qe_boolop, ↓qe_not, ↓qe_neg, ↓qe_bin, ↓qe_ife, ↓qe_callF, ↓qe_callM, ↓qe_new, ↓qe_blt, ↓qe_meth, ↓qt_loc, ↓qt_tup, ↓qt_attr, ↓qt_sub, ↓ql_nil, ↓ql_cons, ↓qb_one, ↓qb_cons, cmpV, En.put, bindE, g0, g1, g2, g3, g4, g5, g6, g7, g8, eq_int, eq_cell, tup0, tup1, me7, me8, me9, me10, me11, me12, me13, me14, me15, me16, me17, me18, me19, me20, me21, me22, me23, ms0, ms2, ms3, ms5, -List.map_set, -List.map_append, -List.map_reverse, e, e1, e2, v.cl]
        exact bind_ok v ha va tl fun σ' x y z => q σ' x y z
    · rw [if_neg e1] at q
      by_cases e2 : a.1 = 1
      · rw [if_pos e2] at q
        have e3 : ¬ 1 = b.1 := fun z => e1 (e2.trans z)
        simp [f_Cells_bind_pair, ↓qq_nil, ↓qq_cons, ↓qs_assign, ↓qs_augLoc, ↓qs_augSub, ↓qs_expr, ↓qs_ite, ↓qs_while, ↓qs_range, ↓qs_for2, ↓qs_forL, ↓qs_forF, ↓qs_ret, ↓qs_retN, ↓qs_cont, ↓qs_pass, ↓qe_loc, ↓qe_kint, ↓qe_kstr, ↓qe_kbool, ↓qe_knone, ↓qe_glob, ↓qe_tup, ↓qe_list, ↓qe_dict0, ↓qe_attr, ↓qe_sub, ↓qe_slTo, ↓qe_cmp, ↓qe_boolop, ↓qe_not, ↓qe_neg, ↓qe_bin, ↓qe_ife, ↓qe_callF, ↓qe_callM, ↓qe_new, ↓qe_blt, ↓qe_meth, ↓qt_loc, ↓qt_tup, ↓qt_attr, ↓qt_sub, ↓ql_nil, ↓ql_cons, ↓qb_one, ↓qb_cons, cmpV, En.put, bindE, g0, g1, g2, g3, g4, g5, g6, g7, g8, eq_int, eq_cell, tup0, tup1, me7, me8, me9, me10, me11, me12, me13, me14, me15, me16, me17, me18, me19, me20, me21, me22, me23, ms0, ms2, ms3, ms5, -List.map_set, -List.map_append, -List.map_reverse, e, e1, e2, e3, v.cl]
        exact bind_ok v ha va tl fun σ' x y z => q σ' x y z
      · rw [if_neg e2] at q
        simp [f_Cells_bind_pair, ↓qq_nil, ↓qq_cons, ↓qs_assign, ↓qs_augLoc, ↓qs_augSub, ↓qs_expr, ↓qs_ite, ↓qs_while, ↓qs_range, ↓qs_for2, ↓qs_forL, ↓qs_forF, ↓qs_ret, ↓qs_retN, ↓qs_cont, ↓qs_pass, ↓qe_loc, ↓qe_kint, ↓qe_kstr, ↓qe_kbool, ↓qe_knone, ↓qe_glob, ↓qe_tup, ↓qe_list, ↓qe_dict0, ↓qe_attr, ↓qe_sub, ↓qe_slTo, ↓qe_cmp, ↓qe_boolop, ↓qe_not, ↓qe_neg, ↓qe_bin, ↓qe_ife, ↓qe_callF, ↓qe_callM, ↓qe_new, ↓qe_blt, ↓qe_meth, ↓qt_loc, ↓qt_tup, ↓qt_attr, ↓qt_sub, ↓ql_nil, ↓ql_cons, ↓qb_one, ↓qb_cons, cmpV, En.put, bindE, g0, g1, g2, g3, g4, g5, g6, g7, g8, eq_int, eq_cell, tup0, tup1, me7, me8, me9, me10, me11, me12, me13, me14, me15, me16, me17, me18, me19, me20, me21, me22, me23, ms0, ms2, ms3, ms5, -List.map_set, -List.map_append, -List.map_reverse, e, e1, e2, v.cl]
        exact bind_ok v hb vb tl fun σ' x y z => q σ' x y z

theorem unbound_ok (v : View σ so r st) {c : Cell} (hv : Valid st c) (q : Q (.bool (decide (nextC st c = some c))) σ) : callN P1 fns (m + 1) 15 [.obj so, cV c] σ Q := by
  refine call_of (fn := f_Cells_is_unbound) rfl rfl ?_
  by_cases t0 : c.1 = 0
  · obtain ⟨a, b⟩ := hv.1 t0
    have e : nextC st c = some st.H[c.2.toNat] := by simp only [nextC, t0, if_true]; exact List.getElem?_eq_getElem b
    rw [e] at q
    simp [f_Cells_is_unbound, ↓qq_nil, ↓qq_cons, ↓qs_assign, ↓qs_augLoc, ↓qs_augSub, ↓qs_expr, ↓qs_ite, ↓qs_while, ↓qs_range, ↓qs_for2, ↓qs_forL, ↓qs_forF, ↓qs_ret, ↓qs_retN, ↓qs_cont, ↓qs_pass, ↓qe_loc, ↓qe_kint, ↓qe_kstr, ↓qe_kbool, ↓qe_knone, ↓qe_glob, ↓qe_tup, ↓qe_list, ↓qe_dict0, ↓qe_attr, ↓qe_sub, ↓qe_slTo, ↓qe_cmp, ↓qe_boolop, ↓qe_not, ↓qe_neg, ↓qe_bin, ↓qe_ife, ↓qe_callF, ↓qe_callM, ↓qe_new, ↓qe_blt, ↓qe_meth, ↓qt_loc, ↓qt_tup, ↓qt_attr, ↓qt_sub, ↓ql_nil, ↓ql_cons, ↓qb_one, ↓qb_cons, cmpV, En.put, bindE, g0, g1, g2, g3, g4, g5, g6, g7, g8, eq_int, eq_cell, tup0, tup1, me7, me8, me9, me10, me11, me12, me13, me14, me15, me16, me17, me18, me19, me20, me21, me22, me23, ms0, ms2, ms3, ms5, -List.map_set, -List.map_append, -List.map_reverse, t0, v.a6, v.hget a (List.getElem?_eq_getElem b)]
    simpa using q
  · by_cases t1 : c.1 = 1
    · obtain ⟨a, b⟩ := hv.2 t1
      have e : nextC st c = some st.S[c.2.toNat] := by simp [nextC, t1]
      rw [e] at q
      simp [f_Cells_is_unbound, ↓qq_nil, ↓qq_cons, ↓qs_assign, ↓qs_augLoc, ↓qs_augSub, ↓qs_expr, ↓qs_ite, ↓qs_while, ↓qs_range, ↓qs_for2, ↓qs_forL, ↓qs_forF, ↓qs_ret, ↓qs_retN, ↓qs_cont, ↓qs_pass, ↓qe_loc, ↓qe_kint, ↓qe_kstr, ↓qe_kbool, ↓qe_knone, ↓qe_glob, ↓qe_tup, ↓qe_list, ↓qe_dict0, ↓qe_attr, ↓qe_sub, ↓qe_slTo, ↓qe_cmp, ↓qe_boolop, ↓qe_not, ↓qe_neg, ↓qe_bin, ↓qe_ife, ↓qe_callF, ↓qe_callM, ↓qe_new, ↓qe_blt, ↓qe_meth, ↓qt_loc, ↓qt_tup, ↓qt_attr, ↓qt_sub, ↓ql_nil, ↓ql_cons, ↓qb_one, ↓qb_cons, cmpV, En.put, bindE, g0, g1, g2, g3, g4, g5, g6, g7, g8, eq_int, eq_cell, tup0, tup1, me7, me8, me9, me10, me11, me12, me13, me14, me15, me16, me17, me18, me19, me20, me21, me22, me23, ms0, ms2, ms3, ms5, -List.map_set, -List.map_append, -List.map_reverse, t1, v.a7, v.sget a (List.getElem?_eq_getElem b)]
      simpa using q
    · have e : nextC st c = none := by simp only [nextC, t0, t1, if_false]
      rw [e] at q
      simp [f_Cells_is_unbound, ↓qq_nil, ↓qq_cons, ↓qs_assign, ↓qs_augLoc, ↓qs_augSub, ↓qs_expr, ↓qs_ite, ↓qs_while, ↓qs_range, ↓qs_for2, ↓qs_forL, ↓qs_forF, ↓qs_ret, ↓qs_retN, ↓qs_cont, ↓qs_pass, ↓qe_loc, ↓qe_kint, ↓qe_kstr, ↓qe_kbool, ↓qe_knone, ↓qe_glob, ↓qe_tup, ↓qe_list, ↓qe_dict0, ↓qe_attr, ↓qe_sub, ↓qe_slTo, ↓qe_cmp, ↓qe_boolop, ↓qe_not, ↓qe_neg, ↓qe_bin, ↓qe_ife, ↓qe_callF, ↓qe_callM, ↓qe_new, ↓qe_blt, ↓qe_meth, ↓qt_loc, ↓qt_tup, ↓qt_attr, ↓qt_sub, ↓ql_nil, ↓ql_cons, ↓qb_one, ↓qb_cons, cmpV, En.put, bindE, g0, g1, g2, g3, g4, g5, g6, g7, g8, eq_int, eq_cell, tup0, tup1, me7, me8, me9, me10, me11, me12, me13, me14, me15, me16, me17, me18, me19, me20, me21, me22, me23, ms0, ms2, ms3, ms5, -List.map_set, -List.map_append, -List.map_reverse, t0, t1]
      simpa using q

theorem mark_ok (v : View σ so r st) (q : Q (.int st.T.length) σ) : callN P1 fns (m + 1) 19 [.obj so] σ Q := by
  refine call_of (fn := f_Cells_mark) rfl rfl ?_
  simp [f_Cells_mark, ↓qq_nil, ↓qq_cons, ↓qs_assign, ↓qs_augLoc, ↓qs_augSub, ↓qs_expr, ↓qs_ite, ↓qs_while, ↓qs_range, ↓qs_for2, ↓qs_forL, ↓qs_forF, ↓qs_ret, ↓qs_retN, ↓qs_cont, ↓qs_pass, ↓qe_loc, ↓qe_kint, ↓qe_kstr, ↓qe_kbool, ↓qe_knone, ↓qe_glob, ↓qe_tup, ↓qe_list, ↓qe_dict0, ↓qe_attr, ↓qe_sub, ↓qe_slTo, ↓qe_cmp, ↓qe_boolop, ↓qe_not, ↓qe_neg, ↓qe_bin, ↓qe_ife, ↓qe_callF, ↓qe_callM, ↓qe_new, ↓qe_blt, ↓qe_meth, ↓qt_loc, ↓qt_tup, ↓qt_attr, ↓qt_sub, ↓ql_nil, ↓ql_cons, ↓qb_one, ↓qb_cons, cmpV, En.put, bindE, g0, g1, g2, g3, g4, g5, g6, g7, g8, eq_int, eq_cell, tup0, tup1, me7, me8, me9, me10, me11, me12, me13, me14, me15, me16, me17, me18, me19, me20, me21, me22, me23, ms0, ms2, ms3, ms5, -List.map_set, -List.map_append, -List.map_reverse, v.a8, v.tlen]
  exact q
theorem compound_ok {w : V} {c : Cell} (q : Q (.bool (decide (c.1 = 2 ∨ c.1 = 3))) σ) : callN P1 fns (m + 1) 22 [w, cV c] σ Q := by
  refine call_of (fn := f_Cells_is_compound) rfl rfl ?_
  by_cases t0 : c.1 = 2
  · simp [f_Cells_is_compound, ↓qq_nil, ↓qq_cons, ↓qs_assign, ↓qs_augLoc, ↓qs_augSub, ↓qs_expr, ↓qs_ite, ↓qs_while, ↓qs_range, ↓qs_for2, ↓qs_forL, ↓qs_forF, ↓qs_ret, ↓qs_retN, ↓qs_cont, ↓qs_pass, ↓qe_loc, ↓qe_kint, ↓qe_kstr, ↓qe_kbool, ↓qe_knone, ↓qe_glob, ↓qe_tup, ↓qe_list, ↓qe_dict0, ↓qe_attr, ↓qe_sub, ↓qe_slTo, ↓qe_cmp, ↓qe_boolop, ↓qe_not, ↓qe_neg, ↓qe_bin, ↓qe_ife, ↓qe_callF, ↓qe_callM, ↓qe_new, ↓qe_blt, ↓qe_meth, ↓qt_loc, ↓qt_tup, ↓qt_attr, ↓qt_sub, ↓ql_nil, ↓ql_cons, ↓qb_one, ↓qb_cons, cmpV, En.put, bindE, g0, g1, g2, g3, g4, g5, g6, g7, g8, eq_int, eq_cell, tup0, tup1, me7, me8, me9, me10, me11, me12, me13, me14, me15, me16, me17, me18, me19, me20, me21, me22, me23, ms0, ms2, ms3, ms5, -List.map_set, -List.map_append, -List.map_reverse, t0]; simpa [t0] using q
  · simp [f_Cells_is_compound, ↓qq_nil, ↓qq_cons, ↓qs_assign, ↓qs_augLoc, ↓qs_augSub, ↓qs_expr, ↓qs_ite, ↓qs_while, ↓qs_range, ↓qs_for2, ↓qs_forL, ↓qs_forF, ↓qs_ret, ↓qs_retN, ↓qs_cont, ↓qs_pass, ↓qe_loc, ↓qe_kint, ↓qe_kstr, ↓qe_kbool, ↓qe_knone, ↓qe_glob, ↓qe_tup, ↓qe_list, ↓qe_dict0, ↓qe_attr, ↓qe_sub, ↓qe_slTo, ↓qe_cmp, ↓qe_boolop, ↓qe_not, ↓qe_neg, ↓qe_bin, ↓qe_ife, ↓qe_callF, ↓qe_callM, ↓qe_new, ↓qe_blt, ↓qe_meth, ↓qt_loc, ↓qt_tup, ↓qt_attr, ↓qt_sub, ↓ql_nil, ↓ql_cons, ↓qb_one, ↓qb_cons, cmpV, En.put, bindE, g0, g1, g2, g3, g4, g5, g6, g7, g8, eq_int, eq_cell, tup0, tup1, me7, me8, me9, me10, me11, me12, me13, me14, me15, me16, me17, me18, me19, me20, me21, me22, me23, ms0, ms2, ms3, ms5, -List.map_set, -List.map_append, -List.map_reverse, t0]; simpa [t0] using q
theorem base_ok {w : V} {c : Cell} (q : Q (.int (if c.1 = 3 then c.2 else c.2 + 1)) σ) : callN P1 fns (m + 1) 24 [w, cV c] σ Q := by
  refine call_of (fn := f_Cells_base) rfl rfl ?_
  by_cases t0 : c.1 = 3
  · simp [f_Cells_base, ↓qq_nil, ↓qq_cons, ↓qs_assign, ↓qs_augLoc, ↓qs_augSub, ↓qs_expr, ↓qs_ite, ↓qs_while, ↓qs_range, ↓qs_for2, ↓qs_forL, ↓qs_forF, ↓qs_ret, ↓qs_retN, ↓qs_cont, ↓qs_pass, ↓qe_loc, ↓qe_kint, ↓qe_kstr, ↓qe_kbool, ↓qe_knone, ↓qe_glob, ↓qe_tup, ↓qe_list, ↓qe_dict0, ↓qe_attr, ↓qe_sub, ↓qe_slTo, ↓qe_cmp, ↓qe_boolop, ↓qe_not, ↓qe_neg, ↓qe_bin, ↓qe_ife, ↓qe_callF, ↓qe_callM, ↓qe_new, ↓qe_blt, ↓qe_meth, ↓qt_loc, ↓qt_tup, ↓qt_attr, ↓qt_sub, ↓ql_nil, ↓ql_cons, ↓qb_one, ↓qb_cons, cmpV, En.put, bindE, g0, g1, g2, g3, g4, g5, g6, g7, g8, eq_int, eq_cell, tup0, tup1, me7, me8, me9, me10, me11, me12, me13, me14, me15, me16, me17, me18, me19, me20, me21, me22, me23, ms0, ms2, ms3, ms5, -List.map_set, -List.map_append, -List.map_reverse, t0]; simpa [t0] using q
  · simp [f_Cells_base, ↓qq_nil, ↓qq_cons, ↓qs_assign, ↓qs_augLoc, ↓qs_augSub, ↓qs_expr, ↓qs_ite, ↓qs_while, ↓qs_range, ↓qs_for2, ↓qs_forL, ↓qs_forF, ↓qs_ret, ↓qs_retN, ↓qs_cont, ↓qs_pass, ↓qe_loc, ↓qe_kint, ↓qe_kstr, ↓qe_kbool, ↓qe_knone, ↓qe_glob, ↓qe_tup, ↓qe_list, ↓qe_dict0, ↓qe_attr, ↓qe_sub, ↓qe_slTo, ↓qe_cmp, ↓qe_boolop, ↓qe_not, ↓qe_neg, ↓qe_bin, ↓qe_ife, ↓qe_callF, ↓qe_callM, ↓qe_new, ↓qe_blt, ↓qe_meth, ↓qt_loc, ↓qt_tup, ↓qt_attr, ↓qt_sub, ↓ql_nil, ↓ql_cons, ↓qb_one, ↓qb_cons, cmpV, En.put, bindE, g0, g1, g2, g3, g4, g5, g6, g7, g8, eq_int, eq_cell, tup0, tup1, me7, me8, me9, me10, me11, me12, me13, me14, me15, me16, me17, me18, me19, me20, me21, me22, me23, ms0, ms2, ms3, ms5, -List.map_set, -List.map_append, -List.map_reverse, t0, binV]; simpa [t0] using q
theorem variable_ok {c : Cell} (q : Q (.bool (decide (isV c))) σ) : callN P1 fns (m + 1) 32 [cV c] σ Q := by
  refine call_of (fn := f_is_variable) rfl rfl ?_
  by_cases t0 : c.1 = 0
  · simp [f_is_variable, ↓qq_nil, ↓qq_cons, ↓qs_assign, ↓qs_augLoc, ↓qs_augSub, ↓qs_expr, ↓qs_ite, ↓qs_while, ↓qs_range, ↓qs_for2, ↓qs_forL, ↓qs_forF, ↓qs_ret, ↓qs_retN, ↓qs_cont, ↓qs_pass, ↓qe_loc, ↓qe_kint, ↓qe_kstr, ↓qe_kbool, ↓qe_knone, ↓qe_glob, ↓qe_tup, ↓qe_list, ↓qe_dict0, ↓qe_attr, ↓qe_sub, ↓qe_slTo, ↓qe_cmp, ↓qe_boolop, ↓qe_not, ↓qe_neg, ↓qe_bin, ↓qe_ife, ↓qe_callF, ↓qe_callM, ↓qe_new, ↓qe_blt, ↓qe_meth, ↓qt_loc, ↓qt_tup, ↓qt_attr, ↓qt_sub, ↓ql_nil, ↓ql_cons, ↓qb_one, ↓qb_cons, cmpV, En.put, bindE, g0, g1, g2, g3, g4, g5, g6, g7, g8, eq_int, eq_cell, tup0, tup1, me7, me8, me9, me10, me11, me12, me13, me14, me15, me16, me17, me18, me19, me20, me21, me22, me23, ms0, ms2, ms3, ms5, -List.map_set, -List.map_append, -List.map_reverse, t0]; simpa [isV, t0] using q
  · simp [f_is_variable, ↓qq_nil, ↓qq_cons, ↓qs_assign, ↓qs_augLoc, ↓qs_augSub, ↓qs_expr, ↓qs_ite, ↓qs_while, ↓qs_range, ↓qs_for2, ↓qs_forL, ↓qs_forF, ↓qs_ret, ↓qs_retN, ↓qs_cont, ↓qs_pass, ↓qe_loc, ↓qe_kint, ↓qe_kstr, ↓qe_kbool, ↓qe_knone, ↓qe_glob, ↓qe_tup, ↓qe_list, ↓qe_dict0, ↓qe_attr, ↓qe_sub, ↓qe_slTo, ↓qe_cmp, ↓qe_boolop, ↓qe_not, ↓qe_neg, ↓qe_bin, ↓qe_ife, ↓qe_callF, ↓qe_callM, ↓qe_new, ↓qe_blt, ↓qe_meth, ↓qt_loc, ↓qt_tup, ↓qt_attr, ↓qt_sub, ↓ql_nil, ↓ql_cons, ↓qb_one, ↓qb_cons, cmpV, En.put, bindE, g0, g1, g2, g3, g4, g5, g6, g7, g8, eq_int, eq_cell, tup0, tup1, me7, me8, me9, me10, me11, me12, me13, me14, me15, me16, me17, me18, me19, me20, me21, me22, me23, ms0, ms2, ms3, ms5, -List.map_set, -List.map_append, -List.map_reverse, t0]; simpa [isV, t0] using q

/-- cells that name something of the heap stand within it -/
noncomputable def Sound (st : St) (c : Cell) : Prop := (c.1 = 2 ∨ c.1 = 3) → 0 ≤ c.2 ∧ c.2.toNat < st.H.length
noncomputable def shape (st : St) (a b : Cell) : Bool := if a.1 ≠ b.1 then false else if a.1 = 3 then true else decide (st.H[a.2.toNat]? = st.H[b.2.toNat]?)
theorem shape_ok (v : View σ so r st) {a b : Cell} (hc : a.1 = 2 ∨ a.1 = 3) (sa : Sound st a) (sb : Sound st b) (q : Q (.bool (shape st a b)) σ) : callN P1 fns (m + 1) 31 [.obj so, cV a, cV b] σ Q := by
  refine call_of (fn := f_same_shape) rfl rfl ?_
  unfold shape at q
  by_cases e : a.1 = b.1
  · rw [if_neg (by simpa using e)] at q
    by_cases t3 : a.1 = 3
    · rw [if_pos t3] at q
      have t4 : b.1 = 3 := e ▸ t3
      simp [f_same_shape, ↓qq_nil, ↓qq_cons, ↓qs_assign, ↓qs_augLoc, ↓qs_augSub, ↓qs_expr, ↓qs_ite, ↓qs_while, ↓qs_range, ↓qs_for2, ↓qs_forL, ↓qs_forF, ↓qs_ret, ↓qs_retN, ↓qs_cont, ↓qs_pass, ↓qe_loc, ↓qe_kint, ↓qe_kstr, ↓qe_kbool, ↓qe_knone, ↓qe_glob, ↓qe_tup, ↓qe_list, ↓qe_dict0, ↓qe_attr, ↓qe_sub, ↓qe_slTo, ↓qe_cmp, ↓qe_boolop, ↓qe_not, ↓qe_neg, ↓qe_bin, ↓qe_ife, ↓qe_callF, ↓qe_callM, ↓qe_new, ↓qe_blt, ↓qe_meth, ↓qt_loc, ↓qt_tup, ↓qt_attr, ↓qt_sub, ↓ql_nil, ↓ql_cons, ↓qb_one, ↓qb_cons, cmpV, En.put, bindE, g0, g1, g2, g3, g4, g5, g6, g7, g8, eq_int, eq_cell, tup0, tup1, me7, me8, me9, me10, me11, me12, me13, me14, me15, me16, me17, me18, me19, me20, me21, me22, me23, ms0, ms2, ms3, ms5, -List.map_set, -List.map_append, -List.map_reverse, e, t4]
      exact q
    · rw [if_neg t3] at q
      have t2 : a.1 = 2 := hc.resolve_right t3
      obtain ⟨h1, h2⟩ := sa hc
      obtain ⟨h3, h4⟩ := sb (e ▸ hc)
      have t5 : ¬ b.1 = 3 := e ▸ t3
      rw [List.getElem?_eq_getElem h2, List.getElem?_eq_getElem h4] at q
      simp [f_same_shape, ↓qq_nil, ↓qq_cons, ↓qs_assign, ↓qs_augLoc, ↓qs_augSub, ↓qs_expr, ↓qs_ite, ↓qs_while, ↓qs_range, ↓qs_for2, ↓qs_forL, ↓qs_forF, ↓qs_ret, ↓qs_retN, ↓qs_cont, ↓qs_pass, ↓qe_loc, ↓qe_kint, ↓qe_kstr, ↓qe_kbool, ↓qe_knone, ↓qe_glob, ↓qe_tup, ↓qe_list, ↓qe_dict0, ↓qe_attr, ↓qe_sub, ↓qe_slTo, ↓qe_cmp, ↓qe_boolop, ↓qe_not, ↓qe_neg, ↓qe_bin, ↓qe_ife, ↓qe_callF, ↓qe_callM, ↓qe_new, ↓qe_blt, ↓qe_meth, ↓qt_loc, ↓qt_tup, ↓qt_attr, ↓qt_sub, ↓ql_nil, ↓ql_cons, ↓qb_one, ↓qb_cons, cmpV, En.put, bindE, g0, g1, g2, g3, g4, g5, g6, g7, g8, eq_int, eq_cell, tup0, tup1, me7, me8, me9, me10, me11, me12, me13, me14, me15, me16, me17, me18, me19, me20, me21, me22, me23, ms0, ms2, ms3, ms5, -List.map_set, -List.map_append, -List.map_reverse, e, t5, v.a6, v.hget h1 (List.getElem?_eq_getElem h2), v.hget h3 (List.getElem?_eq_getElem h4)]
      simpa using q
  · rw [if_pos (by simpa using e)] at q
    simp [f_same_shape, ↓qq_nil, ↓qq_cons, ↓qs_assign, ↓qs_augLoc, ↓qs_augSub, ↓qs_expr, ↓qs_ite, ↓qs_while, ↓qs_range, ↓qs_for2, ↓qs_forL, ↓qs_forF, ↓qs_ret, ↓qs_retN, ↓qs_cont, ↓qs_pass, ↓qe_loc, ↓qe_kint, ↓qe_kstr, ↓qe_kbool, ↓qe_knone, ↓qe_glob, ↓qe_tup, ↓qe_list, ↓qe_dict0, ↓qe_attr, ↓qe_sub, ↓qe_slTo, ↓qe_cmp, ↓qe_boolop, ↓qe_not, ↓qe_neg, ↓qe_bin, ↓qe_ife, ↓qe_callF, ↓qe_callM, ↓qe_new, ↓qe_blt, ↓qe_meth, ↓qt_loc, ↓qt_tup, ↓qt_attr, ↓qt_sub, ↓ql_nil, ↓ql_cons, ↓qb_one, ↓qb_cons, cmpV, En.put, bindE, g0, g1, g2, g3, g4, g5, g6, g7, g8, eq_int, eq_cell, tup0, tup1, me7, me8, me9, me10, me11, me12, me13, me14, me15, me16, me17, me18, me19, me20, me21, me22, me23, ms0, ms2, ms3, ms5, -List.map_set, -List.map_append, -List.map_reverse, e]
    exact q
end

end Mine
end

/-! C4 -/
noncomputable section
set_option maxHeartbeats 200000
open PySem
namespace Mine

noncomputable def uns (p : List Cell × List Cell) (e : Int) : List Cell × List Cell := if 0 ≤ e then (p.1.set e.toNat (0, e), p.2) else (p.1, p.2.set (-1 - e).toNat (1, -1 - e))
noncomputable def unsL : List Cell × List Cell → List Int → List Cell × List Cell
  | p, [] => p
  | p, e :: l => unsL (uns p e) l
theorem uns_len (p : List Cell × List Cell) (e : Int) : (uns p e).1.length = p.1.length ∧ (uns p e).2.length = p.2.length := by
  unfold uns; split <;> simp
theorem unsL_len : ∀ (l : List Int) (p : List Cell × List Cell), (unsL p l).1.length = p.1.length ∧ (unsL p l).2.length = p.2.length
  | [], p => ⟨rfl, rfl⟩
  | e :: l, p => by
    obtain ⟨a, b⟩ := unsL_len l (uns p e)
    obtain ⟨c, d⟩ := uns_len p e
    exact ⟨a.trans c, b.trans d⟩
noncomputable def EntryOk (hl sl : Nat) (e : Int) : Prop := if 0 ≤ e then e.toNat < hl else (-1 - e).toNat < sl

section
variable {m : Nat} {σ : AH} {so : Nat} {r : Rc} {st : St}
theorem View.tpop (v : View σ so r st) {T0 : List Int} {e : Int} (h : st.T = T0 ++ [e]) : methV σ 1 (.obj r.t) [] = some (.int e, σ.set r.t (.list (T0.map .int))) := by
  have ht := v.t
  rw [h, List.map_append] at ht
  rw [meth_of ht]
  simp only [mObj, mList, List.map_cons, List.map_nil, List.getLast?_append, List.getLast?_singleton, Option.some_or]
  rw [if_pos ⟨v.t0, by have := v.tl; rw [h] at this; simp at this ⊢; omega⟩]
  simp
theorem View.tok1 (v : View σ so r st) : methOk σ 1 (.obj r.t) = true := (list_mok v.t).2

noncomputable def undoCond : E := (.cmp .gt (.blt 0 (.cons (.attr (.loc 0) 8) .nil)) (.loc 1))
noncomputable def undoBody : SL := (.cons (.assign (.loc 2) (.meth 1 (.attr (.loc 0) 8) .nil)) (.cons (.ite (.cmp .ge (.loc 2) (.kint 0)) (.cons (.assign (.sub (.attr (.loc 0) 6) (.loc 2)) (.tup (.cons (.glob 0) (.cons (.loc 2) .nil)))) .nil) (.cons (.assign (.loc 3) (.bin .sub (.neg (.kint 1)) (.loc 2))) (.cons (.assign (.sub (.attr (.loc 0) 7) (.loc 3)) (.tup (.cons (.glob 1) (.cons (.loc 3) .nil)))) .nil))) .nil))

theorem cV_eq (a b : Int) : V.tup [.int a, .int b] = cV (a, b) := rfl

theorem undo_body (v : View σ so r st) {T0 : List Int} {e : Int} (h : st.T = T0 ++ [e]) (ho : EntryOk st.H.length st.S.length e) {cf : Cf} {Q : Fl → En → AH → Prop} {ρ : En} {mk : V} (h0 : ρ 0 = some (.obj so)) (h1 : ρ 1 = some mk)
    (q : ∀ σ' ρ', ρ' 0 = some (.obj so) → ρ' 1 = some mk → View σ' so r { st with H := (uns (st.H, st.S) e).1, S := (uns (st.H, st.S) e).2, T := T0 } → Same [r.h, r.s, r.t] σ σ' → σ'.length = σ.length → Q .next ρ' σ') : wSL P1 cf undoBody ρ σ Q := by
  have v1 := v.setT (T' := T0) (by have := v.tl; rw [h] at this; simp at this; omega)
  unfold EntryOk at ho
  by_cases z : 0 ≤ e
  · rw [if_pos z] at ho
    have v2 := v1.setH (H' := st.H.set e.toNat (0, e)) (by rw [List.length_set]; exact v.hl)
    have hp := v1.hput (0, e) z ho
    simp [undoBody, ↓qq_nil, ↓qq_cons, ↓qs_assign, ↓qs_augLoc, ↓qs_augSub, ↓qs_expr, ↓qs_ite, ↓qs_while, ↓qs_range, ↓qs_for2, ↓qs_forL, ↓qs_forF, ↓qs_ret, ↓qs_retN, ↓qs_cont, ↓qs_pass, ↓qe_loc, ↓qe_kint, ↓qe_kstr, ↓qe_kbool, ↓qe_knone, ↓qe_glob, ↓qe_tup, ↓qe_list, ↓qe_dict0, ↓qe_attr, ↓qe_sub, ↓qe_slTo, ↓qe_cmp, ↓qe_boolop, ↓qe_not, ↓qe_neg, ↓qe_bin, ↓qe_ife, ↓qe_callF, ↓qe_callM, ↓qe_new, ↓qe_blt, ↓qe_meth, ↓qt_loc, ↓qt_tup, ↓qt_attr, ↓qt_sub, ↓ql_nil, ↓ql_cons, ↓qb_one, ↓qb_cons, cmpV, En.put, bindE, g0, g1, g2, g3, g4, g5, g6, g7, g8, eq_int, eq_cell, tup0, tup1, me7, me8, me9, me10, me11, me12, me13, me14, me15, me16, me17, me18, me19, me20, me21, me22, me23, ms0, ms2, ms3, ms5, -List.map_set, -List.map_append, -List.map_reverse, h0, h1, v.a8, v.tok1, v.tpop h, z, v1.a6, cV_eq, hp]
    refine q _ _ (by simp [En.put, h0]) (by simp [En.put, h1]) ?_ ((Same.set (i := r.t) (by simp)).trans (Same.set (i := r.h) (by simp))) (by simp)
    simpa [uns, z] using v2
  · rw [if_neg z] at ho
    have v2 := v1.setS (S' := st.S.set (-1 - e).toNat (1, -1 - e)) (by rw [List.length_set]; exact v.sl)
    have hp := v1.sput (1, -1 - e) (by omega) ho
    simp [undoBody, ↓qq_nil, ↓qq_cons, ↓qs_assign, ↓qs_augLoc, ↓qs_augSub, ↓qs_expr, ↓qs_ite, ↓qs_while, ↓qs_range, ↓qs_for2, ↓qs_forL, ↓qs_forF, ↓qs_ret, ↓qs_retN, ↓qs_cont, ↓qs_pass, ↓qe_loc, ↓qe_kint, ↓qe_kstr, ↓qe_kbool, ↓qe_knone, ↓qe_glob, ↓qe_tup, ↓qe_list, ↓qe_dict0, ↓qe_attr, ↓qe_sub, ↓qe_slTo, ↓qe_cmp, ↓qe_boolop, ↓qe_not, ↓qe_neg, ↓qe_bin, ↓qe_ife, ↓qe_callF, ↓qe_callM, ↓qe_new, ↓qe_blt, ↓qe_meth, ↓qt_loc, ↓qt_tup, ↓qt_attr, ↓qt_sub, ↓ql_nil, ↓ql_cons, ↓qb_one, ↓qb_cons, cmpV, En.put, bindE, g0, g1, g2, g3, g4, g5, g6, g7, g8, eq_int, eq_cell, tup0, tup1, me7, me8, me9, me10, me11, me12, me13, me14, me15, me16, me17, me18, me19, me20, me21, me22, me23, ms0, ms2, ms3, ms5, -List.map_set, -List.map_append, -List.map_reverse, h0, h1, v.a8, v.tok1, v.tpop h, z, v1.a7, binV, cV_eq, hp]
    refine q _ _ (by simp [En.put, h0]) (by simp [En.put, h1]) ?_ ((Same.set (i := r.t) (by simp)).trans (Same.set (i := r.s) (by simp))) (by simp)
    simpa [uns, z] using v2

theorem undo_loop {so : Nat} {r : Rc} {cf : Cf} {T0 : List Int} : ∀ (l : List Int) {σ : AH} {st : St} {ρ : En} {Q : Fl → En → AH → Prop}, View σ so r st → st.T = T0 ++ l.reverse → (∀ e ∈ l, EntryOk st.H.length st.S.length e) → ρ 0 = some (.obj so) → ρ 1 = some (.int T0.length) →
    (∀ σ' ρ', View σ' so r { st with H := (unsL (st.H, st.S) l).1, S := (unsL (st.H, st.S) l).2, T := T0 } → Same [r.h, r.s, r.t] σ σ' → σ'.length = σ.length → Q .next ρ' σ') → whileGo (wE P1 cf undoCond) (wSL P1 cf undoBody) (l.length + 1) ρ σ Q
  | [], σ, st, ρ, Q, v, e, ho, h0, h1, q => by
    have e' : st.T = T0 := by simpa using e
    show wE P1 cf undoCond ρ σ _
    simp [undoCond, ↓qq_nil, ↓qq_cons, ↓qs_assign, ↓qs_augLoc, ↓qs_augSub, ↓qs_expr, ↓qs_ite, ↓qs_while, ↓qs_range, ↓qs_for2, ↓qs_forL, ↓qs_forF, ↓qs_ret, ↓qs_retN, ↓qs_cont, ↓qs_pass, ↓qe_loc, ↓qe_kint, ↓qe_kstr, ↓qe_kbool, ↓qe_knone, ↓qe_glob, ↓qe_tup, ↓qe_list, ↓qe_dict0, ↓qe_attr, ↓qe_sub, ↓qe_slTo, ↓qe_cmp, ↓qe_boolop, ↓qe_not, ↓qe_neg, ↓qe_bin, ↓qe_ife, ↓qe_callF, ↓qe_callM, ↓qe_new, ↓qe_blt, ↓qe_meth, ↓qt_loc, ↓qt_tup, ↓qt_attr, ↓qt_sub, ↓ql_nil, ↓ql_cons, ↓qb_one, ↓qb_cons, cmpV, En.put, bindE, g0, g1, g2, g3, g4, g5, g6, g7, g8, eq_int, eq_cell, tup0, tup1, me7, me8, me9, me10, me11, me12, me13, me14, me15, me16, me17, me18, me19, me20, me21, me22, me23, ms0, ms2, ms3, ms5, -List.map_set, -List.map_append, -List.map_reverse, h0, h1, v.a8, v.tlen, e']
    refine q σ ρ ?_ (.refl _ _) rfl
    simpa [unsL, ← e'] using v
  | x :: l, σ, st, ρ, Q, v, e, ho, h0, h1, q => by
    have e' : st.T = (T0 ++ l.reverse) ++ [x] := by simpa using e
    show wE P1 cf undoCond ρ σ _
    simp only [undoCond, ↓qq_nil, ↓qq_cons, ↓qs_assign, ↓qs_augLoc, ↓qs_augSub, ↓qs_expr, ↓qs_ite, ↓qs_while, ↓qs_range, ↓qs_for2, ↓qs_forL, ↓qs_forF, ↓qs_ret, ↓qs_retN, ↓qs_cont, ↓qs_pass, ↓qe_loc, ↓qe_kint, ↓qe_kstr, ↓qe_kbool, ↓qe_knone, ↓qe_glob, ↓qe_tup, ↓qe_list, ↓qe_dict0, ↓qe_attr, ↓qe_sub, ↓qe_slTo, ↓qe_cmp, ↓qe_boolop, ↓qe_not, ↓qe_neg, ↓qe_bin, ↓qe_ife, ↓qe_callF, ↓qe_callM, ↓qe_new, ↓qe_blt, ↓qe_meth, ↓qt_loc, ↓qt_tup, ↓qt_attr, ↓qt_sub, ↓ql_nil, ↓ql_cons, ↓qb_one, ↓qb_cons, cmpV, En.put, bindE, g0, g1, g2, g3, g4, g5, g6, g7, g8, eq_int, eq_cell, tup0, tup1, me7, me8, me9, me10, me11, me12, me13, me14, me15, me16, me17, me18, me19, me20, me21, me22, me23, ms0, ms2, ms3, ms5, -List.map_set, -List.map_append, -List.map_reverse, ↓ql_nil, ↓ql_cons, h0, h1, v.a8, v.tlen]
    rw [if_pos (by rw [e']; simp; omega)]
    refine undo_body v e' (ho x (.head _)) h0 h1 fun σ' ρ' r0 r1 v' s' l' => ?_
    refine undo_loop l v' rfl (fun y m => ?_) r0 r1 fun σ'' ρ'' v'' s'' l'' => q σ'' ρ'' v'' (s'.trans s'') (l''.trans l')
    obtain ⟨a, b⟩ := uns_len (st.H, st.S) x
    show EntryOk (uns (st.H, st.S) x).1.length (uns (st.H, st.S) x).2.length y
    rw [a, b]
    exact ho y (.tail _ m)

theorem undo_ok (v : View σ so r st) {T0 l : List Int} (e : st.T = T0 ++ l) (ho : ∀ x ∈ l, EntryOk st.H.length st.S.length x) {Q : V → AH → Prop}
    (q : ∀ σ', View σ' so r { st with H := (unsL (st.H, st.S) l.reverse).1, S := (unsL (st.H, st.S) l.reverse).2, T := T0 } → Same [r.h, r.s, r.t] σ σ' → σ'.length = σ.length → Q .none σ') :
    callN P1 fns (m + 1) 20 [.obj so, .int T0.length] σ Q := by
  refine call_of (fn := f_Cells_undo_to) rfl rfl ?_
  show wSL P1 _ (.cons (.while undoCond undoBody) .nil) _ _ _
  simp only [↓qq_nil, ↓qq_cons, ↓qs_assign, ↓qs_augLoc, ↓qs_augSub, ↓qs_expr, ↓qs_ite, ↓qs_while, ↓qs_range, ↓qs_for2, ↓qs_forL, ↓qs_forF, ↓qs_ret, ↓qs_retN, ↓qs_cont, ↓qs_pass]
  exact ⟨_, undo_loop l.reverse v (by simpa using e) (fun x m => ho x (by simpa using m)) rfl rfl fun σ' ρ' v' s' l' => q σ' v' s' l'⟩
end

end Mine
end

/-! C5 -/
noncomputable section
set_option maxHeartbeats 200000
open PySem
namespace Mine

/-- things numbered as they stand -/
noncomputable def enumV {K : Type} : List K → Nat → List (K × V)
  | [], _ => []
  | k :: l, n => (k, .int n) :: enumV l (n + 1)
noncomputable def key2 (c : Int × Int) : List Int := [c.1, c.2]
structure Rs where
  d : Nat
  tx : Nat
  an : Nat
  fu : Nat
  fn : Nat
structure SyView (σ : AH) (sy : Nat) (q : Rs) (tx : List PySem.Str) (fu : List (Int × Int)) : Prop where
  inst : σ[sy]? = some (.inst 0 q.d)
  ns : σ[q.d]? = some (.ns [(0, .obj q.tx), (1, .obj q.an), (2, .obj q.fu), (3, .obj q.fn)])
  ltx : σ[q.tx]? = some (.list (tx.map .str))
  an : σ[q.an]? = some (.dictS (enumV tx 0))
  lfu : σ[q.fu]? = some (.list (fu.map cV))
  fn : σ[q.fn]? = some (.dictT (enumV (fu.map key2) 0))
  dtf : q.tx ≠ q.fu
  t0 : q.tx ≠ 0
  f0 : q.fu ≠ 0
  tl : tx.length < 1000
  fl : fu.length < 1000

section
variable {m : Nat} {σ σ' : AH} {sy : Nat} {q : Rs} {tx : List PySem.Str} {fu : List (Int × Int)}
theorem SyView.a0 (v : SyView σ sy q tx fu) : attrAt σ (.obj sy) 0 = some (.obj q.tx) := by simp [attrAt, v.inst, v.ns, List.lookup]
theorem SyView.a1 (v : SyView σ sy q tx fu) : attrAt σ (.obj sy) 1 = some (.obj q.an) := by simp [attrAt, v.inst, v.ns, List.lookup]
theorem SyView.a2 (v : SyView σ sy q tx fu) : attrAt σ (.obj sy) 2 = some (.obj q.fu) := by simp [attrAt, v.inst, v.ns, List.lookup]
theorem SyView.a3 (v : SyView σ sy q tx fu) : attrAt σ (.obj sy) 3 = some (.obj q.fn) := by simp [attrAt, v.inst, v.ns, List.lookup]
theorem SyView.cl (v : SyView σ sy q tx fu) : instOf σ (.obj sy) = some 0 := by simp [instOf, v.inst, v.ns]
theorem SyView.same (v : SyView σ sy q tx fu) {X : List Nat} (x : Same X σ σ') (h : ∀ i ∈ X, i ∉ [sy, q.d, q.tx, q.an, q.fu, q.fn]) : SyView σ' sy q tx fu :=
  ⟨x.get _ _ (fun z => h _ z (by simp)) v.inst, x.get _ _ (fun z => h _ z (by simp)) v.ns, x.get _ _ (fun z => h _ z (by simp)) v.ltx, x.get _ _ (fun z => h _ z (by simp)) v.an, x.get _ _ (fun z => h _ z (by simp)) v.lfu, x.get _ _ (fun z => h _ z (by simp)) v.fn, v.dtf, v.t0, v.f0, v.tl, v.fl⟩
theorem SyView.lt (v : SyView σ sy q tx fu) : ∀ i ∈ [sy, q.d, q.tx, q.an, q.fu, q.fn], i < σ.length := List.forall_mem_cons.mpr ⟨(List.getElem?_eq_some_iff.mp v.inst).1, List.forall_mem_cons.mpr ⟨(List.getElem?_eq_some_iff.mp v.ns).1, List.forall_mem_cons.mpr ⟨(List.getElem?_eq_some_iff.mp v.ltx).1, List.forall_mem_cons.mpr ⟨(List.getElem?_eq_some_iff.mp v.an).1, List.forall_mem_cons.mpr ⟨(List.getElem?_eq_some_iff.mp v.lfu).1, List.forall_mem_cons.mpr ⟨(List.getElem?_eq_some_iff.mp v.fn).1, fun _ hm => nomatch hm⟩⟩⟩⟩⟩⟩
theorem SyView.fget (v : SyView σ sy q tx fu) {k : Int} {c : Int × Int} (h0 : 0 ≤ k) (hk : fu[k.toNat]? = some c) : itemAt σ (.obj q.fu) (.int k) = some (cV c) :=
  list_item v.lfu h0 (by rw [List.length_map]; have := v.fl; omega) (by rw [List.getElem?_map, hk]; rfl)

theorem arity_ok (v : SyView σ sy q tx fu) {k : Int} {c : Int × Int} (h0 : 0 ≤ k) (hk : fu[k.toNat]? = some c) {Q : V → AH → Prop} (qq : Q (.int c.2) σ) : callN P1 fns (m + 1) 8 [.obj sy, .int k] σ Q := by
  refine call_of (fn := f_Symbols_arity) rfl rfl ?_
  simp [f_Symbols_arity, ↓qq_nil, ↓qq_cons, ↓qs_assign, ↓qs_augLoc, ↓qs_augSub, ↓qs_expr, ↓qs_ite, ↓qs_while, ↓qs_range, ↓qs_for2, ↓qs_forL, ↓qs_forF, ↓qs_ret, ↓qs_retN, ↓qs_cont, ↓qs_pass, ↓qe_loc, ↓qe_kint, ↓qe_kstr, ↓qe_kbool, ↓qe_knone, ↓qe_glob, ↓qe_tup, ↓qe_list, ↓qe_dict0, ↓qe_attr, ↓qe_sub, ↓qe_slTo, ↓qe_cmp, ↓qe_boolop, ↓qe_not, ↓qe_neg, ↓qe_bin, ↓qe_ife, ↓qe_callF, ↓qe_callM, ↓qe_new, ↓qe_blt, ↓qe_meth, ↓qt_loc, ↓qt_tup, ↓qt_attr, ↓qt_sub, ↓ql_nil, ↓ql_cons, ↓qb_one, ↓qb_cons, cmpV, En.put, bindE, g0, g1, g2, g3, g4, g5, g6, g7, g8, eq_int, eq_cell, tup0, tup1, me7, me8, me9, me10, me11, me12, me13, me14, me15, me16, me17, me18, me19, me20, me21, me22, me23, ms0, ms2, ms3, ms5, -List.map_set, -List.map_append, -List.map_reverse, v.a2, v.fget h0 hk]
  exact qq
end

/-- a store with its symbols -/
structure Wd (σ : AH) (so : Nat) (r : Rc) (st : St) (q : Rs) (tx : List PySem.Str) (fu : List (Int × Int)) : Prop where
  v : View σ so r st
  y : SyView σ r.sy q tx fu
  dj : ∀ i ∈ [r.h, r.s, r.t], i ∉ [q.tx, q.fu]

section
variable {m : Nat} {σ σ' : AH} {so : Nat} {r : Rc} {st st' : St} {q : Rs} {tx : List PySem.Str} {fu : List (Int × Int)}
theorem Wd.off (w : Wd σ so r st q tx fu) : ∀ i ∈ [r.h, r.s, r.t], i ∉ [r.sy, q.d, q.tx, q.an, q.fu, q.fn] := by
  intro i hi
  have h1 := w.dj i hi
  have h2 : ∃ xs, σ[i]? = some (.list xs) := by
    simp only [List.mem_cons, List.not_mem_nil, or_false] at hi
    rcases hi with rfl | rfl | rfl
    · exact ⟨_, w.v.h⟩
    · exact ⟨_, w.v.s⟩
    · exact ⟨_, w.v.t⟩
  obtain ⟨xs, e⟩ := h2
  simp only [List.mem_cons, List.not_mem_nil, or_false, not_or] at h1 ⊢
  exact ⟨ne_of_get e w.y.inst (fun h => nomatch h), ne_of_get e w.y.ns (fun h => nomatch h), h1.1, ne_of_get e w.y.an (fun h => nomatch h), h1.2, ne_of_get e w.y.fn (fun h => nomatch h)⟩
/-- the store is turned -/
theorem Wd.turn (w : Wd σ so r st q tx fu) (v' : View σ' so r st') (x : Same [r.h, r.s, r.t] σ σ') : Wd σ' so r st' q tx fu := ⟨v', w.y.same x w.off, w.dj⟩
/-- all that the store and the symbols hold -/
noncomputable def keptL (so : Nat) (r : Rc) (q : Rs) : List Nat := [so, r.d, r.h, r.s, r.t, r.sy, q.d, q.tx, q.an, q.fu, q.fn]
theorem Wd.same (w : Wd σ so r st q tx fu) {X : List Nat} (x : Same X σ σ') (h : ∀ i ∈ X, i ∉ keptL so r q) : Wd σ' so r st q tx fu := by
  have hh : ∀ j ∈ keptL so r q, j ∉ X := fun j hj hx => h j hx hj
  refine ⟨w.v.same x (hh _ (by simp [keptL])) (hh _ (by simp [keptL])) (hh _ (by simp [keptL])) (hh _ (by simp [keptL])) (hh _ (by simp [keptL])), w.y.same x fun i hi hm => h i hi ?_, w.dj⟩
  simp only [List.mem_cons, List.not_mem_nil, or_false] at hm
  simp only [keptL, List.mem_cons, List.not_mem_nil, or_false]
  rcases hm with h | h | h | h | h | h <;> simp [h]

/-- a compound stands within the heap -/
noncomputable def Sound2 (st : St) (fu : List (Int × Int)) (c : Cell) : Prop :=
  (c.1 = 2 → 0 ≤ c.2 ∧ ∃ f a n, st.H[c.2.toNat]? = some (6, f) ∧ 0 ≤ f ∧ fu[f.toNat]? = some (a, n) ∧ 0 ≤ n ∧ n < 100 ∧ c.2.toNat + n.toNat < st.H.length) ∧ (c.1 = 3 → 0 ≤ c.2 ∧ c.2.toNat + 1 < st.H.length)
noncomputable def widthP (st : St) (fu : List (Int × Int)) (c : Cell) : Nat := if c.1 = 3 then 2 else if c.1 = 2 then match st.H[c.2.toNat]? with | some (6, f) => ((fu[f.toNat]?).map (·.2.toNat)).getD 0 | _ => 0 else 0
noncomputable def baseP (c : Cell) : Nat := if c.1 = 3 then c.2.toNat else c.2.toNat + 1
noncomputable def argsP (st : St) (fu : List (Int × Int)) (c : Cell) : List Cell := (st.H.drop (baseP c)).take (widthP st fu c)
theorem Sound2.sound {c : Cell} (h : Sound2 st fu c) : Sound st c := by
  rintro (t | t)
  · obtain ⟨a, f, b, n, e, _⟩ := h.1 t
    exact ⟨a, (List.getElem?_eq_some_iff.mp e).1⟩
  · obtain ⟨a, b⟩ := h.2 t
    exact ⟨a, by omega⟩
theorem Sound2.fits {c : Cell} (h : Sound2 st fu c) (hc : c.1 = 2 ∨ c.1 = 3) : baseP c + widthP st fu c ≤ st.H.length ∧ widthP st fu c < 100 ∧ 0 ≤ c.2 := by
  rcases hc with t | t
  · obtain ⟨a, f, b, n, e, h0, e2, n0, n1, hl⟩ := h.1 t
    have t3 : ¬ c.1 = 3 := by omega
    unfold baseP widthP
    rw [if_neg t3, if_neg t3, if_pos t, e]
    simp only [e2, Option.map_some, Option.getD_some]
    omega
  · obtain ⟨a, b⟩ := h.2 t
    unfold baseP widthP
    rw [if_pos t, if_pos t]
    omega

theorem width_ok (w : Wd σ so r st q tx fu) {c : Cell} (h : Sound2 st fu c) {Q : V → AH → Prop} (qq : Q (.int (widthP st fu c)) σ) : callN P1 fns (m + 2) 23 [.obj so, cV c] σ Q := by
  refine call_of (fn := f_Cells_width) rfl rfl ?_
  by_cases t3 : c.1 = 3
  · simp [f_Cells_width, ↓qq_nil, ↓qq_cons, ↓qs_assign, ↓qs_augLoc, ↓qs_augSub, ↓qs_expr, ↓qs_ite, ↓qs_while, ↓qs_range, ↓qs_for2, ↓qs_forL, ↓qs_forF, ↓qs_ret, ↓qs_retN, ↓qs_cont, ↓qs_pass, ↓qe_loc, ↓qe_kint, ↓qe_kstr, ↓qe_kbool, ↓qe_knone, ↓qe_glob, ↓qe_tup, ↓qe_list, ↓qe_dict0, ↓qe_attr, ↓qe_sub, ↓qe_slTo, ↓qe_cmp, ↓qe_boolop, ↓qe_not, ↓qe_neg, ↓qe_bin, ↓qe_ife, ↓qe_callF, ↓qe_callM, ↓qe_new, ↓qe_blt, ↓qe_meth, ↓qt_loc, ↓qt_tup, ↓qt_attr, ↓qt_sub, ↓ql_nil, ↓ql_cons, ↓qb_one, ↓qb_cons, cmpV, En.put, bindE, g0, g1, g2, g3, g4, g5, g6, g7, g8, eq_int, eq_cell, tup0, tup1, me7, me8, me9, me10, me11, me12, me13, me14, me15, me16, me17, me18, me19, me20, me21, me22, me23, ms0, ms2, ms3, ms5, -List.map_set, -List.map_append, -List.map_reverse, t3]
    simpa [widthP, t3] using qq
  · by_cases t2 : c.1 = 2
    · obtain ⟨a, f, b, n, e, h0, e2, n0, n1, hl⟩ := h.1 t2
      simp [f_Cells_width, ↓qq_nil, ↓qq_cons, ↓qs_assign, ↓qs_augLoc, ↓qs_augSub, ↓qs_expr, ↓qs_ite, ↓qs_while, ↓qs_range, ↓qs_for2, ↓qs_forL, ↓qs_forF, ↓qs_ret, ↓qs_retN, ↓qs_cont, ↓qs_pass, ↓qe_loc, ↓qe_kint, ↓qe_kstr, ↓qe_kbool, ↓qe_knone, ↓qe_glob, ↓qe_tup, ↓qe_list, ↓qe_dict0, ↓qe_attr, ↓qe_sub, ↓qe_slTo, ↓qe_cmp, ↓qe_boolop, ↓qe_not, ↓qe_neg, ↓qe_bin, ↓qe_ife, ↓qe_callF, ↓qe_callM, ↓qe_new, ↓qe_blt, ↓qe_meth, ↓qt_loc, ↓qt_tup, ↓qt_attr, ↓qt_sub, ↓ql_nil, ↓ql_cons, ↓qb_one, ↓qb_cons, cmpV, En.put, bindE, g0, g1, g2, g3, g4, g5, g6, g7, g8, eq_int, eq_cell, tup0, tup1, me7, me8, me9, me10, me11, me12, me13, me14, me15, me16, me17, me18, me19, me20, me21, me22, me23, ms0, ms2, ms3, ms5, -List.map_set, -List.map_append, -List.map_reverse, t2, w.v.a6, w.v.hget a e, w.v.a4, w.y.cl]
      refine arity_ok w.y h0 e2 ?_
      have : widthP st fu c = n.toNat := by unfold widthP; rw [if_neg t3, if_pos t2, e]; simp [e2]
      rw [this] at qq
      have hn : ((n.toNat : Nat) : Int) = n := by omega
      simpa [hn] using qq
    · simp [f_Cells_width, ↓qq_nil, ↓qq_cons, ↓qs_assign, ↓qs_augLoc, ↓qs_augSub, ↓qs_expr, ↓qs_ite, ↓qs_while, ↓qs_range, ↓qs_for2, ↓qs_forL, ↓qs_forF, ↓qs_ret, ↓qs_retN, ↓qs_cont, ↓qs_pass, ↓qe_loc, ↓qe_kint, ↓qe_kstr, ↓qe_kbool, ↓qe_knone, ↓qe_glob, ↓qe_tup, ↓qe_list, ↓qe_dict0, ↓qe_attr, ↓qe_sub, ↓qe_slTo, ↓qe_cmp, ↓qe_boolop, ↓qe_not, ↓qe_neg, ↓qe_bin, ↓qe_ife, ↓qe_callF, ↓qe_callM, ↓qe_new, ↓qe_blt, ↓qe_meth, ↓qt_loc, ↓qt_tup, ↓qt_attr, ↓qt_sub, ↓ql_nil, ↓ql_cons, ↓qb_one, ↓qb_cons, cmpV, En.put, bindE, g0, g1, g2, g3, g4, g5, g6, g7, g8, eq_int, eq_cell, tup0, tup1, me7, me8, me9, me10, me11, me12, me13, me14, me15, me16, me17, me18, me19, me20, me21, me22, me23, ms0, ms2, ms3, ms5, -List.map_set, -List.map_append, -List.map_reverse, t2, t3]
      simpa [widthP, t2, t3] using qq

theorem range3 (a : Int) : rangeV [.int a, .int (-1), .int (-1)] = if small a && small (-1) then some (upFrom a (-1) (a - -1).toNat) else none := rfl
theorem range3' {n : Nat} (h : n < 1000) : rangeV [.int ((n : Int) - 1), .int (-1), .int (-1)] = some (upFrom ((n : Int) - 1) (-1) n) := by
  rw [range3]
  have h1 : small ((n : Int) - 1) = true := by unfold small; simp; omega
  have h2 : small (-1) = true := by decide
  rw [h1, h2, if_pos (by rfl)]
  congr 2
  omega
end

end Mine
end

/-! C6 -/
noncomputable section
set_option maxHeartbeats 200000
open PySem
namespace Mine

theorem set_self {σ : AH} {i : Nat} {o : AObj} (e : σ[i]? = some o) : σ.set i o = σ := by
  apply List.ext_getElem?
  intro j
  rw [set_get]
  split
  · rename_i h
    subst h
    rw [if_pos (lt_of_get e), e]
  · rfl
theorem upFrom_down (k : Nat) : upFrom (((k + 1 : Nat) : Int) - 1) (-1) (k + 1) = .int k :: upFrom ((k : Int) - 1) (-1) k := by
  rw [upFrom]
  have h1 : (((k + 1 : Nat) : Int) - 1) = (k : Int) := by omega
  have h2 : (((k + 1 : Nat) : Int) - 1 + -1) = (k : Int) - 1 := by omega
  rw [h2, h1]

section
variable {m : Nat} {σ σ' : AH} {so : Nat} {r : Rc} {st st' : St} {q : Rs} {tx : List PySem.Str} {fu : List (Int × Int)} {wo : Nat}

noncomputable def paBody : SL := (.cons (.expr (.meth 0 (.loc 2) (.cons (.sub (.attr (.loc 0) 6) (.bin .add (.loc 3) (.loc 4))) .nil))) .nil)
theorem pa_loop {cf : Cf} {b : Nat} {all : List V} : ∀ (k : Nat) {σ : AH} {W : List V} {ρ : En} {Q : Fl → En → AH → Prop}, View σ so r st → σ[wo]? = some (.list W) → wo ≠ 0 → wo ∉ [so, r.d, r.h, r.s, r.t] → W.length + k < 1000000 → b + k ≤ st.H.length →
    ρ 0 = some (.obj so) → ρ 2 = some (.obj wo) → ρ 3 = some (.int b) → (∀ ρ', Q .next ρ' (σ.set wo (.list (W ++ ((st.H.drop b).take k).reverse.map cV)))) →
    forGo all .range (wT P1 cf (.loc 4)) (wSL P1 cf paBody) (upFrom ((k : Int) - 1) (-1) k) ρ σ Q
  | 0, σ, W, ρ, Q, v, e, hz, hw, hl, hb, h0, h2, h3, qq => by
    refine ⟨trivial, ?_⟩
    have := qq ρ
    simpa [set_self e] using this
  | k + 1, σ, W, ρ, Q, v, e, hz, hw, hl, hb, h0, h2, h3, qq => by
    rw [upFrom_down]
    refine ⟨trivial, ?_⟩
    have hbk : b + k < st.H.length := by omega
    have hg := v.hget (k := (b : Int) + (k : Int)) (by omega) (c := st.H[b + k]) (by
      have : ((b : Int) + (k : Int)).toNat = b + k := by omega
      rw [this]; exact List.getElem?_eq_getElem hbk)
    have e1 : (σ.set wo (.list (W ++ [cV st.H[b + k]])))[wo]? = some (.list (W ++ [cV st.H[b + k]])) := by rw [set_get, if_pos rfl, if_pos (lt_of_get e)]
    simp only [List.mem_cons, List.not_mem_nil, or_false, not_or] at hw
    obtain ⟨w1, w2, w3, w4, w5⟩ := hw
    have v1 : View (σ.set wo (.list (W ++ [cV st.H[b + k]]))) so r st := v.same (X := [wo]) (.set (by simp)) (by simp [Ne.symm w1]) (by simp [Ne.symm w2]) (by simp [Ne.symm w3]) (by simp [Ne.symm w4]) (by simp [Ne.symm w5])
    have happ := list_app (u := cV st.H[b + k]) e hz (by omega)
    show wSL P1 cf paBody (ρ.put 4 (.int k)) σ _
    simp [paBody, ↓qq_nil, ↓qq_cons, ↓qs_assign, ↓qs_augLoc, ↓qs_augSub, ↓qs_expr, ↓qs_ite, ↓qs_while, ↓qs_range, ↓qs_for2, ↓qs_forL, ↓qs_forF, ↓qs_ret, ↓qs_retN, ↓qs_cont, ↓qs_pass, ↓qe_loc, ↓qe_kint, ↓qe_kstr, ↓qe_kbool, ↓qe_knone, ↓qe_glob, ↓qe_tup, ↓qe_list, ↓qe_dict0, ↓qe_attr, ↓qe_sub, ↓qe_slTo, ↓qe_cmp, ↓qe_boolop, ↓qe_not, ↓qe_neg, ↓qe_bin, ↓qe_ife, ↓qe_callF, ↓qe_callM, ↓qe_new, ↓qe_blt, ↓qe_meth, ↓qt_loc, ↓qt_tup, ↓qt_attr, ↓qt_sub, ↓ql_nil, ↓ql_cons, ↓qb_one, ↓qb_cons, cmpV, En.put, bindE, g0, g1, g2, g3, g4, g5, g6, g7, g8, eq_int, eq_cell, tup0, tup1, me7, me8, me9, me10, me11, me12, me13, me14, me15, me16, me17, me18, me19, me20, me21, me22, me23, ms0, ms2, ms3, ms5, -List.map_set, -List.map_append, -List.map_reverse, h0, h2, h3, v.a6, binV, hg, (list_mok e).1, happ]
    refine pa_loop (b := b) k v1 e1 hz (by simp [w1, w2, w3, w4, w5]) (by simp; omega) (by omega) (by simp [En.put, h0]) (by simp [En.put, h2]) (by simp [En.put, h3]) fun ρ' => ?_
    have := qq ρ'
    rw [List.set_set]
    have h9 : (st.H.drop b).take (k + 1) = (st.H.drop b).take k ++ [st.H[b + k]] := by
      rw [List.take_succ, List.getElem?_drop, List.getElem?_eq_getElem hbk]; rfl
    rw [h9] at this
    simpa using this

theorem pushArgs_ok (w : Wd σ so r st q tx fu) {c : Cell} (hc : c.1 = 2 ∨ c.1 = 3) (hs : Sound2 st fu c) {W : List V} (e : σ[wo]? = some (.list W)) (hz : wo ≠ 0) (hw : wo ∉ [so, r.d, r.h, r.s, r.t]) (hl : W.length < 900000) {Q : V → AH → Prop}
    (qq : Q .none (σ.set wo (.list (W ++ (argsP st fu c).reverse.map cV)))) : callN P1 fns (m + 3) 29 [.obj so, cV c, .obj wo] σ Q := by
  refine call_of (fn := f_push_arguments) rfl rfl ?_
  obtain ⟨f1, f2, f3⟩ := hs.fits hc
  simp [f_push_arguments, ↓qq_nil, ↓qq_cons, ↓qs_assign, ↓qs_augLoc, ↓qs_augSub, ↓qs_expr, ↓qs_ite, ↓qs_while, ↓qs_range, ↓qs_for2, ↓qs_forL, ↓qs_forF, ↓qs_ret, ↓qs_retN, ↓qs_cont, ↓qs_pass, ↓qe_loc, ↓qe_kint, ↓qe_kstr, ↓qe_kbool, ↓qe_knone, ↓qe_glob, ↓qe_tup, ↓qe_list, ↓qe_dict0, ↓qe_attr, ↓qe_sub, ↓qe_slTo, ↓qe_cmp, ↓qe_boolop, ↓qe_not, ↓qe_neg, ↓qe_bin, ↓qe_ife, ↓qe_callF, ↓qe_callM, ↓qe_new, ↓qe_blt, ↓qe_meth, ↓qt_loc, ↓qt_tup, ↓qt_attr, ↓qt_sub, ↓ql_nil, ↓ql_cons, ↓qb_one, ↓qb_cons, cmpV, En.put, bindE, g0, g1, g2, g3, g4, g5, g6, g7, g8, eq_int, eq_cell, tup0, tup1, me7, me8, me9, me10, me11, me12, me13, me14, me15, me16, me17, me18, me19, me20, me21, me22, me23, ms0, ms2, ms3, ms5, -List.map_set, -List.map_append, -List.map_reverse, w.v.cl]
  refine base_ok ?_
  simp [↓qq_nil, ↓qq_cons, ↓qs_assign, ↓qs_augLoc, ↓qs_augSub, ↓qs_expr, ↓qs_ite, ↓qs_while, ↓qs_range, ↓qs_for2, ↓qs_forL, ↓qs_forF, ↓qs_ret, ↓qs_retN, ↓qs_cont, ↓qs_pass, ↓qe_loc, ↓qe_kint, ↓qe_kstr, ↓qe_kbool, ↓qe_knone, ↓qe_glob, ↓qe_tup, ↓qe_list, ↓qe_dict0, ↓qe_attr, ↓qe_sub, ↓qe_slTo, ↓qe_cmp, ↓qe_boolop, ↓qe_not, ↓qe_neg, ↓qe_bin, ↓qe_ife, ↓qe_callF, ↓qe_callM, ↓qe_new, ↓qe_blt, ↓qe_meth, ↓qt_loc, ↓qt_tup, ↓qt_attr, ↓qt_sub, ↓ql_nil, ↓ql_cons, ↓qb_one, ↓qb_cons, cmpV, En.put, bindE, g0, g1, g2, g3, g4, g5, g6, g7, g8, eq_int, eq_cell, tup0, tup1, me7, me8, me9, me10, me11, me12, me13, me14, me15, me16, me17, me18, me19, me20, me21, me22, me23, ms0, ms2, ms3, ms5, -List.map_set, -List.map_append, -List.map_reverse, w.v.cl]
  refine width_ok w hs ?_
  have hb : (if c.1 = 3 then c.2 else c.2 + 1) = ((baseP c : Nat) : Int) := by unfold baseP; split <;> omega
  simp only [binV, hb, range3' (show widthP st fu c < 1000 by omega)]
  exact pa_loop (wo := wo) (b := baseP c) (widthP st fu c) w.v e hz hw (by omega) f1 rfl rfl rfl fun ρ' => qq

noncomputable def ppBody : SL := (.cons (.expr (.meth 0 (.loc 3) (.cons (.tup (.cons (.sub (.attr (.loc 0) 6) (.bin .add (.loc 4) (.loc 6))) (.cons (.sub (.attr (.loc 0) 6) (.bin .add (.loc 5) (.loc 6))) .nil))) .nil))) .nil)
noncomputable def pV (p : Cell × Cell) : V := .tup [cV p.1, cV p.2]
theorem pp_loop {cf : Cf} {b b2 : Nat} {all : List V} : ∀ (k : Nat) {σ : AH} {W : List V} {ρ : En} {Q : Fl → En → AH → Prop}, View σ so r st → σ[wo]? = some (.list W) → wo ≠ 0 → wo ∉ [so, r.d, r.h, r.s, r.t] → W.length + k < 1000000 → b + k ≤ st.H.length → b2 + k ≤ st.H.length →
    ρ 0 = some (.obj so) → ρ 3 = some (.obj wo) → ρ 4 = some (.int b) → ρ 5 = some (.int b2) → (∀ ρ', Q .next ρ' (σ.set wo (.list (W ++ (((st.H.drop b).take k).zip ((st.H.drop b2).take k)).reverse.map pV)))) →
    forGo all .range (wT P1 cf (.loc 6)) (wSL P1 cf ppBody) (upFrom ((k : Int) - 1) (-1) k) ρ σ Q
  | 0, σ, W, ρ, Q, v, e, hz, hw, hl, hb, hb2, h0, h3, h4, h5, qq => by
    refine ⟨trivial, ?_⟩
    have := qq ρ
    simpa [set_self e] using this
  | k + 1, σ, W, ρ, Q, v, e, hz, hw, hl, hb, hb2, h0, h3, h4, h5, qq => by
    rw [upFrom_down]
    refine ⟨trivial, ?_⟩
    have hbk : b + k < st.H.length := by omega
    have hbk2 : b2 + k < st.H.length := by omega
    have hg := v.hget (k := (b : Int) + (k : Int)) (by omega) (c := st.H[b + k]) (by
      have : ((b : Int) + (k : Int)).toNat = b + k := by omega
      rw [this]; exact List.getElem?_eq_getElem hbk)
    have hg2 := v.hget (k := (b2 : Int) + (k : Int)) (by omega) (c := st.H[b2 + k]) (by
      have : ((b2 : Int) + (k : Int)).toNat = b2 + k := by omega
      rw [this]; exact List.getElem?_eq_getElem hbk2)
    have e1 : (σ.set wo (.list (W ++ [pV (st.H[b + k], st.H[b2 + k])])))[wo]? = some (.list (W ++ [pV (st.H[b + k], st.H[b2 + k])])) := by rw [set_get, if_pos rfl, if_pos (lt_of_get e)]
    simp only [List.mem_cons, List.not_mem_nil, or_false, not_or] at hw
    obtain ⟨w1, w2, w3, w4, w5⟩ := hw
    have v1 : View (σ.set wo (.list (W ++ [pV (st.H[b + k], st.H[b2 + k])]))) so r st := v.same (X := [wo]) (.set (by simp)) (by simp [Ne.symm w1]) (by simp [Ne.symm w2]) (by simp [Ne.symm w3]) (by simp [Ne.symm w4]) (by simp [Ne.symm w5])
    have happ := list_app (u := pV (st.H[b + k], st.H[b2 + k])) e hz (by omega)
    have hpv : V.tup [cV st.H[b + k], cV st.H[b2 + k]] = pV (st.H[b + k], st.H[b2 + k]) := rfl
    show wSL P1 cf ppBody (ρ.put 6 (.int k)) σ _
    simp [ppBody, ↓qq_nil, ↓qq_cons, ↓qs_assign, ↓qs_augLoc, ↓qs_augSub, ↓qs_expr, ↓qs_ite, ↓qs_while, ↓qs_range, ↓qs_for2, ↓qs_forL, ↓qs_forF, ↓qs_ret, ↓qs_retN, ↓qs_cont, ↓qs_pass, ↓qe_loc, ↓qe_kint, ↓qe_kstr, ↓qe_kbool, ↓qe_knone, ↓qe_glob, ↓qe_tup, ↓qe_list, ↓qe_dict0, ↓qe_attr, ↓qe_sub, ↓qe_slTo, ↓qe_cmp, ↓qe_boolop, ↓qe_not, ↓qe_neg, ↓qe_bin, ↓qe_ife, ↓qe_callF, ↓qe_callM, ↓qe_new, ↓qe_blt, ↓qe_meth, ↓qt_loc, ↓qt_tup, ↓qt_attr, ↓qt_sub, ↓ql_nil, ↓ql_cons, ↓qb_one, ↓qb_cons, cmpV, En.put, bindE, g0, g1, g2, g3, g4, g5, g6, g7, g8, eq_int, eq_cell, tup0, tup1, me7, me8, me9, me10, me11, me12, me13, me14, me15, me16, me17, me18, me19, me20, me21, me22, me23, ms0, ms2, ms3, ms5, -List.map_set, -List.map_append, -List.map_reverse, h0, h3, h4, h5, v.a6, binV, hg, hg2, (list_mok e).1, hpv, happ]
    refine pp_loop (b := b) (b2 := b2) k v1 e1 hz (by simp [w1, w2, w3, w4, w5]) (by simp; omega) (by omega) (by omega) (by simp [En.put, h0]) (by simp [En.put, h3]) (by simp [En.put, h4]) (by simp [En.put, h5]) fun ρ' => ?_
    have := qq ρ'
    rw [List.set_set]
    have h9 : (st.H.drop b).take (k + 1) = (st.H.drop b).take k ++ [st.H[b + k]] := by
      rw [List.take_succ, List.getElem?_drop, List.getElem?_eq_getElem hbk]; rfl
    have h8 : (st.H.drop b2).take (k + 1) = (st.H.drop b2).take k ++ [st.H[b2 + k]] := by
      rw [List.take_succ, List.getElem?_drop, List.getElem?_eq_getElem hbk2]; rfl
    rw [h9, h8, List.zip_append (by rw [List.length_take, List.length_take, List.length_drop, List.length_drop]; omega)] at this
    simpa using this

theorem shape_width {a b : Cell} (h : shape st a b = true) : widthP st fu a = widthP st fu b := by
  unfold shape at h
  split at h
  · cases h
  · rename_i e
    have e : a.1 = b.1 := by simpa using e
    split at h
    · rename_i t
      unfold widthP
      rw [if_pos t, if_pos (e ▸ t)]
    · have h := of_decide_eq_true h
      unfold widthP
      rw [e, h]
theorem pushPairs_ok (w : Wd σ so r st q tx fu) {a b : Cell} (ha : a.1 = 2 ∨ a.1 = 3) (hb : b.1 = 2 ∨ b.1 = 3) (sa : Sound2 st fu a) (sb : Sound2 st fu b) (hsh : shape st a b = true) {W : List V} (e : σ[wo]? = some (.list W)) (hz : wo ≠ 0) (hw : wo ∉ [so, r.d, r.h, r.s, r.t]) (hl : W.length < 900000) {Q : V → AH → Prop}
    (qq : Q .none (σ.set wo (.list (W ++ ((argsP st fu a).zip (argsP st fu b)).reverse.map pV)))) : callN P1 fns (m + 3) 30 [.obj so, cV a, cV b, .obj wo] σ Q := by
  refine call_of (fn := f_push_pairs) rfl rfl ?_
  obtain ⟨f1, f2, f3⟩ := sa.fits ha
  obtain ⟨k1, k2, k3⟩ := sb.fits hb
  have hwd := shape_width (fu := fu) hsh
  simp [f_push_pairs, ↓qq_nil, ↓qq_cons, ↓qs_assign, ↓qs_augLoc, ↓qs_augSub, ↓qs_expr, ↓qs_ite, ↓qs_while, ↓qs_range, ↓qs_for2, ↓qs_forL, ↓qs_forF, ↓qs_ret, ↓qs_retN, ↓qs_cont, ↓qs_pass, ↓qe_loc, ↓qe_kint, ↓qe_kstr, ↓qe_kbool, ↓qe_knone, ↓qe_glob, ↓qe_tup, ↓qe_list, ↓qe_dict0, ↓qe_attr, ↓qe_sub, ↓qe_slTo, ↓qe_cmp, ↓qe_boolop, ↓qe_not, ↓qe_neg, ↓qe_bin, ↓qe_ife, ↓qe_callF, ↓qe_callM, ↓qe_new, ↓qe_blt, ↓qe_meth, ↓qt_loc, ↓qt_tup, ↓qt_attr, ↓qt_sub, ↓ql_nil, ↓ql_cons, ↓qb_one, ↓qb_cons, cmpV, En.put, bindE, g0, g1, g2, g3, g4, g5, g6, g7, g8, eq_int, eq_cell, tup0, tup1, me7, me8, me9, me10, me11, me12, me13, me14, me15, me16, me17, me18, me19, me20, me21, me22, me23, ms0, ms2, ms3, ms5, -List.map_set, -List.map_append, -List.map_reverse, w.v.cl]
  refine base_ok ?_
  simp [↓qq_nil, ↓qq_cons, ↓qs_assign, ↓qs_augLoc, ↓qs_augSub, ↓qs_expr, ↓qs_ite, ↓qs_while, ↓qs_range, ↓qs_for2, ↓qs_forL, ↓qs_forF, ↓qs_ret, ↓qs_retN, ↓qs_cont, ↓qs_pass, ↓qe_loc, ↓qe_kint, ↓qe_kstr, ↓qe_kbool, ↓qe_knone, ↓qe_glob, ↓qe_tup, ↓qe_list, ↓qe_dict0, ↓qe_attr, ↓qe_sub, ↓qe_slTo, ↓qe_cmp, ↓qe_boolop, ↓qe_not, ↓qe_neg, ↓qe_bin, ↓qe_ife, ↓qe_callF, ↓qe_callM, ↓qe_new, ↓qe_blt, ↓qe_meth, ↓qt_loc, ↓qt_tup, ↓qt_attr, ↓qt_sub, ↓ql_nil, ↓ql_cons, ↓qb_one, ↓qb_cons, cmpV, En.put, bindE, g0, g1, g2, g3, g4, g5, g6, g7, g8, eq_int, eq_cell, tup0, tup1, me7, me8, me9, me10, me11, me12, me13, me14, me15, me16, me17, me18, me19, me20, me21, me22, me23, ms0, ms2, ms3, ms5, -List.map_set, -List.map_append, -List.map_reverse, w.v.cl]
  refine base_ok ?_
  simp [↓qq_nil, ↓qq_cons, ↓qs_assign, ↓qs_augLoc, ↓qs_augSub, ↓qs_expr, ↓qs_ite, ↓qs_while, ↓qs_range, ↓qs_for2, ↓qs_forL, ↓qs_forF, ↓qs_ret, ↓qs_retN, ↓qs_cont, ↓qs_pass, ↓qe_loc, ↓qe_kint, ↓qe_kstr, ↓qe_kbool, ↓qe_knone, ↓qe_glob, ↓qe_tup, ↓qe_list, ↓qe_dict0, ↓qe_attr, ↓qe_sub, ↓qe_slTo, ↓qe_cmp, ↓qe_boolop, ↓qe_not, ↓qe_neg, ↓qe_bin, ↓qe_ife, ↓qe_callF, ↓qe_callM, ↓qe_new, ↓qe_blt, ↓qe_meth, ↓qt_loc, ↓qt_tup, ↓qt_attr, ↓qt_sub, ↓ql_nil, ↓ql_cons, ↓qb_one, ↓qb_cons, cmpV, En.put, bindE, g0, g1, g2, g3, g4, g5, g6, g7, g8, eq_int, eq_cell, tup0, tup1, me7, me8, me9, me10, me11, me12, me13, me14, me15, me16, me17, me18, me19, me20, me21, me22, me23, ms0, ms2, ms3, ms5, -List.map_set, -List.map_append, -List.map_reverse, w.v.cl]
  refine width_ok w sa ?_
  have hba : (if a.1 = 3 then a.2 else a.2 + 1) = ((baseP a : Nat) : Int) := by unfold baseP; split <;> omega
  have hbb : (if b.1 = 3 then b.2 else b.2 + 1) = ((baseP b : Nat) : Int) := by unfold baseP; split <;> omega
  simp only [binV, hba, hbb, range3' (show widthP st fu a < 1000 by omega)]
  refine pp_loop (wo := wo) (b := baseP a) (b2 := baseP b) (widthP st fu a) w.v e hz hw (by omega) f1 (by omega) rfl rfl rfl rfl fun ρ' => ?_
  unfold argsP at qq
  rw [← hwd] at qq
  exact qq
end

end Mine
end

/-! C7 -/
noncomputable section
set_option maxHeartbeats 200000
open PySem
namespace Mine

structure MetView (σ : AH) (po d mo : Nat) (span : Int) (M : List Int) : Prop where
  inst : σ[po]? = some (.inst 3 d)
  ns : σ[d]? = some (.ns [(11, .int span), (12, .obj mo)])
  met : σ[mo]? = some (.set M)
theorem MetView.a11 {σ : AH} {po d mo : Nat} {span : Int} {M : List Int} (v : MetView σ po d mo span M) : attrAt σ (.obj po) 11 = some (.int span) := by simp [attrAt, v.inst, v.ns, List.lookup]
theorem MetView.a12 {σ : AH} {po d mo : Nat} {span : Int} {M : List Int} (v : MetView σ po d mo span M) : attrAt σ (.obj po) 12 = some (.obj mo) := by simp [attrAt, v.inst, v.ns, List.lookup]
theorem MetView.cl {σ : AH} {po d mo : Nat} {span : Int} {M : List Int} (v : MetView σ po d mo span M) : instOf σ (.obj po) = some 3 := by simp [instOf, v.inst, v.ns]
theorem MetView.same {σ σ' : AH} {po d mo : Nat} {span : Int} {M : List Int} (v : MetView σ po d mo span M) {X : List Nat} (x : Same X σ σ') (h1 : po ∉ X) (h2 : d ∉ X) (h3 : mo ∉ X) : MetView σ' po d mo span M :=
  ⟨x.get _ _ h1 v.inst, x.get _ _ h2 v.ns, x.get _ _ h3 v.met⟩

section
variable {m : Nat} {σ σ' : AH} {so : Nat} {r : Rc} {st st' : St} {q : Rs} {tx : List PySem.Str} {fu : List (Int × Int)} {wo : Nat}

theorem attr_put {i c d a : Nat} {fs : List (Nat × V)} {u : V} (e1 : σ[i]? = some (.inst c d)) (e2 : σ[d]? = some (.ns fs)) : attrPut σ (.obj i) a u = some (σ.set d (.ns (nsPut a u fs))) := by
  simp only [attrPut, e1, e2]

theorem blt3 (τ : AH) : bltV τ 3 [] = some (.obj τ.length, τ ++ [.set []]) := rfl
theorem pairset_init {po d : Nat} (v : View σ so r st) (i0 : σ[po]? = some (.inst 3 d)) (i1 : σ[d]? = some (.ns [])) (dd : d ∉ [so, r.d, r.h, r.s, r.t]) {Q : V → AH → Prop}
    (qq : ∀ σ', MetView σ' po d σ.length (st.H.length + 1) [] → Same [d] σ σ' → σ'.length = σ.length + 1 → Q .none σ') : callN P1 fns (m + 1) 27 [.obj po, .obj so] σ Q := by
  have hne : d ≠ po := ne_of_get i1 i0 (fun h => nomatch h)
  simp only [List.mem_cons, List.not_mem_nil, or_false, not_or] at dd
  obtain ⟨w1, w2, w3, w4, w5⟩ := dd
  refine call_of (fn := f_PairSet___init__) rfl rfl ?_
  have s1 : Same [d] σ (σ.set d (.ns [(11, .int (st.H.length + 1))])) := .set (by simp)
  have v1 : View (σ.set d (.ns [(11, .int (st.H.length + 1))])) so r st := v.same s1 (by simp [Ne.symm w1]) (by simp [Ne.symm w2]) (by simp [Ne.symm w3]) (by simp [Ne.symm w4]) (by simp [Ne.symm w5])
  have p1 := attr_put (a := 11) (u := .int (st.H.length + 1)) i0 i1
  simp only [nsPut] at p1
  have j0 : (σ.set d (.ns [(11, .int (st.H.length + 1))]) ++ [.set []])[po]? = some (.inst 3 d) := by
    rw [List.getElem?_append_left (by simp; exact lt_of_get i0), set_get, if_neg hne]; exact i0
  have j1 : (σ.set d (.ns [(11, .int (st.H.length + 1))]) ++ [.set []])[d]? = some (.ns [(11, .int (st.H.length + 1))]) := by
    rw [List.getElem?_append_left (by simp; exact lt_of_get i1), set_get, if_pos rfl, if_pos (lt_of_get i1)]
  have p2 := attr_put (a := 12) (u := .obj σ.length) j0 j1
  simp only [nsPut, Nat.reduceEqDiff, if_false] at p2
  simp [f_PairSet___init__, ↓qq_nil, ↓qq_cons, ↓qs_assign, ↓qs_augLoc, ↓qs_augSub, ↓qs_expr, ↓qs_ite, ↓qs_while, ↓qs_range, ↓qs_for2, ↓qs_forL, ↓qs_forF, ↓qs_ret, ↓qs_retN, ↓qs_cont, ↓qs_pass, ↓qe_loc, ↓qe_kint, ↓qe_kstr, ↓qe_kbool, ↓qe_knone, ↓qe_glob, ↓qe_tup, ↓qe_list, ↓qe_dict0, ↓qe_attr, ↓qe_sub, ↓qe_slTo, ↓qe_cmp, ↓qe_boolop, ↓qe_not, ↓qe_neg, ↓qe_bin, ↓qe_ife, ↓qe_callF, ↓qe_callM, ↓qe_new, ↓qe_blt, ↓qe_meth, ↓qt_loc, ↓qt_tup, ↓qt_attr, ↓qt_sub, ↓ql_nil, ↓ql_cons, ↓qb_one, ↓qb_cons, cmpV, En.put, bindE, g0, g1, g2, g3, g4, g5, g6, g7, g8, eq_int, eq_cell, tup0, tup1, me7, me8, me9, me10, me11, me12, me13, me14, me15, me16, me17, me18, me19, me20, me21, me22, me23, ms0, ms2, ms3, ms5, -List.map_set, -List.map_append, -List.map_reverse, v.a6, v.hlen, binV, blt3, p1, p2]
  refine qq _ ⟨?_, ?_, ?_⟩ ((s1.trans (.app _)).trans (.set (by simp))) (by simp)
  · rw [set_get, if_neg hne]; exact j0
  · rw [set_get, if_pos rfl, if_pos (by simp; have := lt_of_get i1; omega)]
  · rw [set_get, if_neg (by have := lt_of_get i1; omega)]
    have : σ.length = (σ.set d (.ns [(11, .int (st.H.length + 1))])).length := by simp
    rw [this]
    simp

theorem add_ok {po d mo : Nat} {span : Int} {M : List Int} (v : MetView σ po d mo span M) {a b : Cell} (ha : small a.2 = true) (hs : small span = true) (hl : M.length < 4000) {Q : V → AH → Prop}
    (qq : if a.2 * span + b.2 ∈ M then Q (.bool false) σ else Q (.bool true) (σ.set mo (.set (M ++ [a.2 * span + b.2])))) : callN P1 fns (m + 1) 28 [.obj po, cV a, cV b] σ Q := by
  refine call_of (fn := f_PairSet_add) rfl rfl ?_
  have hin : inV σ (.int (a.2 * span + b.2)) (.obj mo) = some (decide (a.2 * span + b.2 ∈ M)) := by simp only [inV, v.met]
  have hok : methOk σ 3 (.obj mo) = true := ok_of v.met rfl
  have hadd : methV σ 3 (.obj mo) [.int (a.2 * span + b.2)] = some (.none, σ.set mo (.set (if a.2 * span + b.2 ∈ M then M else M ++ [a.2 * span + b.2]))) := by
    rw [meth_of v.met]
    show (if _ then _ else _) = _
    rw [if_pos hl]
  by_cases h : a.2 * span + b.2 ∈ M
  · rw [if_pos h] at qq
    simp [f_PairSet_add, ↓qq_nil, ↓qq_cons, ↓qs_assign, ↓qs_augLoc, ↓qs_augSub, ↓qs_expr, ↓qs_ite, ↓qs_while, ↓qs_range, ↓qs_for2, ↓qs_forL, ↓qs_forF, ↓qs_ret, ↓qs_retN, ↓qs_cont, ↓qs_pass, ↓qe_loc, ↓qe_kint, ↓qe_kstr, ↓qe_kbool, ↓qe_knone, ↓qe_glob, ↓qe_tup, ↓qe_list, ↓qe_dict0, ↓qe_attr, ↓qe_sub, ↓qe_slTo, ↓qe_cmp, ↓qe_boolop, ↓qe_not, ↓qe_neg, ↓qe_bin, ↓qe_ife, ↓qe_callF, ↓qe_callM, ↓qe_new, ↓qe_blt, ↓qe_meth, ↓qt_loc, ↓qt_tup, ↓qt_attr, ↓qt_sub, ↓ql_nil, ↓ql_cons, ↓qb_one, ↓qb_cons, cmpV, En.put, bindE, g0, g1, g2, g3, g4, g5, g6, g7, g8, eq_int, eq_cell, tup0, tup1, me7, me8, me9, me10, me11, me12, me13, me14, me15, me16, me17, me18, me19, me20, me21, me22, me23, ms0, ms2, ms3, ms5, -List.map_set, -List.map_append, -List.map_reverse, v.a11, v.a12, binV, ha, hs, hin, h]
    exact qq
  · rw [if_neg h] at qq
    rw [if_neg h] at hadd
    simp [f_PairSet_add, ↓qq_nil, ↓qq_cons, ↓qs_assign, ↓qs_augLoc, ↓qs_augSub, ↓qs_expr, ↓qs_ite, ↓qs_while, ↓qs_range, ↓qs_for2, ↓qs_forL, ↓qs_forF, ↓qs_ret, ↓qs_retN, ↓qs_cont, ↓qs_pass, ↓qe_loc, ↓qe_kint, ↓qe_kstr, ↓qe_kbool, ↓qe_knone, ↓qe_glob, ↓qe_tup, ↓qe_list, ↓qe_dict0, ↓qe_attr, ↓qe_sub, ↓qe_slTo, ↓qe_cmp, ↓qe_boolop, ↓qe_not, ↓qe_neg, ↓qe_bin, ↓qe_ife, ↓qe_callF, ↓qe_callM, ↓qe_new, ↓qe_blt, ↓qe_meth, ↓qt_loc, ↓qt_tup, ↓qt_attr, ↓qt_sub, ↓ql_nil, ↓ql_cons, ↓qb_one, ↓qb_cons, cmpV, En.put, bindE, g0, g1, g2, g3, g4, g5, g6, g7, g8, eq_int, eq_cell, tup0, tup1, me7, me8, me9, me10, me11, me12, me13, me14, me15, me16, me17, me18, me19, me20, me21, me22, me23, ms0, ms2, ms3, ms5, -List.map_set, -List.map_append, -List.map_reverse, v.a11, v.a12, binV, ha, hs, hin, h, hok, hadd]
    exact qq
end

end Mine
end

/-! C8 -/
noncomputable section
set_option maxHeartbeats 200000
open PySem
namespace Mine

noncomputable def CellOk (st : St) (fu : List (Int × Int)) (c : Cell) : Prop := Valid st c ∧ Sound2 st fu c
structure WF2 (st : St) (fu : List (Int × Int)) : Prop where
  wf : WF st
  hs : ∀ (a : Nat) (c : Cell), st.H[a]? = some c → Sound2 st fu c
  ss : ∀ (a : Nat) (c : Cell), st.S[a]? = some c → Sound2 st fu c

theorem derefP_prop {st : St} {P : Cell → Prop} (h : ∀ c f, P c → nextC st c = some f → P f) : ∀ (k : Nat) (c : Cell), P c → P (derefP st k c)
  | 0, c, p => p
  | k + 1, c, p => by
    unfold derefP
    cases e : nextC st c with
    | none => exact p
    | some f =>
      dsimp only
      split
      · exact p
      · exact derefP_prop h k f (h c f p e)
theorem next_ok {st : St} {fu : List (Int × Int)} (w : WF2 st fu) {c f : Cell} (hc : CellOk st fu c) (e : nextC st c = some f) : CellOk st fu f := by
  refine ⟨(next_rank w.wf hc.1 e).1, ?_⟩
  unfold nextC at e
  split at e
  · exact w.hs _ _ e
  · split at e
    · exact w.ss _ _ e
    · cases e
theorem der_cell {st : St} {fu : List (Int × Int)} (w : WF2 st fu) {c : Cell} (hc : CellOk st fu c) : CellOk st fu (der st c) := derefP_prop (fun _ _ p e => next_ok w p e) _ _ hc
theorem args_ok {st : St} {fu : List (Int × Int)} (w : WF2 st fu) {c x : Cell} (hx : x ∈ argsP st fu c) : CellOk st fu x := by
  have h1 := List.mem_of_mem_drop (List.mem_of_mem_take hx)
  obtain ⟨i, e⟩ := List.mem_iff_getElem?.mp h1
  exact ⟨(w.wf.heap _ _ e).1, w.hs _ _ e⟩

noncomputable def compound (c : Cell) : Bool := decide (c.1 = 2 ∨ c.1 = 3)
noncomputable def occGo (st : St) (fu : List (Int × Int)) (x : Cell) : Nat → List Cell → List Int → Option Bool
  | 0, _, _ => none
  | _ + 1, [], _ => some false
  | k + 1, t :: w, M => if der st t = x then some true else if compound (der st t) && !decide ((der st t).2 ∈ M) then occGo st fu x k (argsP st fu (der st t) ++ w) (M ++ [(der st t).2]) else occGo st fu x k w M

section
variable {m : Nat} {σ σ' : AH} {so : Nat} {r : Rc} {st st' : St} {q : Rs} {tx : List PySem.Str} {fu : List (Int × Int)} {wo mo : Nat} {x : Cell}

theorem list_pop {o : Nat} {xs : List V} {u : V} (e : σ[o]? = some (.list (xs ++ [u]))) (hz : o ≠ 0) (hl : xs.length < 900000) : methV σ 1 (.obj o) [] = some (u, σ.set o (.list xs)) := by
  rw [meth_of e]
  simp only [mObj, mList, List.getLast?_append, List.getLast?_singleton, Option.some_or]
  rw [if_pos ⟨hz, by simp; omega⟩]
  simp

noncomputable def occCond : E := (.cmp .gt (.blt 0 (.cons (.loc 4) .nil)) (.kint 0))
noncomputable def occBody : SL := (.cons (.assign (.loc 2) (.callM 10 (.loc 0) (.cons (.meth 1 (.loc 4) .nil) .nil))) (.cons (.ite (.cmp .eq (.loc 2) (.loc 1)) (.cons (.ret (.kbool true)) .nil) .nil) (.cons (.ite (.boolop true (.cons (.callM 18 (.loc 0) (.cons (.loc 2) .nil)) (.cons (.cmp .notIn (.sub (.loc 2) (.kint 1)) (.loc 3)) .nil))) (.cons (.expr (.meth 3 (.loc 3) (.cons (.sub (.loc 2) (.kint 1)) .nil))) (.cons (.expr (.callF 29 (.cons (.loc 0) (.cons (.loc 2) (.cons (.loc 4) .nil))))) .nil)) .nil) .nil)))

structure OccSt (σ : AH) (ρ : En) (so wo mo : Nat) (x : Cell) (w : List Cell) (M : List Int) : Prop where
  r0 : ρ 0 = some (.obj so)
  r1 : ρ 1 = some (cV x)
  r3 : ρ 3 = some (.obj mo)
  r4 : ρ 4 = some (.obj wo)
  w : σ[wo]? = some (.list (w.reverse.map cV))
  m : σ[mo]? = some (.set M)

theorem kept5 {i : Nat} (h : i ∉ keptL so r q) : i ∉ [so, r.d, r.h, r.s, r.t] := fun z => h (by
  simp only [List.mem_cons, List.not_mem_nil, or_false] at z
  simp only [keptL, List.mem_cons, List.not_mem_nil, or_false]
  rcases z with z | z | z | z | z <;> simp [z])

theorem occ_body (W : Wd σ so r st q tx fu) (F : WF2 st fu) {ρ : En} {t : Cell} {w : List Cell} {M : List Int} (o : OccSt σ ρ so wo mo x (t :: w) M) (ht : CellOk st fu t) (kw : wo ∉ keptL so r q) (km : mo ∉ keptL so r q) (hz : wo ≠ 0) (wl : w.length < 800000) (ml : M.length < 4000) {Q : Fl → En → AH → Prop}
    (qq : if der st t = x then ∀ ρ' σ', Same [wo, mo] σ σ' → Q (.ret (.bool true)) ρ' σ'
      else if compound (der st t) && !decide ((der st t).2 ∈ M) then ∀ ρ' σ', Same [wo, mo] σ σ' → OccSt σ' ρ' so wo mo x (argsP st fu (der st t) ++ w) (M ++ [(der st t).2]) → Q .next ρ' σ'
      else ∀ ρ' σ', Same [wo, mo] σ σ' → OccSt σ' ρ' so wo mo x w M → Q .next ρ' σ') : wSL P1 (callN P1 fns (m + 3)) occBody ρ σ Q := by
  obtain ⟨r0, r1, r3, r4, hw, hm⟩ := o
  have hne : wo ≠ mo := ne_of_get hw hm (fun h => nomatch h)
  have hw' : σ[wo]? = some (.list (w.reverse.map cV ++ [cV t])) := by rw [hw]; simp
  have hpop := list_pop hw' hz (by simp; omega)
  have s1 : Same [wo, mo] σ (σ.set wo (.list (w.reverse.map cV))) := .set (by simp)
  have W1 : Wd (σ.set wo (.list (w.reverse.map cV))) so r st q tx fu := W.same s1 (by
    intro i hi; simp only [List.mem_cons, List.not_mem_nil, or_false] at hi
    rcases hi with rfl | rfl
    · exact kw
    · exact km)
  have hw1 : (σ.set wo (.list (w.reverse.map cV)))[wo]? = some (.list (w.reverse.map cV)) := by rw [set_get, if_pos rfl, if_pos (lt_of_get hw)]
  have hm1 : (σ.set wo (.list (w.reverse.map cV)))[mo]? = some (.set M) := by rw [set_get, if_neg hne]; exact hm
  have hc := der_cell F ht
  simp [occBody, ↓qq_nil, ↓qq_cons, ↓qs_assign, ↓qs_augLoc, ↓qs_augSub, ↓qs_expr, ↓qs_ite, ↓qs_while, ↓qs_range, ↓qs_for2, ↓qs_forL, ↓qs_forF, ↓qs_ret, ↓qs_retN, ↓qs_cont, ↓qs_pass, ↓qe_loc, ↓qe_kint, ↓qe_kstr, ↓qe_kbool, ↓qe_knone, ↓qe_glob, ↓qe_tup, ↓qe_list, ↓qe_dict0, ↓qe_attr, ↓qe_sub, ↓qe_slTo, ↓qe_cmp, ↓qe_boolop, ↓qe_not, ↓qe_neg, ↓qe_bin, ↓qe_ife, ↓qe_callF, ↓qe_callM, ↓qe_new, ↓qe_blt, ↓qe_meth, ↓qt_loc, ↓qt_tup, ↓qt_attr, ↓qt_sub, ↓ql_nil, ↓ql_cons, ↓qb_one, ↓qb_cons, cmpV, En.put, bindE, g0, g1, g2, g3, g4, g5, g6, g7, g8, eq_int, eq_cell, tup0, tup1, me7, me8, me9, me10, me11, me12, me13, me14, me15, me16, me17, me18, me19, me20, me21, me22, me23, ms0, ms2, ms3, ms5, -List.map_set, -List.map_append, -List.map_reverse, r0, r1, r3, r4, W.v.cl, (list_mok hw').2, hpop]
  refine deref_ok W1.v F.wf ht.1 ?_
  simp [↓qq_nil, ↓qq_cons, ↓qs_assign, ↓qs_augLoc, ↓qs_augSub, ↓qs_expr, ↓qs_ite, ↓qs_while, ↓qs_range, ↓qs_for2, ↓qs_forL, ↓qs_forF, ↓qs_ret, ↓qs_retN, ↓qs_cont, ↓qs_pass, ↓qe_loc, ↓qe_kint, ↓qe_kstr, ↓qe_kbool, ↓qe_knone, ↓qe_glob, ↓qe_tup, ↓qe_list, ↓qe_dict0, ↓qe_attr, ↓qe_sub, ↓qe_slTo, ↓qe_cmp, ↓qe_boolop, ↓qe_not, ↓qe_neg, ↓qe_bin, ↓qe_ife, ↓qe_callF, ↓qe_callM, ↓qe_new, ↓qe_blt, ↓qe_meth, ↓qt_loc, ↓qt_tup, ↓qt_attr, ↓qt_sub, ↓ql_nil, ↓ql_cons, ↓qb_one, ↓qb_cons, cmpV, En.put, bindE, g0, g1, g2, g3, g4, g5, g6, g7, g8, eq_int, eq_cell, tup0, tup1, me7, me8, me9, me10, me11, me12, me13, me14, me15, me16, me17, me18, me19, me20, me21, me22, me23, ms0, ms2, ms3, ms5, -List.map_set, -List.map_append, -List.map_reverse, r0, r1, r3, r4]
  by_cases e1 : der st t = x
  · rw [if_pos e1] at qq
    simp [e1, -List.map_reverse]
    exact qq _ _ s1
  · rw [if_neg e1] at qq
    simp [e1, W1.v.cl, ↓qq_nil, ↓qq_cons, ↓qs_assign, ↓qs_augLoc, ↓qs_augSub, ↓qs_expr, ↓qs_ite, ↓qs_while, ↓qs_range, ↓qs_for2, ↓qs_forL, ↓qs_forF, ↓qs_ret, ↓qs_retN, ↓qs_cont, ↓qs_pass, ↓qe_loc, ↓qe_kint, ↓qe_kstr, ↓qe_kbool, ↓qe_knone, ↓qe_glob, ↓qe_tup, ↓qe_list, ↓qe_dict0, ↓qe_attr, ↓qe_sub, ↓qe_slTo, ↓qe_cmp, ↓qe_boolop, ↓qe_not, ↓qe_neg, ↓qe_bin, ↓qe_ife, ↓qe_callF, ↓qe_callM, ↓qe_new, ↓qe_blt, ↓qe_meth, ↓qt_loc, ↓qt_tup, ↓qt_attr, ↓qt_sub, ↓ql_nil, ↓ql_cons, ↓qb_one, ↓qb_cons, cmpV, En.put, bindE, g0, g1, g2, g3, g4, g5, g6, g7, g8, eq_int, eq_cell, tup0, tup1, me7, me8, me9, me10, me11, me12, me13, me14, me15, me16, me17, me18, me19, me20, me21, me22, me23, ms0, ms2, ms3, ms5, -List.map_set, -List.map_append, -List.map_reverse]
    refine compound_ok ?_
    have hin : inV (σ.set wo (.list (w.reverse.map cV))) (.int (der st t).2) (.obj mo) = some (decide ((der st t).2 ∈ M)) := by simp only [inV, hm1]
    by_cases e2 : (der st t).1 = 2 ∨ (der st t).1 = 3
    · by_cases e3 : (der st t).2 ∈ M
      · rw [if_neg (by simp [e3])] at qq
        simp [e2, ↓qq_nil, ↓qq_cons, ↓qs_assign, ↓qs_augLoc, ↓qs_augSub, ↓qs_expr, ↓qs_ite, ↓qs_while, ↓qs_range, ↓qs_for2, ↓qs_forL, ↓qs_forF, ↓qs_ret, ↓qs_retN, ↓qs_cont, ↓qs_pass, ↓qe_loc, ↓qe_kint, ↓qe_kstr, ↓qe_kbool, ↓qe_knone, ↓qe_glob, ↓qe_tup, ↓qe_list, ↓qe_dict0, ↓qe_attr, ↓qe_sub, ↓qe_slTo, ↓qe_cmp, ↓qe_boolop, ↓qe_not, ↓qe_neg, ↓qe_bin, ↓qe_ife, ↓qe_callF, ↓qe_callM, ↓qe_new, ↓qe_blt, ↓qe_meth, ↓qt_loc, ↓qt_tup, ↓qt_attr, ↓qt_sub, ↓ql_nil, ↓ql_cons, ↓qb_one, ↓qb_cons, cmpV, En.put, bindE, g0, g1, g2, g3, g4, g5, g6, g7, g8, eq_int, eq_cell, tup0, tup1, me7, me8, me9, me10, me11, me12, me13, me14, me15, me16, me17, me18, me19, me20, me21, me22, me23, ms0, ms2, ms3, ms5, -List.map_set, -List.map_append, -List.map_reverse, r3, hin, e3]
        exact qq _ _ s1 ⟨by simp [En.put, r0], by simp [En.put, r1], by simp [En.put, r3], by simp [En.put, r4], hw1, hm1⟩
      · rw [if_pos (by simp [compound, e2, e3])] at qq
        have hok : methOk (σ.set wo (.list (w.reverse.map cV))) 3 (.obj mo) = true := ok_of hm1 rfl
        have hadd : methV (σ.set wo (.list (w.reverse.map cV))) 3 (.obj mo) [.int (der st t).2] = some (.none, (σ.set wo (.list (w.reverse.map cV))).set mo (.set (M ++ [(der st t).2]))) := by
          rw [meth_of hm1]
          show (if _ then _ else _) = _
          rw [if_pos ml, if_neg e3]
        have s2 : Same [wo, mo] σ ((σ.set wo (.list (w.reverse.map cV))).set mo (.set (M ++ [(der st t).2]))) := s1.trans (.set (by simp))
        have W2 : Wd ((σ.set wo (.list (w.reverse.map cV))).set mo (.set (M ++ [(der st t).2]))) so r st q tx fu := W1.same (X := [mo]) (.set (by simp)) (by intro i hi; simp at hi; subst hi; exact km)
        have hw2 : ((σ.set wo (.list (w.reverse.map cV))).set mo (.set (M ++ [(der st t).2])))[wo]? = some (.list (w.reverse.map cV)) := by rw [set_get, if_neg (Ne.symm hne)]; exact hw1
        have hm2 : ((σ.set wo (.list (w.reverse.map cV))).set mo (.set (M ++ [(der st t).2])))[mo]? = some (.set (M ++ [(der st t).2])) := by rw [set_get, if_pos rfl, if_pos (lt_of_get hm1)]
        simp [e2, ↓qq_nil, ↓qq_cons, ↓qs_assign, ↓qs_augLoc, ↓qs_augSub, ↓qs_expr, ↓qs_ite, ↓qs_while, ↓qs_range, ↓qs_for2, ↓qs_forL, ↓qs_forF, ↓qs_ret, ↓qs_retN, ↓qs_cont, ↓qs_pass, ↓qe_loc, ↓qe_kint, ↓qe_kstr, ↓qe_kbool, ↓qe_knone, ↓qe_glob, ↓qe_tup, ↓qe_list, ↓qe_dict0, ↓qe_attr, ↓qe_sub, ↓qe_slTo, ↓qe_cmp, ↓qe_boolop, ↓qe_not, ↓qe_neg, ↓qe_bin, ↓qe_ife, ↓qe_callF, ↓qe_callM, ↓qe_new, ↓qe_blt, ↓qe_meth, ↓qt_loc, ↓qt_tup, ↓qt_attr, ↓qt_sub, ↓ql_nil, ↓ql_cons, ↓qb_one, ↓qb_cons, cmpV, En.put, bindE, g0, g1, g2, g3, g4, g5, g6, g7, g8, eq_int, eq_cell, tup0, tup1, me7, me8, me9, me10, me11, me12, me13, me14, me15, me16, me17, me18, me19, me20, me21, me22, me23, ms0, ms2, ms3, ms5, -List.map_set, -List.map_append, -List.map_reverse, r0, r3, r4, hin, e3, hok, hadd]
        refine pushArgs_ok W2 e2 hc.2 hw2 hz (kept5 kw) (by simp; omega) ?_
        refine qq _ _ (s2.trans (.set (by simp))) ⟨by simp [En.put, r0], by simp [En.put, r1], by simp [En.put, r3], by simp [En.put, r4], ?_, ?_⟩
        · rw [set_get, if_pos rfl, if_pos (lt_of_get hw2)]; simp
        · rw [set_get, if_neg hne]; exact hm2
    · rw [if_neg (by simp [compound, e2])] at qq
      simp [e2, -List.map_reverse]
      exact qq _ _ s1 ⟨by simp [En.put, r0], by simp [En.put, r1], by simp [En.put, r3], by simp [En.put, r4], hw1, hm1⟩
end

end Mine
end

/-! C9 -/
noncomputable section
set_option maxHeartbeats 200000
open PySem
namespace Mine

theorem nodup_bound : ∀ (n : Nat) (l : List Int), l.Nodup → (∀ x ∈ l, 0 ≤ x ∧ x < n) → l.length ≤ n
  | 0, l, _, h => by
    cases l with
    | nil => simp
    | cons x l => have := h x (.head _); omega
  | n + 1, l, nd, h => by
    by_cases m : (n : Int) ∈ l
    · have h1 := nodup_bound n (l.erase n) (nd.erase _) fun x hx => by
        have h2 := (nd.mem_erase_iff).mp hx
        have h3 := h x h2.2
        have := h2.1
        omega
      rw [List.length_erase_of_mem m] at h1
      omega
    · have := nodup_bound n l nd fun x hx => by
        have h3 := h x hx
        have : x ≠ n := fun e => m (e ▸ hx)
        omega
      omega

section
variable {m : Nat} {σ σ' : AH} {so : Nat} {r : Rc} {st st' : St} {q : Rs} {tx : List PySem.Str} {fu : List (Int × Int)} {wo mo : Nat} {x : Cell}

theorem compound_iff {c : Cell} : compound c = true ↔ c.1 = 2 ∨ c.1 = 3 := by unfold compound; simp
theorem args_len (st : St) (fu : List (Int × Int)) (c : Cell) : (argsP st fu c).length ≤ widthP st fu c := by unfold argsP; rw [List.length_take]; omega

structure OccInv (st : St) (fu : List (Int × Int)) (w : List Cell) (M : List Int) : Prop where
  ok : ∀ c ∈ w, CellOk st fu c
  nd : M.Nodup
  bd : ∀ y ∈ M, 0 ≤ y ∧ y < st.H.length
theorem OccInv.tail {t : Cell} {w : List Cell} {M : List Int} (o : OccInv st fu (t :: w) M) : OccInv st fu w M := ⟨fun c h => o.ok c (.tail _ h), o.nd, o.bd⟩
theorem OccInv.push {t : Cell} {w : List Cell} {M : List Int} (F : WF2 st fu) (o : OccInv st fu (t :: w) M) (hc : compound (der st t) = true) (hm : ¬ (der st t).2 ∈ M) : OccInv st fu (argsP st fu (der st t) ++ w) (M ++ [(der st t).2]) := by
  have hd := der_cell F (o.ok t (.head _))
  refine ⟨fun c h => ?_, ?_, fun y h => ?_⟩
  · rcases List.mem_append.mp h with h | h
    · exact args_ok F h
    · exact o.ok c (.tail _ h)
  · rw [List.nodup_append]
    exact ⟨o.nd, by simp, fun a ha b hb => by simp at hb; subst hb; exact fun e => hm (e ▸ ha)⟩
  · rcases List.mem_append.mp h with h | h
    · exact o.bd y h
    · simp at h; subst h
      obtain ⟨a, b⟩ := hd.2.sound (compound_iff.mp hc)
      omega

theorem occ_total (F : WF2 st fu) (hl : st.H.length < 60) : ∀ (n : Nat) (w : List Cell) (M : List Int), w.length + 100 * (60 - M.length) ≤ n → OccInv st fu w M → ∃ b, occGo st fu x (n + 1) w M = some b
  | n, [], M, _, _ => ⟨false, rfl⟩
  | 0, t :: w, M, h, o => by simp at h
  | n + 1, t :: w, M, h, o => by
    show ∃ b, (if der st t = x then some true else if compound (der st t) && !decide ((der st t).2 ∈ M) then occGo st fu x (n + 1) (argsP st fu (der st t) ++ w) (M ++ [(der st t).2]) else occGo st fu x (n + 1) w M) = some b
    split
    · exact ⟨true, rfl⟩
    · split
      · rename_i hc
        obtain ⟨h1, h2⟩ := Bool.and_eq_true_iff.mp hc
        have o' := o.push F h1 (by simpa using h2)
        have hb := nodup_bound st.H.length _ o'.nd o'.bd
        have hf := (der_cell F (o.ok t (.head _))).2.fits (compound_iff.mp h1)
        have ha := args_len st fu (der st t)
        refine occ_total F hl n _ _ ?_ o'
        simp only [List.length_append, List.length_cons, List.length_nil] at hb h ⊢
        omega
      · refine occ_total F hl n _ _ ?_ o.tail
        simp only [List.length_cons] at h
        omega

noncomputable def occP (st : St) (fu : List (Int × Int)) (x c : Cell) : Bool := if der st c = x then true else if x.1 = 1 ∨ compound (der st c) = false then false else (occGo st fu x 6101 [der st c] []).getD false

theorem occ_loop (F : WF2 st fu) (kw : wo ∉ keptL so r q) (km : mo ∉ keptL so r q) (hz : wo ≠ 0) {Q : Fl → En → AH → Prop} {b : Bool} : ∀ (k : Nat) (w : List Cell) (M : List Int) (σ : AH) (ρ : En), occGo st fu x k w M = some b → Wd σ so r st q tx fu → OccInv st fu w M → OccSt σ ρ so wo mo x w M → w.length + 100 * (60 - M.length) ≤ 6100 →
    (∀ ρ' σ', Same [wo, mo] σ σ' → if b = true then Q (.ret (.bool true)) ρ' σ' else Q .next ρ' σ') → whileGo (wE P1 (callN P1 fns (m + 3)) occCond) (wSL P1 (callN P1 fns (m + 3)) occBody) k ρ σ Q
  | 0, w, M, σ, ρ, e, _, _, _, _, _ => by cases e
  | k + 1, [], M, σ, ρ, e, W, i, o, bd, qq => by
    cases e
    show wE P1 _ occCond ρ σ _
    have hl := list_len o.w (by simp)
    simp [occCond, ↓qq_nil, ↓qq_cons, ↓qs_assign, ↓qs_augLoc, ↓qs_augSub, ↓qs_expr, ↓qs_ite, ↓qs_while, ↓qs_range, ↓qs_for2, ↓qs_forL, ↓qs_forF, ↓qs_ret, ↓qs_retN, ↓qs_cont, ↓qs_pass, ↓qe_loc, ↓qe_kint, ↓qe_kstr, ↓qe_kbool, ↓qe_knone, ↓qe_glob, ↓qe_tup, ↓qe_list, ↓qe_dict0, ↓qe_attr, ↓qe_sub, ↓qe_slTo, ↓qe_cmp, ↓qe_boolop, ↓qe_not, ↓qe_neg, ↓qe_bin, ↓qe_ife, ↓qe_callF, ↓qe_callM, ↓qe_new, ↓qe_blt, ↓qe_meth, ↓qt_loc, ↓qt_tup, ↓qt_attr, ↓qt_sub, ↓ql_nil, ↓ql_cons, ↓qb_one, ↓qb_cons, cmpV, En.put, bindE, g0, g1, g2, g3, g4, g5, g6, g7, g8, eq_int, eq_cell, tup0, tup1, me7, me8, me9, me10, me11, me12, me13, me14, me15, me16, me17, me18, me19, me20, me21, me22, me23, ms0, ms2, ms3, ms5, -List.map_set, -List.map_append, -List.map_reverse, o.r4, hl]
    simpa using qq ρ σ (.refl _ _)
  | k + 1, t :: w, M, σ, ρ, e, W, i, o, bd, qq => by
    have hl := list_len o.w (by simp at bd ⊢; omega)
    have hml := nodup_bound st.H.length M i.nd i.bd
    have hHl := W.v.hl
    show wE P1 _ occCond ρ σ _
    simp only [occCond, ↓qq_nil, ↓qq_cons, ↓qs_assign, ↓qs_augLoc, ↓qs_augSub, ↓qs_expr, ↓qs_ite, ↓qs_while, ↓qs_range, ↓qs_for2, ↓qs_forL, ↓qs_forF, ↓qs_ret, ↓qs_retN, ↓qs_cont, ↓qs_pass, ↓qe_loc, ↓qe_kint, ↓qe_kstr, ↓qe_kbool, ↓qe_knone, ↓qe_glob, ↓qe_tup, ↓qe_list, ↓qe_dict0, ↓qe_attr, ↓qe_sub, ↓qe_slTo, ↓qe_cmp, ↓qe_boolop, ↓qe_not, ↓qe_neg, ↓qe_bin, ↓qe_ife, ↓qe_callF, ↓qe_callM, ↓qe_new, ↓qe_blt, ↓qe_meth, ↓qt_loc, ↓qt_tup, ↓qt_attr, ↓qt_sub, ↓ql_nil, ↓ql_cons, ↓qb_one, ↓qb_cons, cmpV, En.put, bindE, g0, g1, g2, g3, g4, g5, g6, g7, g8, eq_int, eq_cell, tup0, tup1, me7, me8, me9, me10, me11, me12, me13, me14, me15, me16, me17, me18, me19, me20, me21, me22, me23, ms0, ms2, ms3, ms5, -List.map_set, -List.map_append, -List.map_reverse, ↓ql_nil, ↓ql_cons, o.r4, hl]
    rw [if_pos (by simp)]
    simp only [List.length_cons] at bd
    have e : (if der st t = x then some true else if compound (der st t) && !decide ((der st t).2 ∈ M) then occGo st fu x k (argsP st fu (der st t) ++ w) (M ++ [(der st t).2]) else occGo st fu x k w M) = some b := e
    refine occ_body W F o (i.ok t (.head _)) kw km hz (by omega) (by omega) ?_
    by_cases h1 : der st t = x
    · rw [if_pos h1] at e ⊢
      cases e
      intro ρ' σ' s
      simpa using qq ρ' σ' s
    · rw [if_neg h1] at e ⊢
      have kk : ∀ i ∈ [wo, mo], i ∉ keptL so r q := by
        intro i hi; simp only [List.mem_cons, List.not_mem_nil, or_false] at hi
        rcases hi with rfl | rfl
        · exact kw
        · exact km
      by_cases h2 : (compound (der st t) && !decide ((der st t).2 ∈ M)) = true
      · rw [if_pos h2] at e ⊢
        intro ρ' σ' s o'
        obtain ⟨h3, h4⟩ := Bool.and_eq_true_iff.mp h2
        have i' := i.push F h3 (by simpa using h4)
        have hb := nodup_bound st.H.length _ i'.nd i'.bd
        have hf := (der_cell F (i.ok t (.head _))).2.fits (compound_iff.mp h3)
        have ha := args_len st fu (der st t)
        refine occ_loop F kw km hz k _ _ σ' ρ' e (W.same s kk) i' o' ?_ fun ρ'' σ'' s' => qq ρ'' σ'' (s.trans s')
        simp only [List.length_append, List.length_cons, List.length_nil] at hb ⊢
        omega
      · rw [if_neg h2] at e ⊢
        intro ρ' σ' s o'
        exact occ_loop F kw km hz k _ _ σ' ρ' e (W.same s kk) i.tail o' (by omega) fun ρ'' σ'' s' => qq ρ'' σ'' (s.trans s')

theorem kept_lt (W : Wd σ so r st q tx fu) : ∀ i ∈ keptL so r q, i < σ.length := List.forall_mem_cons.mpr ⟨lt_of_get W.v.inst, List.forall_mem_cons.mpr ⟨lt_of_get W.v.ns, List.forall_mem_cons.mpr ⟨lt_of_get W.v.h, List.forall_mem_cons.mpr ⟨lt_of_get W.v.s, List.forall_mem_cons.mpr ⟨lt_of_get W.v.t, W.y.lt⟩⟩⟩⟩⟩
theorem above_kept (W : Wd σ so r st q tx fu) {i : Nat} (h : σ.length ≤ i) : i ∉ keptL so r q := fun z => by have := kept_lt W i z; omega

theorem occ_ok (W : Wd σ so r st q tx fu) (F : WF2 st fu) {c : Cell} (hc : CellOk st fu c) {Q : V → AH → Prop} (qq : ∀ σ', Same [] σ σ' → Q (.bool (occP st fu x c)) σ') : callN P1 fns (m + 4) 36 [.obj so, cV x, cV c] σ Q := by
  refine call_of (fn := f_occurs_in) rfl rfl ?_
  have hd := der_cell F hc
  simp [f_occurs_in, ↓qq_nil, ↓qq_cons, ↓qs_assign, ↓qs_augLoc, ↓qs_augSub, ↓qs_expr, ↓qs_ite, ↓qs_while, ↓qs_range, ↓qs_for2, ↓qs_forL, ↓qs_forF, ↓qs_ret, ↓qs_retN, ↓qs_cont, ↓qs_pass, ↓qe_loc, ↓qe_kint, ↓qe_kstr, ↓qe_kbool, ↓qe_knone, ↓qe_glob, ↓qe_tup, ↓qe_list, ↓qe_dict0, ↓qe_attr, ↓qe_sub, ↓qe_slTo, ↓qe_cmp, ↓qe_boolop, ↓qe_not, ↓qe_neg, ↓qe_bin, ↓qe_ife, ↓qe_callF, ↓qe_callM, ↓qe_new, ↓qe_blt, ↓qe_meth, ↓qt_loc, ↓qt_tup, ↓qt_attr, ↓qt_sub, ↓ql_nil, ↓ql_cons, ↓qb_one, ↓qb_cons, cmpV, En.put, bindE, g0, g1, g2, g3, g4, g5, g6, g7, g8, eq_int, eq_cell, tup0, tup1, me7, me8, me9, me10, me11, me12, me13, me14, me15, me16, me17, me18, me19, me20, me21, me22, me23, ms0, ms2, ms3, ms5, -List.map_set, -List.map_append, -List.map_reverse, W.v.cl]
  refine deref_ok W.v F.wf hc.1 ?_
  unfold occP at qq
  by_cases e1 : der st c = x
  · rw [if_pos e1] at qq
    simp [e1, ↓qq_nil, ↓qq_cons, ↓qs_assign, ↓qs_augLoc, ↓qs_augSub, ↓qs_expr, ↓qs_ite, ↓qs_while, ↓qs_range, ↓qs_for2, ↓qs_forL, ↓qs_forF, ↓qs_ret, ↓qs_retN, ↓qs_cont, ↓qs_pass, ↓qe_loc, ↓qe_kint, ↓qe_kstr, ↓qe_kbool, ↓qe_knone, ↓qe_glob, ↓qe_tup, ↓qe_list, ↓qe_dict0, ↓qe_attr, ↓qe_sub, ↓qe_slTo, ↓qe_cmp, ↓qe_boolop, ↓qe_not, ↓qe_neg, ↓qe_bin, ↓qe_ife, ↓qe_callF, ↓qe_callM, ↓qe_new, ↓qe_blt, ↓qe_meth, ↓qt_loc, ↓qt_tup, ↓qt_attr, ↓qt_sub, ↓ql_nil, ↓ql_cons, ↓qb_one, ↓qb_cons, cmpV, En.put, bindE, g0, g1, g2, g3, g4, g5, g6, g7, g8, eq_int, eq_cell, tup0, tup1, me7, me8, me9, me10, me11, me12, me13, me14, me15, me16, me17, me18, me19, me20, me21, me22, me23, ms0, ms2, ms3, ms5, -List.map_set, -List.map_append, -List.map_reverse]
    exact qq σ (.refl _ _)
  · rw [if_neg e1] at qq
    by_cases e2 : x.1 = 1
    · rw [if_pos (.inl e2)] at qq
      simp [e1, e2, ↓qq_nil, ↓qq_cons, ↓qs_assign, ↓qs_augLoc, ↓qs_augSub, ↓qs_expr, ↓qs_ite, ↓qs_while, ↓qs_range, ↓qs_for2, ↓qs_forL, ↓qs_forF, ↓qs_ret, ↓qs_retN, ↓qs_cont, ↓qs_pass, ↓qe_loc, ↓qe_kint, ↓qe_kstr, ↓qe_kbool, ↓qe_knone, ↓qe_glob, ↓qe_tup, ↓qe_list, ↓qe_dict0, ↓qe_attr, ↓qe_sub, ↓qe_slTo, ↓qe_cmp, ↓qe_boolop, ↓qe_not, ↓qe_neg, ↓qe_bin, ↓qe_ife, ↓qe_callF, ↓qe_callM, ↓qe_new, ↓qe_blt, ↓qe_meth, ↓qt_loc, ↓qt_tup, ↓qt_attr, ↓qt_sub, ↓ql_nil, ↓ql_cons, ↓qb_one, ↓qb_cons, cmpV, En.put, bindE, g0, g1, g2, g3, g4, g5, g6, g7, g8, eq_int, eq_cell, tup0, tup1, me7, me8, me9, me10, me11, me12, me13, me14, me15, me16, me17, me18, me19, me20, me21, me22, me23, ms0, ms2, ms3, ms5, -List.map_set, -List.map_append, -List.map_reverse]
      exact qq σ (.refl _ _)
    · simp [e1, e2, ↓qq_nil, ↓qq_cons, ↓qs_assign, ↓qs_augLoc, ↓qs_augSub, ↓qs_expr, ↓qs_ite, ↓qs_while, ↓qs_range, ↓qs_for2, ↓qs_forL, ↓qs_forF, ↓qs_ret, ↓qs_retN, ↓qs_cont, ↓qs_pass, ↓qe_loc, ↓qe_kint, ↓qe_kstr, ↓qe_kbool, ↓qe_knone, ↓qe_glob, ↓qe_tup, ↓qe_list, ↓qe_dict0, ↓qe_attr, ↓qe_sub, ↓qe_slTo, ↓qe_cmp, ↓qe_boolop, ↓qe_not, ↓qe_neg, ↓qe_bin, ↓qe_ife, ↓qe_callF, ↓qe_callM, ↓qe_new, ↓qe_blt, ↓qe_meth, ↓qt_loc, ↓qt_tup, ↓qt_attr, ↓qt_sub, ↓ql_nil, ↓ql_cons, ↓qb_one, ↓qb_cons, cmpV, En.put, bindE, g0, g1, g2, g3, g4, g5, g6, g7, g8, eq_int, eq_cell, tup0, tup1, me7, me8, me9, me10, me11, me12, me13, me14, me15, me16, me17, me18, me19, me20, me21, me22, me23, ms0, ms2, ms3, ms5, -List.map_set, -List.map_append, -List.map_reverse, W.v.cl]
      refine compound_ok ?_
      by_cases e3 : (der st c).1 = 2 ∨ (der st c).1 = 3
      · have e4 : compound (der st c) = true := compound_iff.mpr e3
        rw [if_neg (by simp [e2, e4])] at qq
        have W2 := W.same (X := []) (Same.app [.set [], .list [cV (der st c)]]) (by simp)
        have g1 : (σ ++ [.set [], .list [cV (der st c)]])[σ.length]? = some (.set []) := by simp
        have g2 : (σ ++ [.set [], .list [cV (der st c)]])[σ.length + 1]? = some (.list [cV (der st c)]) := by simp
        have i0 : OccInv st fu [der st c] [] := ⟨fun y h => by simp at h; subst h; exact hd, by simp, fun y h => by simp at h⟩
        obtain ⟨b, hb⟩ := occ_total (x := x) F W.v.hl 6100 [der st c] [] (by simp) i0
        rw [hb] at qq
        simp [e3, blt3, ↓qq_nil, ↓qq_cons, ↓qs_assign, ↓qs_augLoc, ↓qs_augSub, ↓qs_expr, ↓qs_ite, ↓qs_while, ↓qs_range, ↓qs_for2, ↓qs_forL, ↓qs_forF, ↓qs_ret, ↓qs_retN, ↓qs_cont, ↓qs_pass, ↓qe_loc, ↓qe_kint, ↓qe_kstr, ↓qe_kbool, ↓qe_knone, ↓qe_glob, ↓qe_tup, ↓qe_list, ↓qe_dict0, ↓qe_attr, ↓qe_sub, ↓qe_slTo, ↓qe_cmp, ↓qe_boolop, ↓qe_not, ↓qe_neg, ↓qe_bin, ↓qe_ife, ↓qe_callF, ↓qe_callM, ↓qe_new, ↓qe_blt, ↓qe_meth, ↓qt_loc, ↓qt_tup, ↓qt_attr, ↓qt_sub, ↓ql_nil, ↓ql_cons, ↓qb_one, ↓qb_cons, cmpV, En.put, bindE, g0, g1, g2, g3, g4, g5, g6, g7, g8, eq_int, eq_cell, tup0, tup1, me7, me8, me9, me10, me11, me12, me13, me14, me15, me16, me17, me18, me19, me20, me21, me22, me23, ms0, ms2, ms3, ms5, -List.map_set, -List.map_append, -List.map_reverse]
        refine ⟨6101, ?_⟩
        refine occ_loop (wo := σ.length + 1) (mo := σ.length) F (above_kept W (by omega)) (above_kept W (by omega)) (by omega) 6101 [der st c] [] _ _ hb W2 i0 ⟨rfl, rfl, rfl, rfl, by simpa using g2, g1⟩ (by simp) fun ρ' σ' s => ?_
        have s2 : Same [] σ σ' := ((Same.app (X := [σ.length + 1, σ.length]) [.set [], .list [cV (der st c)]]).trans s).strong fun i hi => by
          simp only [List.mem_cons, List.not_mem_nil, or_false] at hi
          rcases hi with rfl | rfl
          · exact .inr (by omega)
          · exact .inr (by omega)
        have := qq σ' s2
        cases b
        · simpa using this
        · simpa using this
      · have e4 : compound (der st c) = false := by rw [← Bool.not_eq_true]; exact fun h => e3 (compound_iff.mp h)
        rw [if_pos (.inr e4)] at qq
        simp [e3, ↓qq_nil, ↓qq_cons, ↓qs_assign, ↓qs_augLoc, ↓qs_augSub, ↓qs_expr, ↓qs_ite, ↓qs_while, ↓qs_range, ↓qs_for2, ↓qs_forL, ↓qs_forF, ↓qs_ret, ↓qs_retN, ↓qs_cont, ↓qs_pass, ↓qe_loc, ↓qe_kint, ↓qe_kstr, ↓qe_kbool, ↓qe_knone, ↓qe_glob, ↓qe_tup, ↓qe_list, ↓qe_dict0, ↓qe_attr, ↓qe_sub, ↓qe_slTo, ↓qe_cmp, ↓qe_boolop, ↓qe_not, ↓qe_neg, ↓qe_bin, ↓qe_ife, ↓qe_callF, ↓qe_callM, ↓qe_new, ↓qe_blt, ↓qe_meth, ↓qt_loc, ↓qt_tup, ↓qt_attr, ↓qt_sub, ↓ql_nil, ↓ql_cons, ↓qb_one, ↓qb_cons, cmpV, En.put, bindE, g0, g1, g2, g3, g4, g5, g6, g7, g8, eq_int, eq_cell, tup0, tup1, me7, me8, me9, me10, me11, me12, me13, me14, me15, me16, me17, me18, me19, me20, me21, me22, me23, ms0, ms2, ms3, ms5, -List.map_set, -List.map_append, -List.map_reverse]
        exact qq σ (.refl _ _)

noncomputable def occB (occ : Bool) (st : St) (fu : List (Int × Int)) (x c : Cell) : Bool := occ && occP st fu x c
theorem bindc_ok (W : Wd σ so r st q tx fu) (F : WF2 st fu) {c : Cell} (hc : CellOk st fu c) (hx : isV x) (vx : Valid st x) (tl : st.T.length < 890000) {occ : Bool} {Q : V → AH → Prop}
    (qq : if occB occ st fu x c = true then ∀ σ', Same [] σ σ' → Q (.bool false) σ' else ∀ σ', Wd σ' so r (bindP st x c) q tx fu → Same [r.h, r.s, r.t] σ σ' → Q (.bool true) σ') :
    callN P1 fns (m + 5) 34 [.obj so, cV x, cV c, .bool occ] σ Q := by
  refine call_of (fn := f_bind_checked) rfl rfl ?_
  have fin : ∀ (σ₁ : AH) (Q' : V → AH → Prop), Same [] σ σ₁ → (∀ σ', Wd σ' so r (bindP st x c) q tx fu → Same [r.h, r.s, r.t] σ σ' → Q' .none σ') → callN P1 fns (m + 4) 16 [.obj so, cV x, cV c] σ₁ Q' := by
    intro σ₁ Q' s h
    have W1 := W.same s (by simp)
    exact bind_ok W1.v hx vx tl fun σ' a b d => h σ' (W1.turn a b) ((s.weak (by simp)).trans b)
  cases occ
  · simp [occB] at qq
    simp [f_bind_checked, ↓qq_nil, ↓qq_cons, ↓qs_assign, ↓qs_augLoc, ↓qs_augSub, ↓qs_expr, ↓qs_ite, ↓qs_while, ↓qs_range, ↓qs_for2, ↓qs_forL, ↓qs_forF, ↓qs_ret, ↓qs_retN, ↓qs_cont, ↓qs_pass, ↓qe_loc, ↓qe_kint, ↓qe_kstr, ↓qe_kbool, ↓qe_knone, ↓qe_glob, ↓qe_tup, ↓qe_list, ↓qe_dict0, ↓qe_attr, ↓qe_sub, ↓qe_slTo, ↓qe_cmp, ↓qe_boolop, ↓qe_not, ↓qe_neg, ↓qe_bin, ↓qe_ife, ↓qe_callF, ↓qe_callM, ↓qe_new, ↓qe_blt, ↓qe_meth, ↓qt_loc, ↓qt_tup, ↓qt_attr, ↓qt_sub, ↓ql_nil, ↓ql_cons, ↓qb_one, ↓qb_cons, cmpV, En.put, bindE, g0, g1, g2, g3, g4, g5, g6, g7, g8, eq_int, eq_cell, tup0, tup1, me7, me8, me9, me10, me11, me12, me13, me14, me15, me16, me17, me18, me19, me20, me21, me22, me23, ms0, ms2, ms3, ms5, -List.map_set, -List.map_append, -List.map_reverse, W.v.cl]
    exact fin σ _ (.refl _ _) fun σ' a b => qq σ' a b
  · simp [f_bind_checked, ↓qq_nil, ↓qq_cons, ↓qs_assign, ↓qs_augLoc, ↓qs_augSub, ↓qs_expr, ↓qs_ite, ↓qs_while, ↓qs_range, ↓qs_for2, ↓qs_forL, ↓qs_forF, ↓qs_ret, ↓qs_retN, ↓qs_cont, ↓qs_pass, ↓qe_loc, ↓qe_kint, ↓qe_kstr, ↓qe_kbool, ↓qe_knone, ↓qe_glob, ↓qe_tup, ↓qe_list, ↓qe_dict0, ↓qe_attr, ↓qe_sub, ↓qe_slTo, ↓qe_cmp, ↓qe_boolop, ↓qe_not, ↓qe_neg, ↓qe_bin, ↓qe_ife, ↓qe_callF, ↓qe_callM, ↓qe_new, ↓qe_blt, ↓qe_meth, ↓qt_loc, ↓qt_tup, ↓qt_attr, ↓qt_sub, ↓ql_nil, ↓ql_cons, ↓qb_one, ↓qb_cons, cmpV, En.put, bindE, g0, g1, g2, g3, g4, g5, g6, g7, g8, eq_int, eq_cell, tup0, tup1, me7, me8, me9, me10, me11, me12, me13, me14, me15, me16, me17, me18, me19, me20, me21, me22, me23, ms0, ms2, ms3, ms5, -List.map_set, -List.map_append, -List.map_reverse]
    refine occ_ok W F hc fun σ₁ s => ?_
    simp only [occB, Bool.true_and] at qq
    cases h : occP st fu x c
    · rw [h] at qq
      have W1 := W.same s (by simp)
      simp [↓qq_nil, ↓qq_cons, ↓qs_assign, ↓qs_augLoc, ↓qs_augSub, ↓qs_expr, ↓qs_ite, ↓qs_while, ↓qs_range, ↓qs_for2, ↓qs_forL, ↓qs_forF, ↓qs_ret, ↓qs_retN, ↓qs_cont, ↓qs_pass, ↓qe_loc, ↓qe_kint, ↓qe_kstr, ↓qe_kbool, ↓qe_knone, ↓qe_glob, ↓qe_tup, ↓qe_list, ↓qe_dict0, ↓qe_attr, ↓qe_sub, ↓qe_slTo, ↓qe_cmp, ↓qe_boolop, ↓qe_not, ↓qe_neg, ↓qe_bin, ↓qe_ife, ↓qe_callF, ↓qe_callM, ↓qe_new, ↓qe_blt, ↓qe_meth, ↓qt_loc, ↓qt_tup, ↓qt_attr, ↓qt_sub, ↓ql_nil, ↓ql_cons, ↓qb_one, ↓qb_cons, cmpV, En.put, bindE, g0, g1, g2, g3, g4, g5, g6, g7, g8, eq_int, eq_cell, tup0, tup1, me7, me8, me9, me10, me11, me12, me13, me14, me15, me16, me17, me18, me19, me20, me21, me22, me23, ms0, ms2, ms3, ms5, -List.map_set, -List.map_append, -List.map_reverse, W1.v.cl]
      exact fin σ₁ _ s fun σ' a b => by simpa [↓qq_nil, ↓qq_cons, ↓qs_assign, ↓qs_augLoc, ↓qs_augSub, ↓qs_expr, ↓qs_ite, ↓qs_while, ↓qs_range, ↓qs_for2, ↓qs_forL, ↓qs_forF, ↓qs_ret, ↓qs_retN, ↓qs_cont, ↓qs_pass, ↓qe_loc, ↓qe_kint, ↓qe_kstr, ↓qe_kbool, ↓qe_knone, ↓qe_glob, ↓qe_tup, ↓qe_list, ↓qe_dict0, ↓qe_attr, ↓qe_sub, ↓qe_slTo, ↓qe_cmp, ↓qe_boolop, ↓qe_not, ↓qe_neg, ↓qe_bin, ↓qe_ife, ↓qe_callF, ↓qe_callM, ↓qe_new, ↓qe_blt, ↓qe_meth, ↓qt_loc, ↓qt_tup, ↓qt_attr, ↓qt_sub, ↓ql_nil, ↓ql_cons, ↓qb_one, ↓qb_cons, cmpV, En.put, bindE, g0, g1, g2, g3, g4, g5, g6, g7, g8, eq_int, eq_cell, tup0, tup1, me7, me8, me9, me10, me11, me12, me13, me14, me15, me16, me17, me18, me19, me20, me21, me22, me23, ms0, ms2, ms3, ms5, -List.map_set, -List.map_append, -List.map_reverse] using qq σ' a b
    · rw [h] at qq
      simp [↓qq_nil, ↓qq_cons, ↓qs_assign, ↓qs_augLoc, ↓qs_augSub, ↓qs_expr, ↓qs_ite, ↓qs_while, ↓qs_range, ↓qs_for2, ↓qs_forL, ↓qs_forF, ↓qs_ret, ↓qs_retN, ↓qs_cont, ↓qs_pass, ↓qe_loc, ↓qe_kint, ↓qe_kstr, ↓qe_kbool, ↓qe_knone, ↓qe_glob, ↓qe_tup, ↓qe_list, ↓qe_dict0, ↓qe_attr, ↓qe_sub, ↓qe_slTo, ↓qe_cmp, ↓qe_boolop, ↓qe_not, ↓qe_neg, ↓qe_bin, ↓qe_ife, ↓qe_callF, ↓qe_callM, ↓qe_new, ↓qe_blt, ↓qe_meth, ↓qt_loc, ↓qt_tup, ↓qt_attr, ↓qt_sub, ↓ql_nil, ↓ql_cons, ↓qb_one, ↓qb_cons, cmpV, En.put, bindE, g0, g1, g2, g3, g4, g5, g6, g7, g8, eq_int, eq_cell, tup0, tup1, me7, me8, me9, me10, me11, me12, me13, me14, me15, me16, me17, me18, me19, me20, me21, me22, me23, ms0, ms2, ms3, ms5, -List.map_set, -List.map_append, -List.map_reverse]
      simpa using qq σ₁ s
end

end Mine
end

/-! C10 -/
noncomputable section
set_option maxHeartbeats 200000
open PySem
namespace Mine

section
variable {st : St} {fu : List (Int × Int)} {x v c : Cell}

theorem bind_HL (st : St) (x v : Cell) : (bindP st x v).H.length = st.H.length := by unfold bindP; dsimp only; split <;> simp
theorem bind_SL (st : St) (x v : Cell) : (bindP st x v).S.length = st.S.length := by unfold bindP; dsimp only; split <;> simp
theorem bind_TL (st : St) (x v : Cell) : (bindP st x v).T.length ≤ st.T.length + 1 := by
  show (if (if x.1 = 0 then x.2 < st.hb else x.2 < st.bb) then st.T ++ [entry x] else st.T).length ≤ _
  split <;> split <;> simp
theorem bind_valid (h : Valid st c) : Valid (bindP st x v) c := by unfold Valid; rw [bind_HL, bind_SL]; exact h
theorem bind_H (st : St) (x v : Cell) (a : Nat) : (bindP st x v).H[a]? = if x.1 = 0 ∧ x.2.toNat = a ∧ a < st.H.length then some v else st.H[a]? := by
  unfold bindP
  dsimp only
  by_cases h : x.1 = 0
  · rw [if_pos h, List.getElem?_set]
    by_cases h2 : x.2.toNat = a
    · subst h2
      by_cases h3 : x.2.toNat < st.H.length
      · simp [h, h3]
      · simp [h, h3]
    · simp [h2]
  · simp [h]
theorem bind_S (st : St) (x v : Cell) (a : Nat) : (bindP st x v).S[a]? = if x.1 ≠ 0 ∧ x.2.toNat = a ∧ a < st.S.length then some v else st.S[a]? := by
  unfold bindP
  dsimp only
  by_cases h : x.1 = 0
  · simp [h]
  · rw [if_neg h, List.getElem?_set]
    by_cases h2 : x.2.toNat = a
    · subst h2
      by_cases h3 : x.2.toNat < st.S.length
      · simp [h, h3]
      · simp [h, h3]
    · simp [h2]
/-- an unbound place holds no functor -/
theorem bind_sound (hu : nextC st x = some x) (h : Sound2 st fu c) : Sound2 (bindP st x v) fu c := by
  refine ⟨fun t => ?_, fun t => ?_⟩
  · obtain ⟨a, f, b, n, e, r⟩ := h.1 t
    refine ⟨a, f, b, n, ?_, by rw [bind_HL]; exact r⟩
    rw [bind_H, if_neg ?_]
    · exact e
    · rintro ⟨h1, h2, h3⟩
      unfold nextC at hu
      rw [if_pos h1, h2, e] at hu
      have := Option.some.inj hu
      rw [← this] at h1
      exact absurd (show (6 : Int) = 0 from h1) (by decide)
  · obtain ⟨a, b⟩ := h.2 t
    exact ⟨a, by rw [bind_HL]; exact b⟩
theorem bind_cell (hu : nextC st x = some x) (h : CellOk st fu c) : CellOk (bindP st x v) fu c := ⟨bind_valid h.1, bind_sound hu h.2⟩
theorem bind_wf (F : WF2 st fu) (hx : isV x) (hu : nextC st x = some x) (vx : Valid st x) (hv : CellOk st fu v) (h0 : x.1 = 0 → v.1 ≠ 1 ∧ (v.1 = 0 → v.2 ≤ x.2)) (h1 : x.1 = 1 → v.1 = 1 → v.2 ≤ x.2) : WF2 (bindP st x v) fu := by
  refine ⟨⟨fun a c e => ?_, fun a c e => ?_⟩, fun a c e => ?_, fun a c e => ?_⟩
  · rw [bind_H] at e
    split at e
    · rename_i h
      cases e
      obtain ⟨k1, k2⟩ := h0 h.1
      have := (vx.1 h.1).1
      exact ⟨bind_valid hv.1, k1, fun t => by have := k2 t; omega⟩
    · obtain ⟨k1, k2⟩ := F.wf.heap a c e
      exact ⟨bind_valid k1, k2⟩
  · rw [bind_S] at e
    split at e
    · rename_i h
      cases e
      have h2 : x.1 = 1 := hx.resolve_left h.1
      have := (vx.2 h2).1
      exact ⟨bind_valid hv.1, fun t => by have := h1 h2 t; omega⟩
    · obtain ⟨k1, k2⟩ := F.wf.stack a c e
      exact ⟨bind_valid k1, k2⟩
  · rw [bind_H] at e
    split at e
    · cases e; exact bind_sound hu hv.2
    · exact bind_sound hu (F.hs a c e)
  · rw [bind_S] at e
    split at e
    · cases e; exact bind_sound hu hv.2
    · exact bind_sound hu (F.ss a c e)

/-- what a deref gives -/
structure Res (st : St) (fu : List (Int × Int)) (d : Cell) : Prop where
  ok : CellOk st fu d
  un : isV d → nextC st d = some d
theorem der_res (F : WF2 st fu) (h : CellOk st fu c) : Res st fu (der st c) := by
  refine ⟨der_cell F h, fun hv => ?_⟩
  obtain ⟨a, b⟩ := der_end F.wf h.1
  refine b.resolve_left fun e => ?_
  unfold nextC at e
  rcases hv with t | t
  · rw [if_pos t, List.getElem?_eq_none_iff] at e
    have := (a.1 t).2; omega
  · rw [if_neg (by rw [t]; decide), if_pos t, List.getElem?_eq_none_iff] at e
    have := (a.2 t).2; omega

theorem pairP_cases (F : WF2 st fu) {a b : Cell} (hne : a ≠ b) (ha : isV a) (hb : isV b) (ra : Res st fu a) (rb : Res st fu b) : ∃ x v, pairP st a b = bindP st x v ∧ isV x ∧ nextC st x = some x ∧ Valid st x ∧ CellOk st fu v ∧ (x.1 = 0 → v.1 ≠ 1 ∧ (v.1 = 0 → v.2 ≤ x.2)) ∧ (x.1 = 1 → v.1 = 1 → v.2 ≤ x.2) := by
  unfold pairP
  rw [if_neg hne]
  by_cases e : a.1 = b.1
  · rw [if_pos e]
    by_cases l : a.2 < b.2
    · rw [if_pos l]
      exact ⟨b, a, rfl, hb, rb.un hb, rb.ok.1, ra.ok, fun t => ⟨by rw [e, t]; decide, fun _ => by omega⟩, fun _ _ => by omega⟩
    · rw [if_neg l]
      exact ⟨a, b, rfl, ha, ra.un ha, ra.ok.1, rb.ok, fun t => ⟨by rw [← e, t]; decide, fun _ => by omega⟩, fun _ _ => by omega⟩
  · rw [if_neg e]
    by_cases t : a.1 = 1
    · rw [if_pos t]
      exact ⟨a, b, rfl, ha, ra.un ha, ra.ok.1, rb.ok, fun t' => by omega, fun _ t' => absurd (t.trans t'.symm) e⟩
    · rw [if_neg t]
      have a0 : a.1 = 0 := ha.resolve_right t
      have b1 : b.1 = 1 := hb.resolve_left fun z => e (a0.trans z.symm)
      exact ⟨b, a, rfl, hb, rb.un hb, rb.ok.1, ra.ok, fun t' => by omega, fun _ t' => by omega⟩
end

theorem num_inj {a b c d s : Int} (h0 : 0 ≤ b) (h1 : b < s) (h2 : 0 ≤ d) (h3 : d < s) (e : a * s + b = c * s + d) : a = c ∧ b = d := by
  have e1 : (a * s + b) % s = b := by rw [Int.add_comm, Int.add_mul_emod_self_right]; exact Int.emod_eq_of_lt h0 h1
  have e2 : (c * s + d) % s = d := by rw [Int.add_comm, Int.add_mul_emod_self_right]; exact Int.emod_eq_of_lt h2 h3
  have hb : b = d := by rw [← e1, e, e2]
  subst hb
  have : a * s = c * s := by omega
  exact ⟨Int.eq_of_mul_eq_mul_right (by omega) this, rfl⟩
noncomputable def numOf (span : Int) (p : Int × Int) : Int := p.1 * span + p.2
noncomputable def uniGo (fu : List (Int × Int)) (occ : Bool) : Nat → St → List (Cell × Cell) → List (Int × Int) → Option (Bool × St)
  | 0, _, _, _ => none
  | _ + 1, st, [], _ => some (true, st)
  | k + 1, st, (a, b) :: w, M =>
    if der st a = der st b then uniGo fu occ k st w M
    else if isV (der st a) then
      (if isV (der st b) then uniGo fu occ k (pairP st (der st a) (der st b)) w M
       else if occB occ st fu (der st a) (der st b) then some (false, st) else uniGo fu occ k (bindP st (der st a) (der st b)) w M)
    else if isV (der st b) then (if occB occ st fu (der st b) (der st a) then some (false, st) else uniGo fu occ k (bindP st (der st b) (der st a)) w M)
    else if compound (der st a) && shape st (der st a) (der st b) then
      (if ((der st a).2, (der st b).2) ∈ M then uniGo fu occ k st w M else uniGo fu occ k st ((argsP st fu (der st a)).zip (argsP st fu (der st b)) ++ w) (M ++ [((der st a).2, (der st b).2)]))
    else some (false, st)

section
variable {m : Nat} {σ σ' : AH} {so : Nat} {r : Rc} {st st' : St} {q : Rs} {tx : List PySem.Str} {fu : List (Int × Int)} {wo po pd mo : Nat}

noncomputable def uniCond : E := (.cmp .gt (.blt 0 (.cons (.loc 5) .nil)) (.kint 0))
noncomputable def uniBody : SL := (.cons (.assign (.tup [6, 7]) (.meth 1 (.loc 5) .nil)) (.cons (.assign (.loc 6) (.callM 10 (.loc 0) (.cons (.loc 6) .nil))) (.cons (.assign (.loc 7) (.callM 10 (.loc 0) (.cons (.loc 7) .nil))) (.cons (.ite (.cmp .eq (.loc 6) (.loc 7)) (.cons .cont .nil) .nil) (.cons (.ite (.callF 32 (.cons (.loc 6) .nil)) (.cons (.ite (.callF 32 (.cons (.loc 7) .nil)) (.cons (.expr (.callM 13 (.loc 0) (.cons (.loc 6) (.cons (.loc 7) .nil)))) .nil) (.cons (.ite (.not (.callF 34 (.cons (.loc 0) (.cons (.loc 6) (.cons (.loc 7) (.cons (.loc 3) .nil)))))) (.cons (.ret (.kbool false)) .nil) .nil) .nil)) .nil) (.cons (.ite (.callF 32 (.cons (.loc 7) .nil)) (.cons (.ite (.not (.callF 34 (.cons (.loc 0) (.cons (.loc 7) (.cons (.loc 6) (.cons (.loc 3) .nil)))))) (.cons (.ret (.kbool false)) .nil) .nil) .nil) (.cons (.ite (.boolop true (.cons (.callM 18 (.loc 0) (.cons (.loc 6) .nil)) (.cons (.callF 31 (.cons (.loc 0) (.cons (.loc 6) (.cons (.loc 7) .nil)))) .nil))) (.cons (.ite (.callM 23 (.loc 4) (.cons (.loc 6) (.cons (.loc 7) .nil))) (.cons (.expr (.callF 30 (.cons (.loc 0) (.cons (.loc 6) (.cons (.loc 7) (.cons (.loc 5) .nil)))))) .nil) .nil) .nil) (.cons (.ret (.kbool false)) .nil)) .nil)) .nil)) .nil)))))

structure UniSt (σ : AH) (ρ : En) (so wo po pd mo : Nat) (span : Int) (occ : Bool) (w : List (Cell × Cell)) (M : List (Int × Int)) : Prop where
  r0 : ρ 0 = some (.obj so)
  r3 : ρ 3 = some (.bool occ)
  r4 : ρ 4 = some (.obj po)
  r5 : ρ 5 = some (.obj wo)
  w : σ[wo]? = some (.list (w.reverse.map pV))
  m : MetView σ po pd mo span (M.map (numOf span))

/-- what a turn may do to the store -/
noncomputable def storeL (r : Rc) (wo mo : Nat) : List Nat := [r.h, r.s, r.t, wo, mo]

theorem uni_body (W : Wd σ so r st q tx fu) (F : WF2 st fu) {ρ : En} {a b : Cell} {w : List (Cell × Cell)} {M : List (Int × Int)} {occ : Bool} {span : Int} (o : UniSt σ ρ so wo po pd mo span occ ((a, b) :: w) M) (ha : CellOk st fu a) (hb : CellOk st fu b)
    (kk : ∀ i ∈ [wo, po, pd, mo], i ∉ keptL so r q) (hz : wo ≠ 0) (hwp : wo ≠ po ∧ wo ≠ pd) (hsp : span = st.H.length + 1) (hM : ∀ p ∈ M, 0 ≤ p.1 ∧ p.1 < st.H.length ∧ 0 ≤ p.2 ∧ p.2 < st.H.length) (tl : st.T.length < 890000) (wl : w.length < 800000) (ml : M.length < 4000) {Q : Fl → En → AH → Prop}
    (qq : if der st a = der st b then ∀ ρ' σ', Wd σ' so r st q tx fu → Same (storeL r wo mo) σ σ' → UniSt σ' ρ' so wo po pd mo span occ w M → Q .cont ρ' σ'
      else if isV (der st a) then
        (if isV (der st b) then ∀ ρ' σ', Wd σ' so r (pairP st (der st a) (der st b)) q tx fu → Same (storeL r wo mo) σ σ' → UniSt σ' ρ' so wo po pd mo span occ w M → Q .next ρ' σ'
         else if occB occ st fu (der st a) (der st b) then ∀ ρ' σ', Wd σ' so r st q tx fu → Same (storeL r wo mo) σ σ' → Q (.ret (.bool false)) ρ' σ'
         else ∀ ρ' σ', Wd σ' so r (bindP st (der st a) (der st b)) q tx fu → Same (storeL r wo mo) σ σ' → UniSt σ' ρ' so wo po pd mo span occ w M → Q .next ρ' σ')
      else if isV (der st b) then
        (if occB occ st fu (der st b) (der st a) then ∀ ρ' σ', Wd σ' so r st q tx fu → Same (storeL r wo mo) σ σ' → Q (.ret (.bool false)) ρ' σ'
         else ∀ ρ' σ', Wd σ' so r (bindP st (der st b) (der st a)) q tx fu → Same (storeL r wo mo) σ σ' → UniSt σ' ρ' so wo po pd mo span occ w M → Q .next ρ' σ')
      else if compound (der st a) && shape st (der st a) (der st b) then
        (if ((der st a).2, (der st b).2) ∈ M then ∀ ρ' σ', Wd σ' so r st q tx fu → Same (storeL r wo mo) σ σ' → UniSt σ' ρ' so wo po pd mo span occ w M → Q .next ρ' σ'
         else ∀ ρ' σ', Wd σ' so r st q tx fu → Same (storeL r wo mo) σ σ' → UniSt σ' ρ' so wo po pd mo span occ ((argsP st fu (der st a)).zip (argsP st fu (der st b)) ++ w) (M ++ [((der st a).2, (der st b).2)]) → Q .next ρ' σ')
      else ∀ ρ' σ', Wd σ' so r st q tx fu → Same (storeL r wo mo) σ σ' → Q (.ret (.bool false)) ρ' σ') : wSL P1 (callN P1 fns (m + 5)) uniBody ρ σ Q := by
  obtain ⟨r0, r3, r4, r5, hw, hm⟩ := o
  have hw' : σ[wo]? = some (.list (w.reverse.map pV ++ [pV (a, b)])) := by rw [hw]; simp
  have hpop := list_pop hw' hz (by simp; omega)
  have s1 : Same (storeL r wo mo) σ (σ.set wo (.list (w.reverse.map pV))) := .set (by simp [storeL])
  have kw := kk wo (by simp)
  have W1 : Wd (σ.set wo (.list (w.reverse.map pV))) so r st q tx fu := W.same (X := [wo]) (.set (by simp)) (by intro i hi; simp at hi; subst hi; exact kw)
  have hwm : wo ≠ mo := ne_of_get hw hm.met (fun h => nomatch h)
  have hw1 : (σ.set wo (.list (w.reverse.map pV)))[wo]? = some (.list (w.reverse.map pV)) := by rw [set_get, if_pos rfl, if_pos (lt_of_get hw)]
  have hm1 : MetView (σ.set wo (.list (w.reverse.map pV))) po pd mo span (M.map (numOf span)) := hm.same (X := [wo]) (.set (by simp)) (by simp [Ne.symm hwp.1]) (by simp [Ne.symm hwp.2]) (by simp [Ne.symm hwm])
  have Ra := der_res F ha
  have Rb := der_res F hb
  have hpa : putAll [6, 7] [cV a, cV b] ρ = some ((ρ.put 6 (cV a)).put 7 (cV b)) := rfl
  have u1 : ∀ τ : AH, Same [] (σ.set wo (.list (w.reverse.map pV))) τ → τ[wo]? = some (.list (w.reverse.map pV)) ∧ MetView τ po pd mo span (M.map (numOf span)) := fun τ s => ⟨s.get _ _ (by simp) hw1, hm1.same s (by simp) (by simp) (by simp)⟩
  have rr : ∀ ρ' : En, ρ' = ((((ρ.put 6 (cV a)).put 7 (cV b)).put 6 (cV (der st a))).put 7 (cV (der st b))) → ρ' 0 = some (.obj so) ∧ ρ' 3 = some (.bool occ) ∧ ρ' 4 = some (.obj po) ∧ ρ' 5 = some (.obj wo) := by
    rintro ρ' rfl
    simp [En.put, r0, r3, r4, r5]
  simp [uniBody, ↓qq_nil, ↓qq_cons, ↓qs_assign, ↓qs_augLoc, ↓qs_augSub, ↓qs_expr, ↓qs_ite, ↓qs_while, ↓qs_range, ↓qs_for2, ↓qs_forL, ↓qs_forF, ↓qs_ret, ↓qs_retN, ↓qs_cont, ↓qs_pass, ↓qe_loc, ↓qe_kint, ↓qe_kstr, ↓qe_kbool, ↓qe_knone, ↓qe_glob, ↓qe_tup, ↓qe_list, ↓qe_dict0, ↓qe_attr, ↓qe_sub, ↓qe_slTo, ↓qe_cmp, ↓qe_boolop, ↓qe_not, ↓qe_neg, ↓qe_bin, ↓qe_ife, ↓qe_callF, ↓qe_callM, ↓qe_new, ↓qe_blt, ↓qe_meth, ↓qt_loc, ↓qt_tup, ↓qt_attr, ↓qt_sub, ↓ql_nil, ↓ql_cons, ↓qb_one, ↓qb_cons, cmpV, En.put, bindE, g0, g1, g2, g3, g4, g5, g6, g7, g8, eq_int, eq_cell, tup0, tup1, me7, me8, me9, me10, me11, me12, me13, me14, me15, me16, me17, me18, me19, me20, me21, me22, me23, ms0, ms2, ms3, ms5, -List.map_set, -List.map_append, -List.map_reverse, r0, r5, (list_mok hw').2, hpop, pV, hpa, W1.v.cl]
  refine deref_ok W1.v F.wf ha.1 ?_
  simp [↓qq_nil, ↓qq_cons, ↓qs_assign, ↓qs_augLoc, ↓qs_augSub, ↓qs_expr, ↓qs_ite, ↓qs_while, ↓qs_range, ↓qs_for2, ↓qs_forL, ↓qs_forF, ↓qs_ret, ↓qs_retN, ↓qs_cont, ↓qs_pass, ↓qe_loc, ↓qe_kint, ↓qe_kstr, ↓qe_kbool, ↓qe_knone, ↓qe_glob, ↓qe_tup, ↓qe_list, ↓qe_dict0, ↓qe_attr, ↓qe_sub, ↓qe_slTo, ↓qe_cmp, ↓qe_boolop, ↓qe_not, ↓qe_neg, ↓qe_bin, ↓qe_ife, ↓qe_callF, ↓qe_callM, ↓qe_new, ↓qe_blt, ↓qe_meth, ↓qt_loc, ↓qt_tup, ↓qt_attr, ↓qt_sub, ↓ql_nil, ↓ql_cons, ↓qb_one, ↓qb_cons, cmpV, En.put, bindE, g0, g1, g2, g3, g4, g5, g6, g7, g8, eq_int, eq_cell, tup0, tup1, me7, me8, me9, me10, me11, me12, me13, me14, me15, me16, me17, me18, me19, me20, me21, me22, me23, ms0, ms2, ms3, ms5, -List.map_set, -List.map_append, -List.map_reverse, r0, W1.v.cl]
  refine deref_ok W1.v F.wf hb.1 ?_
  obtain ⟨p0, p3, p4, p5⟩ := rr _ rfl
  clear rr hpa
  generalize ((((ρ.put 6 (cV a)).put 7 (cV b)).put 6 (cV (der st a))).put 7 (cV (der st b))) = ρ1 at p0 p3 p4 p5 ⊢
  have off : ∀ i ∈ [wo, po, pd, mo], i ∉ [r.h, r.s, r.t] := fun i hi hm => kk i hi (by
    simp only [List.mem_cons, List.not_mem_nil, or_false] at hm
    simp only [keptL, List.mem_cons, List.not_mem_nil, or_false]
    rcases hm with h | h | h <;> simp [h])
  clear hw hw' hpop
  generalize hτ : σ.set wo (.list (w.reverse.map pV)) = τ at *
  have mk : ∀ {τ' : AH}, Same [r.h, r.s, r.t] τ τ' → UniSt τ' ρ1 so wo po pd mo span occ w M := fun s => ⟨p0, p3, p4, p5, s.get _ _ (off wo (by simp)) hw1, hm1.same s (off po (by simp)) (off pd (by simp)) (off mo (by simp))⟩
  have big : ∀ {τ' : AH}, Same [r.h, r.s, r.t] τ τ' → Same (storeL r wo mo) σ τ' := fun s => s1.trans (s.weak (by
    intro i hi
    simp only [List.mem_cons, List.not_mem_nil, or_false] at hi
    simp only [storeL, List.mem_cons, List.not_mem_nil, or_false]
    rcases hi with h | h | h <;> simp [h]))
  have nil3 : ∀ {τ' : AH}, Same [] τ τ' → Same [r.h, r.s, r.t] τ τ' := fun s => s.weak (by simp)
  by_cases e1 : der st a = der st b
  · rw [if_pos e1] at qq
    simp only [eq_cell, e1, decide_true, if_true]
    exact qq ρ1 τ W1 s1 (mk (.refl _ _))
  · rw [if_neg e1] at qq
    simp only [eq_cell, e1, decide_false, Bool.false_eq_true, if_false]
    by_cases va : isV (der st a)
    · rw [if_pos va] at qq
      refine variable_ok ?_
      simp only [va, decide_true, if_true]
      refine variable_ok ?_
      by_cases vb : isV (der st b)
      · rw [if_pos vb] at qq
        simp only [vb, decide_true, if_true, W1.v.cl, me13]
        exact pair_ok W1.v va vb Ra.ok.1 Rb.ok.1 tl fun σ₁ v s l => qq ρ1 σ₁ (W1.turn v s) (big s) (mk s)
      · rw [if_neg vb] at qq
        simp only [vb, decide_false, Bool.false_eq_true, if_false, r3]
        refine bindc_ok W1 F Rb.ok va Ra.ok.1 tl ?_
        by_cases ho : occB occ st fu (der st a) (der st b) = true
        · rw [if_pos ho] at qq ⊢
          intro σ₁ s
          simpa using qq ρ1 σ₁ (W1.same s (by simp)) (big (nil3 s))
        · rw [if_neg ho] at qq ⊢
          intro σ₁ W' s
          simpa using qq ρ1 σ₁ W' (big s) (mk s)
    · rw [if_neg va] at qq
      refine variable_ok ?_
      simp only [va, decide_false, Bool.false_eq_true, if_false]
      refine variable_ok ?_
      by_cases vb : isV (der st b)
      · rw [if_pos vb] at qq
        simp only [vb, decide_true, if_true, r3]
        refine bindc_ok W1 F Ra.ok vb Rb.ok.1 tl ?_
        by_cases ho : occB occ st fu (der st b) (der st a) = true
        · rw [if_pos ho] at qq ⊢
          intro σ₁ s
          simpa using qq ρ1 σ₁ (W1.same s (by simp)) (big (nil3 s))
        · rw [if_neg ho] at qq ⊢
          intro σ₁ W' s
          simpa using qq ρ1 σ₁ W' (big s) (mk s)
      · rw [if_neg vb] at qq
        simp only [vb, decide_false, Bool.false_eq_true, if_false, W1.v.cl, me18]
        refine compound_ok ?_
        by_cases ca : (der st a).1 = 2 ∨ (der st a).1 = 3
        · have ca' : compound (der st a) = true := compound_iff.mpr ca
          simp only [ca', Bool.true_and] at qq
          simp only [ca, decide_true, if_true]
          refine shape_ok W1.v ca Ra.ok.2.sound Rb.ok.2.sound ?_
          by_cases hs : shape st (der st a) (der st b) = true
          · rw [if_pos hs] at qq
            have eqt : (der st a).1 = (der st b).1 := by
              unfold shape at hs
              split at hs
              · cases hs
              · rename_i h; simpa using h
            have cb : (der st b).1 = 2 ∨ (der st b).1 = 3 := eqt ▸ ca
            obtain ⟨a0, a1⟩ := Ra.ok.2.sound ca
            obtain ⟨b0, b1⟩ := Rb.ok.2.sound cb
            have hHl := W1.v.hl
            have mem : (der st a).2 * span + (der st b).2 ∈ M.map (numOf span) ↔ ((der st a).2, (der st b).2) ∈ M := by
              rw [List.mem_map]
              constructor
              · rintro ⟨p, hp, e⟩
                obtain ⟨k0, k1, k2, k3⟩ := hM p hp
                obtain ⟨z1, z2⟩ := num_inj (a := p.1) (c := (der st a).2) k2 (by omega) b0 (by omega) e
                have : p = ((der st a).2, (der st b).2) := Prod.ext z1 z2
                rw [← this]; exact hp
              · intro h; exact ⟨_, h, rfl⟩
            simp only [hs, if_true, r4, hm1.cl, me23]
            refine add_ok hm1 (by unfold small; simp; omega) (by unfold small; simp; omega) (by rw [List.length_map]; exact ml) ?_
            by_cases hin : ((der st a).2, (der st b).2) ∈ M
            · rw [if_pos hin] at qq
              rw [if_pos (mem.mpr hin)]
              simp
              exact qq ρ1 τ W1 s1 (mk (.refl _ _))
            · rw [if_neg hin] at qq
              rw [if_neg (fun h => hin (mem.mp h))]
              have km := kk mo (by simp)
              have hmt := hm1.met
              have W2 : Wd (τ.set mo (.set (M.map (numOf span) ++ [(der st a).2 * span + (der st b).2]))) so r st q tx fu := W1.same (X := [mo]) (.set (by simp)) (by intro i hi; simp at hi; subst hi; exact km)
              have hw2 : (τ.set mo (.set (M.map (numOf span) ++ [(der st a).2 * span + (der st b).2])))[wo]? = some (.list (w.reverse.map pV)) := by rw [set_get, if_neg (Ne.symm hwm)]; exact hw1
              simp [-List.map_reverse]
              refine pushPairs_ok W2 ca cb Ra.ok.2 Rb.ok.2 hs hw2 hz (kept5 kw) (by simp; omega) ?_
              have hpm : mo ≠ po := ne_of_get hmt hm1.inst (fun h => nomatch h)
              have hpd : mo ≠ pd := ne_of_get hmt hm1.ns (fun h => nomatch h)
              refine qq ρ1 _ (W2.same (X := [wo]) (.set (by simp)) (by intro i hi; simp at hi; subst hi; exact kw)) ((s1.trans (.set (by simp [storeL]))).trans (.set (by simp [storeL]))) ⟨p0, p3, p4, p5, ?_, ⟨?_, ?_, ?_⟩⟩
              · rw [set_get, if_pos rfl, if_pos (lt_of_get hw2)]; simp
              · rw [set_get, if_neg hwp.1, set_get, if_neg hpm]; exact hm1.inst
              · rw [set_get, if_neg hwp.2, set_get, if_neg hpd]; exact hm1.ns
              · rw [set_get, if_neg hwm, set_get, if_pos rfl, if_pos (lt_of_get hmt), List.map_append]; rfl
          · rw [if_neg hs] at qq
            have hs' : shape st (der st a) (der st b) = false := by simpa using hs
            simp [hs']
            exact qq ρ1 τ W1 s1
        · have ca' : compound (der st a) = false := by rw [← Bool.not_eq_true]; exact fun h => ca (compound_iff.mp h)
          simp only [ca', Bool.false_and, Bool.false_eq_true, if_false] at qq
          simp [ca]
          exact qq ρ1 τ W1 s1
end

end Mine
end

/-! C11 -/
noncomputable section
set_option maxHeartbeats 200000
open PySem
namespace Mine

section
variable {m : Nat} {σ σ' : AH} {so : Nat} {r : Rc} {st st' : St} {q : Rs} {tx : List PySem.Str} {fu : List (Int × Int)} {wo po pd mo : Nat}

structure UniInv (st : St) (fu : List (Int × Int)) (w : List (Cell × Cell)) (M : List (Int × Int)) : Prop where
  F : WF2 st fu
  ok : ∀ p ∈ w, CellOk st fu p.1 ∧ CellOk st fu p.2
  nd : M.Nodup
  bd : ∀ p ∈ M, 0 ≤ p.1 ∧ p.1 < st.H.length ∧ 0 ≤ p.2 ∧ p.2 < st.H.length

theorem pairs_bound {n : Nat} (hn : n < 60) {M : List (Int × Int)} (nd : M.Nodup) (bd : ∀ p ∈ M, 0 ≤ p.1 ∧ p.1 < n ∧ 0 ≤ p.2 ∧ p.2 < n) : M.length ≤ 3600 := by
  have h := nodup_bound 3600 (M.map (numOf 60)) ?_ ?_
  · rwa [List.length_map] at h
  · rw [List.Nodup, List.pairwise_map]
    refine List.Pairwise.imp_of_mem (fun {a b} ha hb hne e => hne ?_) nd
    obtain ⟨a1, a2, a3, a4⟩ := bd a ha
    obtain ⟨b1, b2, b3, b4⟩ := bd b hb
    obtain ⟨z1, z2⟩ := num_inj (a := a.1) (c := b.1) a3 (by omega) b3 (by omega) e
    exact Prod.ext z1 z2
  · intro x hx
    obtain ⟨p, hp, rfl⟩ := List.mem_map.mp hx
    obtain ⟨a1, a2, a3, a4⟩ := bd p hp
    unfold numOf
    omega

theorem UniInv.tail {p : Cell × Cell} {w : List (Cell × Cell)} {M : List (Int × Int)} (o : UniInv st fu (p :: w) M) : UniInv st fu w M := ⟨o.F, fun x h => o.ok x (.tail _ h), o.nd, o.bd⟩
theorem UniInv.bind {w : List (Cell × Cell)} {M : List (Int × Int)} {x v : Cell} (o : UniInv st fu w M) (hx : isV x) (hu : nextC st x = some x) (vx : Valid st x) (hv : CellOk st fu v) (h0 : x.1 = 0 → v.1 ≠ 1 ∧ (v.1 = 0 → v.2 ≤ x.2)) (h1 : x.1 = 1 → v.1 = 1 → v.2 ≤ x.2) : UniInv (bindP st x v) fu w M :=
  ⟨bind_wf o.F hx hu vx hv h0 h1, fun p h => ⟨bind_cell hu (o.ok p h).1, bind_cell hu (o.ok p h).2⟩, o.nd, fun p h => by rw [bind_HL]; exact o.bd p h⟩
theorem not_isV {c : Cell} (h : ¬ isV c) : c.1 ≠ 0 ∧ c.1 ≠ 1 := ⟨fun z => h (.inl z), fun z => h (.inr z)⟩
theorem UniInv.bind1 {w : List (Cell × Cell)} {M : List (Int × Int)} {x v : Cell} (o : UniInv st fu w M) (hx : isV x) (rx : Res st fu x) (rv : Res st fu v) (hv : ¬ isV v) : UniInv (bindP st x v) fu w M := by
  obtain ⟨a, b⟩ := not_isV hv
  exact o.bind hx (rx.un hx) rx.ok.1 rv.ok (fun _ => ⟨b, fun t => absurd t a⟩) fun _ t => absurd t b
theorem UniInv.pair {w : List (Cell × Cell)} {M : List (Int × Int)} {a b : Cell} (o : UniInv st fu w M) (hne : a ≠ b) (ha : isV a) (hb : isV b) (ra : Res st fu a) (rb : Res st fu b) : UniInv (pairP st a b) fu w M := by
  obtain ⟨x, v, e, k1, k2, k3, k4, k5, k6⟩ := pairP_cases o.F hne ha hb ra rb
  rw [e]
  exact o.bind k1 k2 k3 k4 k5 k6
theorem shape_comp {a b : Cell} (hs : shape st a b = true) (ha : compound a = true) : compound b = true := by
  unfold shape at hs
  split at hs
  · cases hs
  · rename_i h
    have h : a.1 = b.1 := by simpa using h
    rw [compound_iff] at ha ⊢
    exact h ▸ ha
theorem UniInv.push {a b : Cell} {w : List (Cell × Cell)} {M : List (Int × Int)} (o : UniInv st fu ((a, b) :: w) M) (hs : (compound (der st a) && shape st (der st a) (der st b)) = true) (hm : ¬ ((der st a).2, (der st b).2) ∈ M) :
    UniInv st fu ((argsP st fu (der st a)).zip (argsP st fu (der st b)) ++ w) (M ++ [((der st a).2, (der st b).2)]) := by
  obtain ⟨h1, h2⟩ := Bool.and_eq_true_iff.mp hs
  obtain ⟨ca, cb⟩ := o.ok (a, b) (.head _)
  have Ra : Res st fu (der st a) := der_res o.F ca
  have Rb : Res st fu (der st b) := der_res o.F cb
  refine ⟨o.F, fun p h => ?_, ?_, fun p h => ?_⟩
  · rcases List.mem_append.mp h with h | h
    · obtain ⟨k1, k2⟩ := List.of_mem_zip h
      exact ⟨args_ok o.F k1, args_ok o.F k2⟩
    · exact o.ok p (.tail _ h)
  · rw [List.nodup_append]
    exact ⟨o.nd, by simp, fun x hx y hy => by simp at hy; subst hy; exact fun e => hm (e ▸ hx)⟩
  · rcases List.mem_append.mp h with h | h
    · exact o.bd p h
    · simp at h; subst h
      obtain ⟨a0, a1⟩ := Ra.ok.2.sound (compound_iff.mp h1)
      obtain ⟨b0, b1⟩ := Rb.ok.2.sound (compound_iff.mp (shape_comp h2 h1))
      dsimp only
      omega

theorem pair_HL (st : St) (a b : Cell) : (pairP st a b).H.length = st.H.length := by
  unfold pairP
  split
  · rfl
  · split
    · split <;> exact bind_HL _ _ _
    · split <;> exact bind_HL _ _ _
theorem pair_TL (st : St) (a b : Cell) : (pairP st a b).T.length ≤ st.T.length + 1 := by
  unfold pairP
  split
  · omega
  · split
    · split <;> exact bind_TL _ _ _
    · split <;> exact bind_TL _ _ _

theorem uni_total {occ : Bool} : ∀ (n : Nat) (st : St) (w : List (Cell × Cell)) (M : List (Int × Int)), st.H.length < 60 → w.length + 100 * (3601 - M.length) ≤ n → UniInv st fu w M → ∃ b, uniGo fu occ (n + 1) st w M = some b
  | n, st, [], M, _, _, _ => ⟨(true, st), rfl⟩
  | 0, st, p :: w, M, _, h, o => by simp at h
  | n + 1, st, (a, b) :: w, M, hl, h, o => by
    obtain ⟨ca, cb⟩ := o.ok (a, b) (.head _)
    have Ra : Res st fu (der st a) := der_res o.F ca
    have Rb : Res st fu (der st b) := der_res o.F cb
    simp only [List.length_cons] at h
    rw [uniGo]
    split
    · exact uni_total n st w M hl (by omega) o.tail
    · rename_i hne
      split
      · rename_i va
        split
        · rename_i vb
          exact uni_total n _ w M (by rw [pair_HL]; exact hl) (by omega) (o.tail.pair hne va vb Ra Rb)
        · rename_i vb
          split
          · exact ⟨_, rfl⟩
          · exact uni_total n _ w M (by rw [bind_HL]; exact hl) (by omega) (o.tail.bind1 va Ra Rb vb)
      · rename_i va
        split
        · rename_i vb
          split
          · exact ⟨_, rfl⟩
          · exact uni_total n _ w M (by rw [bind_HL]; exact hl) (by omega) (o.tail.bind1 vb Rb Ra va)
        · split
          · rename_i hs
            split
            · exact uni_total n st w M hl (by omega) o.tail
            · rename_i hm
              have o' := o.push hs hm
              have hb := pairs_bound hl o'.nd o'.bd
              have hf := Ra.ok.2.fits (compound_iff.mp (Bool.and_eq_true_iff.mp hs).1)
              have h1 := args_len st fu (der st a)
              refine uni_total n st _ _ hl ?_ o'
              simp only [List.length_append, List.length_cons, List.length_nil, List.length_zip] at hb ⊢
              omega
          · exact ⟨_, rfl⟩

theorem Same.weakS (s : Same (storeL r wo mo) σ σ') {i : Nat} (h : i ∉ [r.h, r.s, r.t]) (h2 : i ≠ wo) (h3 : i ≠ mo) {o : AObj} (e : σ[i]? = some o) : σ'[i]? = some o :=
  s.get i o (by
    simp only [List.mem_cons, List.not_mem_nil, or_false, not_or] at h
    simp only [storeL, List.mem_cons, List.not_mem_nil, or_false, not_or]
    exact ⟨h.1, h.2.1, h.2.2, h2, h3⟩) e

theorem uni_loop {occ : Bool} {span : Int} (kk : ∀ i ∈ [wo, po, pd, mo], i ∉ keptL so r q) (hz : wo ≠ 0) (hwp : wo ≠ po ∧ wo ≠ pd) {Q : Fl → En → AH → Prop} {res : Bool × St} : ∀ (k : Nat) (st : St) (w : List (Cell × Cell)) (M : List (Int × Int)) (σ : AH) (ρ : En), uniGo fu occ k st w M = some res → span = st.H.length + 1 → Wd σ so r st q tx fu → UniInv st fu w M → UniSt σ ρ so wo po pd mo span occ w M →
    st.T.length + w.length + 100 * (3601 - M.length) ≤ 800000 →
    (∀ ρ' σ', Wd σ' so r res.2 q tx fu → Same (storeL r wo mo) σ σ' → if res.1 = true then Q .next ρ' σ' else Q (.ret (.bool false)) ρ' σ') → whileGo (wE P1 (callN P1 fns (m + 5)) uniCond) (wSL P1 (callN P1 fns (m + 5)) uniBody) k ρ σ Q
  | 0, st, w, M, σ, ρ, e, _, _, _, _, _, _ => by cases e
  | k + 1, st, [], M, σ, ρ, e, hs, W, i, o, bd, qq => by
    cases e
    show wE P1 _ uniCond ρ σ _
    have hl := list_len o.w (by simp)
    simp [uniCond, ↓qq_nil, ↓qq_cons, ↓qs_assign, ↓qs_augLoc, ↓qs_augSub, ↓qs_expr, ↓qs_ite, ↓qs_while, ↓qs_range, ↓qs_for2, ↓qs_forL, ↓qs_forF, ↓qs_ret, ↓qs_retN, ↓qs_cont, ↓qs_pass, ↓qe_loc, ↓qe_kint, ↓qe_kstr, ↓qe_kbool, ↓qe_knone, ↓qe_glob, ↓qe_tup, ↓qe_list, ↓qe_dict0, ↓qe_attr, ↓qe_sub, ↓qe_slTo, ↓qe_cmp, ↓qe_boolop, ↓qe_not, ↓qe_neg, ↓qe_bin, ↓qe_ife, ↓qe_callF, ↓qe_callM, ↓qe_new, ↓qe_blt, ↓qe_meth, ↓qt_loc, ↓qt_tup, ↓qt_attr, ↓qt_sub, ↓ql_nil, ↓ql_cons, ↓qb_one, ↓qb_cons, cmpV, En.put, bindE, g0, g1, g2, g3, g4, g5, g6, g7, g8, eq_int, eq_cell, tup0, tup1, me7, me8, me9, me10, me11, me12, me13, me14, me15, me16, me17, me18, me19, me20, me21, me22, me23, ms0, ms2, ms3, ms5, -List.map_set, -List.map_append, -List.map_reverse, o.r5, hl]
    simpa using qq ρ σ W (.refl _ _)
  | k + 1, st, (a, b) :: w, M, σ, ρ, e, hs, W, i, o, bd, qq => by
    simp only [List.length_cons] at bd
    have hl := list_len o.w (by simp; omega)
    have hHl := W.v.hl
    have hml := pairs_bound hHl i.nd i.bd
    obtain ⟨ca, cb⟩ := i.ok (a, b) (.head _)
    have Ra : Res st fu (der st a) := der_res i.F ca
    have Rb : Res st fu (der st b) := der_res i.F cb
    show wE P1 _ uniCond ρ σ _
    simp only [uniCond, ↓qq_nil, ↓qq_cons, ↓qs_assign, ↓qs_augLoc, ↓qs_augSub, ↓qs_expr, ↓qs_ite, ↓qs_while, ↓qs_range, ↓qs_for2, ↓qs_forL, ↓qs_forF, ↓qs_ret, ↓qs_retN, ↓qs_cont, ↓qs_pass, ↓qe_loc, ↓qe_kint, ↓qe_kstr, ↓qe_kbool, ↓qe_knone, ↓qe_glob, ↓qe_tup, ↓qe_list, ↓qe_dict0, ↓qe_attr, ↓qe_sub, ↓qe_slTo, ↓qe_cmp, ↓qe_boolop, ↓qe_not, ↓qe_neg, ↓qe_bin, ↓qe_ife, ↓qe_callF, ↓qe_callM, ↓qe_new, ↓qe_blt, ↓qe_meth, ↓qt_loc, ↓qt_tup, ↓qt_attr, ↓qt_sub, ↓ql_nil, ↓ql_cons, ↓qb_one, ↓qb_cons, cmpV, En.put, bindE, g0, g1, g2, g3, g4, g5, g6, g7, g8, eq_int, eq_cell, tup0, tup1, me7, me8, me9, me10, me11, me12, me13, me14, me15, me16, me17, me18, me19, me20, me21, me22, me23, ms0, ms2, ms3, ms5, -List.map_set, -List.map_append, -List.map_reverse, ↓ql_nil, ↓ql_cons, o.r5, hl]
    rw [if_pos (by simp)]
    rw [uniGo] at e
    refine uni_body W i.F o ca cb kk hz hwp hs i.bd (by omega) (by omega) (by omega) ?_
    by_cases h1 : der st a = der st b
    · rw [if_pos h1] at e ⊢
      intro ρ' σ' W' s o'
      exact uni_loop kk hz hwp k st w M σ' ρ' e hs W' i.tail o' (by omega) fun ρ'' σ'' W'' s' => qq ρ'' σ'' W'' (s.trans s')
    · rw [if_neg h1] at e ⊢
      by_cases va : isV (der st a)
      · rw [if_pos va] at e ⊢
        by_cases vb : isV (der st b)
        · rw [if_pos vb] at e ⊢
          intro ρ' σ' W' s o'
          have := pair_TL st (der st a) (der st b)
          exact uni_loop kk hz hwp k _ w M σ' ρ' e (by rw [pair_HL]; exact hs) W' (i.tail.pair h1 va vb Ra Rb) o' (by omega) fun ρ'' σ'' W'' s' => qq ρ'' σ'' W'' (s.trans s')
        · rw [if_neg vb] at e ⊢
          by_cases ho : occB occ st fu (der st a) (der st b) = true
          · rw [if_pos ho] at e ⊢
            cases e
            intro ρ' σ' W' s
            simpa using qq ρ' σ' W' s
          · rw [if_neg ho] at e ⊢
            intro ρ' σ' W' s o'
            have := bind_TL st (der st a) (der st b)
            exact uni_loop kk hz hwp k _ w M σ' ρ' e (by rw [bind_HL]; exact hs) W' (i.tail.bind1 va Ra Rb vb) o' (by omega) fun ρ'' σ'' W'' s' => qq ρ'' σ'' W'' (s.trans s')
      · rw [if_neg va] at e ⊢
        by_cases vb : isV (der st b)
        · rw [if_pos vb] at e ⊢
          by_cases ho : occB occ st fu (der st b) (der st a) = true
          · rw [if_pos ho] at e ⊢
            cases e
            intro ρ' σ' W' s
            simpa using qq ρ' σ' W' s
          · rw [if_neg ho] at e ⊢
            intro ρ' σ' W' s o'
            have := bind_TL st (der st b) (der st a)
            exact uni_loop kk hz hwp k _ w M σ' ρ' e (by rw [bind_HL]; exact hs) W' (i.tail.bind1 vb Rb Ra va) o' (by omega) fun ρ'' σ'' W'' s' => qq ρ'' σ'' W'' (s.trans s')
        · rw [if_neg vb] at e ⊢
          by_cases hc : (compound (der st a) && shape st (der st a) (der st b)) = true
          · rw [if_pos hc] at e ⊢
            by_cases hm : ((der st a).2, (der st b).2) ∈ M
            · rw [if_pos hm] at e ⊢
              intro ρ' σ' W' s o'
              exact uni_loop kk hz hwp k st w M σ' ρ' e hs W' i.tail o' (by omega) fun ρ'' σ'' W'' s' => qq ρ'' σ'' W'' (s.trans s')
            · rw [if_neg hm] at e ⊢
              intro ρ' σ' W' s o'
              have i' := i.push hc hm
              have hb := pairs_bound hHl i'.nd i'.bd
              have hf := Ra.ok.2.fits (compound_iff.mp (Bool.and_eq_true_iff.mp hc).1)
              have ha := args_len st fu (der st a)
              refine uni_loop kk hz hwp k st _ _ σ' ρ' e hs W' i' o' ?_ fun ρ'' σ'' W'' s' => qq ρ'' σ'' W'' (s.trans s')
              simp only [List.length_append, List.length_cons, List.length_nil, List.length_zip] at hb ⊢
              omega
          · rw [if_neg hc] at e ⊢
            cases e
            intro ρ' σ' W' s
            simpa using qq ρ' σ' W' s

/-- unify -/
noncomputable def uniP (fu : List (Int × Int)) (occ : Bool) (st : St) (a b : Cell) : Bool × St := (uniGo fu occ 370000 st [(a, b)] []).getD (false, st)

theorem mkNew {σ : AH} {c : Nat} : instOf (σ ++ [.ns []] ++ [.inst c σ.length]) (.obj (σ.length + 1)) = some c := by simp [instOf]
theorem init3 : P1.init 3 = some 27 := rfl

theorem full_ub (n : Nat) (h : n < 400000) : n + 1 + 100 * (3601 - 0) ≤ 800000 := by omega
theorem full_bd (h : st.T.length < 400000) {a b : Cell} : st.T.length + [(a, b)].length + 100 * (3601 - ([] : List (Cell × Cell)).length) ≤ 800000 := by
  rw [List.length_singleton, List.length_nil]
  exact full_ub _ h

theorem unify_ok (W : Wd σ so r st q tx fu) (F : WF2 st fu) {a b : Cell} (ha : CellOk st fu a) (hb : CellOk st fu b) (tl : st.T.length < 400000) {occ : Bool} {Q : V → AH → Prop}
    (qq : ∀ σ', Wd σ' so r (uniP fu occ st a b).2 q tx fu → Same [r.h, r.s, r.t] σ σ' → Q (.bool (uniP fu occ st a b).1) σ') : callN P1 fns (m + 6) 33 [.obj so, cV a, cV b, .bool occ] σ Q := by
  refine call_of (fn := f_unify) rfl rfl ?_
  have s0 : Same [] σ (σ ++ [.ns []] ++ [.inst 3 σ.length]) := (Same.app _).trans (.app _)
  have W0 := W.same s0 (by simp)
  have n0 : ∀ i ∈ keptL so r q, i < σ.length := kept_lt W
  have hpV : V.tup [cV a, cV b] = pV (a, b) := rfl
  show wSL P1 _ (.cons (.assign (.loc 4) (.new 3 (.cons (.loc 0) .nil))) (.cons (.assign (.loc 5) (.list (.cons (.tup (.cons (.loc 1) (.cons (.loc 2) .nil))) .nil))) (.cons (.while uniCond uniBody) (.cons (.ret (.kbool true)) .nil)))) _ _ _
  simp only [↓qq_nil, ↓qq_cons, ↓qs_assign, ↓qs_augLoc, ↓qs_augSub, ↓qs_expr, ↓qs_ite, ↓qs_while, ↓qs_range, ↓qs_for2, ↓qs_forL, ↓qs_forF, ↓qs_ret, ↓qs_retN, ↓qs_cont, ↓qs_pass, ↓qe_loc, ↓qe_kint, ↓qe_kstr, ↓qe_kbool, ↓qe_knone, ↓qe_glob, ↓qe_tup, ↓qe_list, ↓qe_dict0, ↓qe_attr, ↓qe_sub, ↓qe_slTo, ↓qe_cmp, ↓qe_boolop, ↓qe_not, ↓qe_neg, ↓qe_bin, ↓qe_ife, ↓qe_callF, ↓qe_callM, ↓qe_new, ↓qe_blt, ↓qe_meth, ↓qt_loc, ↓qt_tup, ↓qt_attr, ↓qt_sub, ↓ql_nil, ↓ql_cons, ↓qb_one, ↓qb_cons, cmpV, En.put, bindE, g0, g1, g2, g3, g4, g5, g6, g7, g8, eq_int, eq_cell, tup0, tup1, me7, me8, me9, me10, me11, me12, me13, me14, me15, me16, me17, me18, me19, me20, me21, me22, me23, ms0, ms2, ms3, ms5, -List.map_set, -List.map_append, -List.map_reverse, init3, ↓qq_nil, ↓qq_cons, ↓qs_assign, ↓qs_augLoc, ↓qs_augSub, ↓qs_expr, ↓qs_ite, ↓qs_while, ↓qs_range, ↓qs_for2, ↓qs_forL, ↓qs_forF, ↓qs_ret, ↓qs_retN, ↓qs_cont, ↓qs_pass, ↓qe_loc, ↓qe_kint, ↓qe_kstr, ↓qe_kbool, ↓qe_knone, ↓qe_glob, ↓qe_tup, ↓qe_list, ↓qe_dict0, ↓qe_attr, ↓qe_sub, ↓qe_slTo, ↓qe_cmp, ↓qe_boolop, ↓qe_not, ↓qe_neg, ↓qe_bin, ↓qe_ife, ↓qe_callF, ↓qe_callM, ↓qe_new, ↓qe_blt, ↓qe_meth, ↓ql_nil, ↓ql_cons, ↓qt_loc, ↓qt_tup, ↓qt_attr, ↓qt_sub, bindE]
  simp
  refine pairset_init (po := σ.length + 1) (d := σ.length) (by simpa using W0.v) (by simp) (by simp) (fun h => by
    have : σ.length ∈ keptL so r q := by
      simp only [List.mem_cons, List.not_mem_nil, or_false] at h
      simp only [keptL, List.mem_cons, List.not_mem_nil, or_false]
      rcases h with h | h | h | h | h <;> simp [h]
    have := n0 _ this
    omega) fun σ₁ mv s1 l1 => ?_
  refine ⟨rfl, ?_⟩
  show ∃ n, whileGo _ _ n (((bindE 0 [.obj so, cV a, cV b, .bool occ]).put 4 (.obj (σ.length + 1))).put 5 (.obj σ₁.length)) (σ₁ ++ [.list [pV (a, b)]]) _
  have hl2 : List.length (σ ++ [AObj.ns [], AObj.inst 3 (List.length σ)]) = σ.length + 2 := by simp
  rw [hl2] at mv l1
  have off : σ.length ∉ keptL so r q := above_kept W (Nat.le_refl _)
  have W1 : Wd σ₁ so r st q tx fu := by
    refine Wd.same ?_ s1 (by intro i hi; simp at hi; subst hi; exact off)
    simpa using W0
  have W2 := W1.same (X := []) (Same.app [.list [pV (a, b)]]) (by simp)
  have i0 : UniInv st fu [(a, b)] [] := ⟨F, fun p h => by simp at h; subst h; exact ⟨ha, hb⟩, by simp, fun p h => by simp at h⟩
  obtain ⟨res, hres⟩ := uni_total (occ := occ) 369999 st [(a, b)] [] W.v.hl (by simp) i0
  have hP : uniP fu occ st a b = res := by unfold uniP; rw [hres]; rfl
  rw [hP] at qq
  have kk : ∀ i ∈ [σ₁.length, σ.length + 1, σ.length, σ.length + 2], i ∉ keptL so r q := by
    intro i hi
    refine above_kept W ?_
    simp only [List.mem_cons, List.not_mem_nil, or_false] at hi
    rcases hi with h | h | h | h <;> omega
  refine ⟨370000, uni_loop (span := (st.H.length : Int) + 1) kk (by omega) ⟨by omega, by omega⟩ 370000 st [(a, b)] [] _ _ hres rfl W2 i0 ⟨rfl, rfl, rfl, rfl, by simp, mv.same (X := []) (Same.app _) (by simp) (by simp) (by simp)⟩ (full_bd tl) fun ρ' σ' W' s => ?_⟩
  have s2 : Same [r.h, r.s, r.t] σ σ' := by
    have k1 : Same (storeL r σ₁.length (σ.length + 2) ++ [σ.length]) σ σ' := by
      have j1 : Same (storeL r σ₁.length (σ.length + 2) ++ [σ.length]) σ (σ ++ [AObj.ns [], AObj.inst 3 (List.length σ)]) := Same.app _
      have j2 : Same (storeL r σ₁.length (σ.length + 2) ++ [σ.length]) (σ ++ [AObj.ns [], AObj.inst 3 (List.length σ)]) σ₁ := s1.weak (by simp)
      have j3 : Same (storeL r σ₁.length (σ.length + 2) ++ [σ.length]) σ₁ (σ₁ ++ [.list [pV (a, b)]]) := Same.app _
      exact ((j1.trans j2).trans j3).trans (s.weak (by intro i hi; simp [hi]))
    refine k1.strong fun i hi => ?_
    simp only [storeL, List.cons_append, List.nil_append, List.mem_cons, List.not_mem_nil, or_false] at hi ⊢
    rcases hi with h | h | h | h | h | h
    · exact .inl (.inl h)
    · exact .inl (.inr (.inl h))
    · exact .inl (.inr (.inr h))
    · exact .inr (by omega)
    · exact .inr (by omega)
    · exact .inr (by omega)
  have fin := qq σ' W' s2
  by_cases h : res.1 = true
  · rw [if_pos h]
    rw [h] at fin
    exact fin
  · rw [if_neg h]
    have h' : res.1 = false := by simpa using h
    rw [h'] at fin
    exact fin
end

end Mine
end

/-! U1 -/
noncomputable section
set_option maxHeartbeats 200000
open PySem
namespace Mine

/-! the plain law of unify -/
section
variable {st st' : St} {fu : List (Int × Int)} {occ : Bool}

theorem nextC_eq (h : st'.H = st.H) (s : st'.S = st.S) (c : Cell) : nextC st' c = nextC st c := by unfold nextC; rw [h, s]
theorem derefP_eq (h : st'.H = st.H) (s : st'.S = st.S) : ∀ (k : Nat) (c : Cell), derefP st' k c = derefP st k c
  | 0, c => rfl
  | k + 1, c => by
    unfold derefP
    rw [nextC_eq h s]
    cases nextC st c with
    | none => rfl
    | some f => dsimp only; rw [derefP_eq h s k f]
theorem der_eq (h : st'.H = st.H) (s : st'.S = st.S) (c : Cell) : der st' c = der st c := by unfold der; rw [derefP_eq h s, h, s]
theorem args_eq (h : st'.H = st.H) (c : Cell) : argsP st' fu c = argsP st fu c := by unfold argsP widthP; rw [h]
theorem shape_eq (h : st'.H = st.H) (a b : Cell) : shape st' a b = shape st a b := by unfold shape; rw [h]
theorem occGo_eq (h : st'.H = st.H) (s : st'.S = st.S) (x : Cell) : ∀ (k : Nat) (w : List Cell) (M : List Int), occGo st' fu x k w M = occGo st fu x k w M
  | 0, _, _ => rfl
  | k + 1, [], _ => rfl
  | k + 1, t :: w, M => by
    rw [occGo, occGo, der_eq h s, args_eq h, occGo_eq h s x k, occGo_eq h s x k]
theorem occB_eq (h : st'.H = st.H) (s : st'.S = st.S) (x c : Cell) : occB occ st' fu x c = occB occ st fu x c := by
  unfold occB occP; rw [der_eq h s, occGo_eq h s]
theorem bindHS (h : st'.H = st.H) (s : st'.S = st.S) (x v : Cell) : (bindP st' x v).H = (bindP st x v).H ∧ (bindP st' x v).S = (bindP st x v).S := by
  unfold bindP; dsimp only; rw [h, s]; exact ⟨rfl, rfl⟩
theorem pairHS (h : st'.H = st.H) (s : st'.S = st.S) (a b : Cell) : (pairP st' a b).H = (pairP st a b).H ∧ (pairP st' a b).S = (pairP st a b).S := by
  unfold pairP
  split
  · exact ⟨h, s⟩
  · split
    · split <;> exact bindHS h s _ _
    · split <;> exact bindHS h s _ _

/-- what unify tells does not hang on the trail and the bounds -/
theorem uni_indep : ∀ (k : Nat) (st st' : St) (w : List (Cell × Cell)) (M : List (Int × Int)) (b : Bool) (s1 : St), st'.H = st.H → st'.S = st.S → uniGo fu occ k st w M = some (b, s1) → ∃ s1', uniGo fu occ k st' w M = some (b, s1') ∧ s1'.H = s1.H ∧ s1'.S = s1.S
  | 0, st, st', w, M, b, s1, _, _, e => by cases e
  | k + 1, st, st', [], M, b, s1, h, s, e => by cases e; exact ⟨st', rfl, h, s⟩
  | k + 1, st, st', (x, y) :: w, M, b, s1, h, s, e => by
    rw [uniGo] at e ⊢
    rw [der_eq h s, der_eq h s, occB_eq h s, occB_eq h s, shape_eq h, args_eq h, args_eq h]
    split at e
    · rename_i c; rw [if_pos c]; exact uni_indep k st st' w M b s1 h s e
    · rename_i c
      rw [if_neg c]
      split at e
      · rename_i c1
        rw [if_pos c1]
        split at e
        · rename_i c2
          rw [if_pos c2]
          obtain ⟨h', s'⟩ := pairHS h s (der st x) (der st y)
          exact uni_indep k _ _ w M b s1 h' s' e
        · rename_i c2
          rw [if_neg c2]
          split at e
          · rename_i c3; rw [if_pos c3]; cases e; exact ⟨st', rfl, h, s⟩
          · rename_i c3
            rw [if_neg c3]
            obtain ⟨h', s'⟩ := bindHS h s (der st x) (der st y)
            exact uni_indep k _ _ w M b s1 h' s' e
      · rename_i c1
        rw [if_neg c1]
        split at e
        · rename_i c2
          rw [if_pos c2]
          split at e
          · rename_i c3; rw [if_pos c3]; cases e; exact ⟨st', rfl, h, s⟩
          · rename_i c3
            rw [if_neg c3]
            obtain ⟨h', s'⟩ := bindHS h s (der st y) (der st x)
            exact uni_indep k _ _ w M b s1 h' s' e
        · rename_i c2
          rw [if_neg c2]
          split at e
          · rename_i c3
            rw [if_pos c3]
            split at e
            · rename_i c4; rw [if_pos c4]; exact uni_indep k st st' w M b s1 h s e
            · rename_i c4; rw [if_neg c4]; exact uni_indep k st st' _ _ b s1 h s e
          · rename_i c3; rw [if_neg c3]; cases e; exact ⟨st', rfl, h, s⟩

theorem pair_comm {a b : Cell} (hne : a ≠ b) (ha : isV a) (hb : isV b) : pairP st a b = pairP st b a := by
  unfold pairP
  rw [if_neg hne, if_neg (Ne.symm hne)]
  by_cases e : a.1 = b.1
  · rw [if_pos e, if_pos e.symm]
    have : a.2 ≠ b.2 := fun z => hne (Prod.ext e z)
    by_cases l : a.2 < b.2
    · rw [if_pos l, if_neg (by omega)]
    · rw [if_neg l, if_pos (by omega)]
  · rw [if_neg e, if_neg (Ne.symm e)]
    rcases ha with ha | ha <;> rcases hb with hb | hb
    · exact absurd (ha.trans hb.symm) e
    · rw [if_neg (by omega), if_pos hb]
    · rw [if_pos ha, if_neg (by omega)]
    · exact absurd (ha.trans hb.symm) e
theorem shape_comm (a b : Cell) : shape st a b = shape st b a := by
  unfold shape
  by_cases e : a.1 = b.1
  · simp only [e, ne_eq, not_true_eq_false, if_false]
    split
    · rfl
    · exact decide_eq_decide.mpr ⟨Eq.symm, Eq.symm⟩
  · rw [if_pos (by simpa using e), if_pos (by simpa using Ne.symm e)]
noncomputable def swp (p : Cell × Cell) : Cell × Cell := (p.2, p.1)
noncomputable def swq (p : Int × Int) : Int × Int := (p.2, p.1)
theorem swq_mem {M : List (Int × Int)} {a b : Int} : (a, b) ∈ M.map swq ↔ (b, a) ∈ M := by
  rw [List.mem_map]
  constructor
  · rintro ⟨p, hp, e⟩; unfold swq at e; cases e; exact hp
  · intro h; exact ⟨(b, a), h, rfl⟩
theorem zip_swp (l l' : List Cell) : (l.zip l').map swp = l'.zip l := by
  induction l generalizing l' with
  | nil => simp
  | cons x l ih =>
    cases l' with
    | nil => simp
    | cons y l' => rw [List.zip_cons_cons, List.zip_cons_cons, List.map_cons, ih]; rfl

/-- the mirror image -/
theorem uni_mirror : ∀ (k : Nat) (st : St) (w : List (Cell × Cell)) (M : List (Int × Int)), uniGo fu occ k st (w.map swp) (M.map swq) = uniGo fu occ k st w M
  | 0, _, _, _ => rfl
  | k + 1, st, [], M => rfl
  | k + 1, st, (a, b) :: w, M => by
    show uniGo fu occ (k + 1) st ((b, a) :: w.map swp) (M.map swq) = _
    rw [uniGo, uniGo]
    by_cases e : der st a = der st b
    · rw [if_pos e.symm, if_pos e]; exact uni_mirror k st w M
    · rw [if_neg (Ne.symm e), if_neg e]
      by_cases va : isV (der st a)
      · by_cases vb : isV (der st b)
        · rw [if_pos vb, if_pos va, if_pos va, if_pos vb, pair_comm e va vb]
          exact uni_mirror k _ w M
        · rw [if_neg vb, if_pos va, if_pos va, if_neg vb]
          rw [uni_mirror k _ w M]
      · by_cases vb : isV (der st b)
        · rw [if_pos vb, if_neg va, if_neg va, if_pos vb]
          rw [uni_mirror k _ w M]
        · rw [if_neg vb, if_neg va, if_neg va, if_neg vb]
          have hc : (compound (der st b) && shape st (der st b) (der st a)) = (compound (der st a) && shape st (der st a) (der st b)) := by
            rw [shape_comm (der st b)]
            by_cases hs : shape st (der st a) (der st b) = true
            · have h1 : (der st a).1 = (der st b).1 := by
                unfold shape at hs
                split at hs
                · cases hs
                · rename_i h; simpa using h
              unfold compound
              rw [h1]
            · have : shape st (der st a) (der st b) = false := by simpa using hs
              rw [this, Bool.and_false, Bool.and_false]
          rw [hc]
          split
          · by_cases hm : ((der st a).2, (der st b).2) ∈ M
            · rw [if_pos (swq_mem.mpr hm), if_pos hm]; exact uni_mirror k st w M
            · rw [if_neg (fun h => hm (swq_mem.mp h)), if_neg hm]
              have := uni_mirror k st ((argsP st fu (der st a)).zip (argsP st fu (der st b)) ++ w) (M ++ [((der st a).2, (der st b).2)])
              rw [List.map_append, List.map_append, zip_swp] at this
              exact this
          · rfl
theorem uniP_mirror (a b : Cell) : uniP fu occ st b a = uniP fu occ st a b := by
  unfold uniP
  rw [← uni_mirror 370000 st [(a, b)] []]
  rfl

noncomputable def trl (hb bb e : Int) : Bool := if 0 ≤ e then decide (e < hb) else decide (-1 - e < bb)
noncomputable def selfAt (st : St) (e : Int) : Prop := if 0 ≤ e then st.H[e.toNat]? = some (0, e) else st.S[(-1 - e).toNat]? = some (1, -1 - e)
/-- what was bound between two states of a store -/
structure Back (st s1 : St) (B : List Int) : Prop where
  T : s1.T = st.T ++ B.filter (trl st.hb st.bb)
  hb : s1.hb = st.hb
  bb : s1.bb = st.bb
  hl : s1.H.length = st.H.length
  sl : s1.S.length = st.S.length
  self : ∀ e ∈ B, selfAt st e
  H : ∀ a : Nat, (a : Int) ∉ B → s1.H[a]? = st.H[a]?
  S : ∀ a : Nat, (-1 - (a : Int)) ∉ B → s1.S[a]? = st.S[a]?
theorem Back.refl (st : St) : Back st st [] := ⟨by simp, rfl, rfl, rfl, rfl, fun _ h => by simp at h, fun _ _ => rfl, fun _ _ => rfl⟩
theorem Back.trans {s1 s2 : St} {B B' : List Int} (x : Back st s1 B) (y : Back s1 s2 B') : Back st s2 (B ++ B') := by
  refine ⟨?_, y.hb.trans x.hb, y.bb.trans x.bb, y.hl.trans x.hl, y.sl.trans x.sl, fun e h => ?_, fun a h => ?_, fun a h => ?_⟩
  · rw [y.T, x.T, x.hb, x.bb, List.filter_append, List.append_assoc]
  · rcases List.mem_append.mp h with h | h
    · exact x.self e h
    · have h2 := y.self e h
      by_cases m : e ∈ B
      · exact x.self e m
      · unfold selfAt at h2 ⊢
        split at h2
        · rename_i z
          rw [if_pos z]
          rw [x.H e.toNat (by rw [Int.toNat_of_nonneg z]; exact m)] at h2
          exact h2
        · rename_i z
          rw [if_neg z]
          have hz : (-1 - ((-1 - e).toNat : Int)) = e := by omega
          rw [x.S (-1 - e).toNat (by rw [hz]; exact m)] at h2
          exact h2
  · rw [List.mem_append, not_or] at h
    exact (y.H a h.2).trans (x.H a h.1)
  · rw [List.mem_append, not_or] at h
    exact (y.S a h.2).trans (x.S a h.1)
theorem bind_back {x v : Cell} (hx : isV x) (hu : nextC st x = some x) (vx : Valid st x) : Back st (bindP st x v) [entry x] := by
  have hself : selfAt st (entry x) := by
    unfold selfAt entry
    unfold nextC at hu
    by_cases t : x.1 = 0
    · rw [if_pos t, if_pos (vx.1 t).1]
      rw [if_pos t] at hu
      rw [hu, ← t]
    · have t1 : x.1 = 1 := hx.resolve_left t
      rw [if_neg t, if_pos t1] at hu
      have h0 := (vx.2 t1).1
      have e1 : (-1 - (-1 - x.2)) = x.2 := by omega
      rw [if_neg t, if_neg (by omega), e1, hu, ← t1]
  refine ⟨?_, rfl, rfl, bind_HL _ _ _, bind_SL _ _ _, fun e h => by simp at h; subst h; exact hself, fun a h => ?_, fun a h => ?_⟩
  · show (if (if x.1 = 0 then x.2 < st.hb else x.2 < st.bb) then st.T ++ [entry x] else st.T) = _
    have : trl st.hb st.bb (entry x) = decide (if x.1 = 0 then x.2 < st.hb else x.2 < st.bb) := by
      unfold trl entry
      by_cases t : x.1 = 0
      · simp only [t, if_true]
        rw [if_pos (vx.1 t).1]
      · have t1 : x.1 = 1 := hx.resolve_left t
        have h0 := (vx.2 t1).1
        have e1 : (-1 - (-1 - x.2)) = x.2 := by omega
        simp only [t, if_false]
        rw [if_neg (by omega), e1]
    by_cases c : (if x.1 = 0 then x.2 < st.hb else x.2 < st.bb)
    · rw [if_pos c]
      simp [this, c]
    · rw [if_neg c]
      simp [this, c]
  · rw [bind_H, if_neg]
    rintro ⟨h1, h2, h3⟩
    refine h ?_
    have := (vx.1 h1).1
    unfold entry
    rw [if_pos h1]
    simp
    omega
  · rw [bind_S, if_neg]
    rintro ⟨h1, h2, h3⟩
    refine h ?_
    have := (vx.2 (hx.resolve_left h1)).1
    unfold entry
    rw [if_neg h1]
    simp
    omega
theorem uni_back : ∀ (k : Nat) (st : St) (w : List (Cell × Cell)) (M : List (Int × Int)) (b : Bool) (s1 : St), UniInv st fu w M → uniGo fu occ k st w M = some (b, s1) → ∃ B, Back st s1 B ∧ WF2 s1 fu ∧ ∀ c, CellOk st fu c → CellOk s1 fu c
  | 0, st, w, M, b, s1, _, e => by cases e
  | k + 1, st, [], M, b, s1, i, e => by cases e; exact ⟨[], .refl _, i.F, fun _ h => h⟩
  | k + 1, st, (x, y) :: w, M, b, s1, i, e => by
    obtain ⟨ca, cb⟩ := i.ok (x, y) (.head _)
    have Ra : Res st fu (der st x) := der_res i.F ca
    have Rb : Res st fu (der st y) := der_res i.F cb
    have stop : ∀ {b' : Bool}, some (b', st) = some (b, s1) → ∃ B, Back st s1 B ∧ WF2 s1 fu ∧ ∀ c, CellOk st fu c → CellOk s1 fu c := fun h => by cases h; exact ⟨[], .refl _, i.F, fun _ h => h⟩
    have step : ∀ {x' v' : Cell}, isV x' → nextC st x' = some x' → Valid st x' → (∃ B, Back (bindP st x' v') s1 B ∧ WF2 s1 fu ∧ ∀ c, CellOk (bindP st x' v') fu c → CellOk s1 fu c) → ∃ B, Back st s1 B ∧ WF2 s1 fu ∧ ∀ c, CellOk st fu c → CellOk s1 fu c := by
      rintro x' v' h1 h2 h3 ⟨B, b1, b2, b3⟩
      exact ⟨_, (bind_back h1 h2 h3).trans b1, b2, fun c h => b3 c (bind_cell h2 h)⟩
    rw [uniGo] at e
    split at e
    · exact uni_back k st w M b s1 i.tail e
    · rename_i hne
      split at e
      · rename_i va
        split at e
        · rename_i vb
          obtain ⟨x', v', e1, k1, k2, k3, k4, k5, k6⟩ := pairP_cases i.F hne va vb Ra Rb
          rw [e1] at e
          exact step k1 k2 k3 (uni_back k _ w M b s1 (i.tail.bind k1 k2 k3 k4 k5 k6) e)
        · rename_i vb
          split at e
          · exact stop e
          · exact step va (Ra.un va) Ra.ok.1 (uni_back k _ w M b s1 (i.tail.bind1 va Ra Rb vb) e)
      · rename_i va
        split at e
        · rename_i vb
          split at e
          · exact stop e
          · exact step vb (Rb.un vb) Rb.ok.1 (uni_back k _ w M b s1 (i.tail.bind1 vb Rb Ra va) e)
        · split at e
          · rename_i hc
            split at e
            · exact uni_back k st w M b s1 i.tail e
            · rename_i hm
              exact uni_back k st _ _ b s1 (i.push hc hm) e
          · exact stop e

theorem unsL_get : ∀ (l : List Int) (p : List Cell × List Cell), (∀ a : Nat, (unsL p l).1[a]? = if (a : Int) ∈ l ∧ a < p.1.length then some (0, (a : Int)) else p.1[a]?) ∧ (∀ a : Nat, (unsL p l).2[a]? = if (-1 - (a : Int)) ∈ l ∧ a < p.2.length then some (1, (a : Int)) else p.2[a]?)
  | [], p => by simp [unsL]
  | e :: l, p => by
    obtain ⟨h1, h2⟩ := unsL_get l (uns p e)
    obtain ⟨l1, l2⟩ := uns_len p e
    refine ⟨fun a => ?_, fun a => ?_⟩
    · show (unsL (uns p e) l).1[a]? = _
      rw [h1 a, l1]
      by_cases m : (a : Int) ∈ l ∧ a < p.1.length
      · rw [if_pos m, if_pos ⟨.tail _ m.1, m.2⟩]
      · rw [if_neg m]
        unfold uns
        by_cases z : 0 ≤ e
        · rw [if_pos z]
          dsimp only
          rw [List.getElem?_set]
          by_cases q : e.toNat = a
          · have q' : (a : Int) = e := by omega
            by_cases lt : a < p.1.length
            · rw [if_pos q, if_pos (by omega), if_pos ⟨by rw [q']; exact .head _, lt⟩, q']
            · rw [if_pos q, if_neg (by omega), if_neg (fun h => lt h.2)]
              exact (List.getElem?_eq_none (by omega)).symm
          · rw [if_neg q, if_neg]
            rintro ⟨h, lt⟩
            rcases List.mem_cons.mp h with h | h
            · omega
            · exact m ⟨h, lt⟩
        · rw [if_neg z, if_neg]
          rintro ⟨h, lt⟩
          rcases List.mem_cons.mp h with h | h
          · omega
          · exact m ⟨h, lt⟩
    · show (unsL (uns p e) l).2[a]? = _
      rw [h2 a, l2]
      by_cases m : (-1 - (a : Int)) ∈ l ∧ a < p.2.length
      · rw [if_pos m, if_pos ⟨.tail _ m.1, m.2⟩]
      · rw [if_neg m]
        unfold uns
        by_cases z : 0 ≤ e
        · rw [if_pos z, if_neg]
          rintro ⟨h, lt⟩
          rcases List.mem_cons.mp h with h | h
          · omega
          · exact m ⟨h, lt⟩
        · rw [if_neg z]
          dsimp only
          rw [List.getElem?_set]
          by_cases q : (-1 - e).toNat = a
          · have q' : (-1 - (a : Int)) = e := by omega
            by_cases lt : a < p.2.length
            · rw [if_pos q, if_pos (by omega), if_pos ⟨by rw [q']; exact .head _, lt⟩]
              congr 2
              omega
            · rw [if_pos q, if_neg (by omega), if_neg (fun h => lt h.2)]
              exact (List.getElem?_eq_none (by omega)).symm
          · rw [if_neg q, if_neg]
            rintro ⟨h, lt⟩
            rcases List.mem_cons.mp h with h | h
            · omega
            · exact m ⟨h, lt⟩

/-- undone -/
theorem back_undo {s1 : St} {B : List Int} (x : Back st s1 B) : unsL (s1.H, s1.S) B.reverse = (st.H, st.S) := by
  obtain ⟨h1, h2⟩ := unsL_get B.reverse (s1.H, s1.S)
  refine Prod.ext (List.ext_getElem? fun a => ?_) (List.ext_getElem? fun a => ?_)
  · rw [h1 a]
    by_cases m : (a : Int) ∈ B
    · have h := x.self _ m
      unfold selfAt at h
      rw [if_pos (by omega)] at h
      have h' : st.H[a]? = some (0, (a : Int)) := by simpa using h
      rw [if_pos ⟨by simpa using m, by rw [x.hl]; exact (List.getElem?_eq_some_iff.mp h').1⟩, h']
    · rw [if_neg (fun h => m (by simpa using h.1))]
      exact x.H a m
  · rw [h2 a]
    by_cases m : (-1 - (a : Int)) ∈ B
    · have h := x.self _ m
      unfold selfAt at h
      rw [if_neg (by omega)] at h
      have e1 : (-1 - (-1 - (a : Int))) = a := by omega
      rw [e1] at h
      have h' : st.S[a]? = some (1, (a : Int)) := by simpa using h
      rw [if_pos ⟨by simpa using m, by rw [x.sl]; exact (List.getElem?_eq_some_iff.mp h').1⟩, h']
    · rw [if_neg (fun h => m (by simpa using h.1))]
      exact x.S a m
theorem back_entries {s1 : St} {B : List Int} (x : Back st s1 B) : ∀ e ∈ B, EntryOk s1.H.length s1.S.length e := by
  intro e h
  have h := x.self e h
  unfold selfAt at h
  unfold EntryOk
  rw [x.hl, x.sl]
  split at h
  · rename_i z; rw [if_pos z]; exact (List.getElem?_eq_some_iff.mp h).1
  · rename_i z; rw [if_neg z]; exact (List.getElem?_eq_some_iff.mp h).1
end

end Mine
end

/-! C12 -/
noncomputable section
set_option maxHeartbeats 200000
open PySem
namespace Mine

section
variable {m : Nat} {σ σ' : AH} {so : Nat} {r : Rc} {st st' : St} {q : Rs} {tx : List PySem.Str} {fu : List (Int × Int)} {occ : Bool}

theorem View.put9 (v : View σ so r st) (x : Int) : attrPut σ (.obj so) 9 (.int x) = some (σ.set r.d (.ns (nsL r { st with hb := x }))) := by
  rw [attr_put v.inst v.ns]; simp [nsPut, nsL]
theorem View.put10 (v : View σ so r st) (x : Int) : attrPut σ (.obj so) 10 (.int x) = some (σ.set r.d (.ns (nsL r { st with bb := x }))) := by
  rw [attr_put v.inst v.ns]; simp [nsPut, nsL]
theorem Wd.put (W : Wd σ so r st q tx fu) (st' : St) (e1 : st'.H = st.H) (e2 : st'.S = st.S) (e3 : st'.T = st.T) : Wd (σ.set r.d (.ns (nsL r st'))) so r st' q tx fu := by
  refine ⟨W.v.setD st' e1 e2 e3, W.y.same (X := [r.d]) (.set (by simp)) ?_, W.dj⟩
  intro i hi hm
  simp only [List.mem_cons, List.not_mem_nil, or_false] at hi
  subst hi
  have h1 := W.v.ns
  have kn : ∀ {j : Nat} {o : AObj}, σ[j]? = some o → (∀ fs, o ≠ .ns fs) → r.d ≠ j := fun e h z => by
    subst z; rw [h1] at e; exact h _ (Option.some.inj e).symm
  simp only [List.mem_cons, List.not_mem_nil, or_false] at hm
  rcases hm with h | h | h | h | h | h
  · exact kn W.y.inst (fun _ h => nomatch h) h
  · have := W.y.ns
    rw [← h, h1] at this
    simp [nsL] at this
  · exact kn W.y.ltx (fun _ h => nomatch h) h
  · exact kn W.y.an (fun _ h => nomatch h) h
  · exact kn W.y.lfu (fun _ h => nomatch h) h
  · exact kn W.y.fn (fun _ h => nomatch h) h

theorem WF2.re (F : WF2 st fu) (h : st'.H = st.H) (s : st'.S = st.S) : WF2 st' fu := by
  obtain ⟨H, S, T, hb, bb⟩ := st
  obtain ⟨H', S', T', hb', bb'⟩ := st'
  cases h; cases s
  exact ⟨⟨F.wf.heap, F.wf.stack⟩, F.hs, F.ss⟩
theorem CellOk.re {c : Cell} (F : CellOk st fu c) (h : st'.H = st.H) (s : st'.S = st.S) : CellOk st' fu c := by
  obtain ⟨H, S, T, hb, bb⟩ := st
  obtain ⟨H', S', T', hb', bb'⟩ := st'
  cases h; cases s
  exact F
theorem uniP_re (F : WF2 st fu) (hl : st.H.length < 60) {a b : Cell} (ha : CellOk st fu a) (hb : CellOk st fu b) (h : st'.H = st.H) (s : st'.S = st.S) : (uniP fu occ st' a b).1 = (uniP fu occ st a b).1 ∧ (uniP fu occ st' a b).2.H = (uniP fu occ st a b).2.H ∧ (uniP fu occ st' a b).2.S = (uniP fu occ st a b).2.S := by
  have i0 : UniInv st fu [(a, b)] [] := ⟨F, fun p h => by simp at h; subst h; exact ⟨ha, hb⟩, by simp, fun p h => by simp at h⟩
  obtain ⟨⟨x, s1⟩, e⟩ := uni_total (occ := occ) 369999 st [(a, b)] [] hl (by simp) i0
  obtain ⟨s1', e', h1, h2⟩ := uni_indep 370000 st st' _ _ _ _ h s e
  unfold uniP
  rw [e, e']
  exact ⟨rfl, h1, h2⟩
theorem uniP_back (F : WF2 st fu) (hl : st.H.length < 60) {a b : Cell} (ha : CellOk st fu a) (hb : CellOk st fu b) : ∃ B, Back st (uniP fu occ st a b).2 B ∧ WF2 (uniP fu occ st a b).2 fu ∧ ∀ c, CellOk st fu c → CellOk (uniP fu occ st a b).2 fu c := by
  have i0 : UniInv st fu [(a, b)] [] := ⟨F, fun p h => by simp at h; subst h; exact ⟨ha, hb⟩, by simp, fun p h => by simp at h⟩
  obtain ⟨⟨x, s1⟩, e⟩ := uni_total (occ := occ) 369999 st [(a, b)] [] hl (by simp) i0
  have := uni_back 370000 st _ _ _ _ i0 e
  unfold uniP
  rw [e]
  exact this

/-- two views of one store agree -/
theorem same_views (W : View σ so r st) (W' : View σ' so r st) (s : Same [r.h, r.s, r.t, r.d] σ σ') : Same [] σ σ' := by
  refine ⟨s.len, fun i o _ e => ?_⟩
  by_cases h : i ∈ [r.h, r.s, r.t, r.d]
  · simp only [List.mem_cons, List.not_mem_nil, or_false] at h
    rcases h with rfl | rfl | rfl | rfl
    · rw [W'.h, ← e, W.h]
    · rw [W'.s, ← e, W.s]
    · rw [W'.t, ← e, W.t]
    · rw [W'.ns, ← e, W.ns]
  · exact s.get i o h e

theorem trial_ok (W : Wd σ so r st q tx fu) (F : WF2 st fu) {a b : Cell} (ha : CellOk st fu a) (hb : CellOk st fu b) (tl : st.T.length < 400000) {Q : V → AH → Prop}
    (qq : ∀ σ', Wd σ' so r st q tx fu → Same [] σ σ' → Q (.bool (uniP fu occ st a b).1) σ') : callN P1 fns (m + 7) 35 [.obj so, cV a, cV b, .bool occ] σ Q := by
  refine call_of (fn := f_trial) rfl rfl ?_
  have hbig : ∀ i ∈ [r.h, r.s, r.t], i ∈ [r.h, r.s, r.t, r.d] := by
    intro i hi
    simp only [List.mem_cons, List.not_mem_nil, or_false] at hi ⊢
    rcases hi with h | h | h <;> simp [h]
  (try delta f_trial); (try with_reducible refine qq_step ?_); simp [f_trial, ↓qq_nil, ↓qs_assign, ↓qs_augLoc, ↓qs_augSub, ↓qs_expr, ↓qs_ite, ↓qs_while, ↓qs_range, ↓qs_for2, ↓qs_forL, ↓qs_forF, ↓qs_ret, ↓qs_retN, ↓qs_cont, ↓qs_pass, ↓qe_loc, ↓qe_kint, ↓qe_kstr, ↓qe_kbool, ↓qe_knone, ↓qe_glob, ↓qe_tup, ↓qe_list, ↓qe_dict0, ↓qe_attr, ↓qe_sub, ↓qe_slTo, ↓qe_cmp, ↓qe_boolop, ↓qe_not, ↓qe_neg, ↓qe_bin, ↓qe_ife, ↓qe_callF, ↓qe_callM, ↓qe_new, ↓qe_blt, ↓qe_meth, ↓qt_loc, ↓qt_tup, ↓qt_attr, ↓qt_sub, ↓ql_nil, ↓ql_cons, ↓qb_one, ↓qb_cons, cmpV, En.put, bindE, g0, g1, g2, g3, g4, g5, g6, g7, g8, eq_int, eq_cell, tup0, tup1, me7, me8, me9, me10, me11, me12, me13, me14, me15, me16, me17, me18, me19, me20, me21, me22, me23, ms0, ms2, ms3, ms5, -List.map_set, -List.map_append, -List.map_reverse, W.v.a9, W.v.a10, W.v.cl]; (repeat (with_reducible refine qq_step ?_; try simp [f_trial, ↓qq_nil, ↓qs_assign, ↓qs_augLoc, ↓qs_augSub, ↓qs_expr, ↓qs_ite, ↓qs_while, ↓qs_range, ↓qs_for2, ↓qs_forL, ↓qs_forF, ↓qs_ret, ↓qs_retN, ↓qs_cont, ↓qs_pass, ↓qe_loc, ↓qe_kint, ↓qe_kstr, ↓qe_kbool, ↓qe_knone, ↓qe_glob, ↓qe_tup, ↓qe_list, ↓qe_dict0, ↓qe_attr, ↓qe_sub, ↓qe_slTo, ↓qe_cmp, ↓qe_boolop, ↓qe_not, ↓qe_neg, ↓qe_bin, ↓qe_ife, ↓qe_callF, ↓qe_callM, ↓qe_new, ↓qe_blt, ↓qe_meth, ↓qt_loc, ↓qt_tup, ↓qt_attr, ↓qt_sub, ↓ql_nil, ↓ql_cons, ↓qb_one, ↓qb_cons, cmpV, En.put, bindE, g0, g1, g2, g3, g4, g5, g6, g7, g8, eq_int, eq_cell, tup0, tup1, me7, me8, me9, me10, me11, me12, me13, me14, me15, me16, me17, me18, me19, me20, me21, me22, me23, ms0, ms2, ms3, ms5, -List.map_set, -List.map_append, -List.map_reverse, W.v.a9, W.v.a10, W.v.cl])); (try (first | with_reducible refine hold_call ?_ | simp [f_trial, ↓qq_nil, ↓qq_cons, ↓qs_assign, ↓qs_augLoc, ↓qs_augSub, ↓qs_expr, ↓qs_ite, ↓qs_while, ↓qs_range, ↓qs_for2, ↓qs_forL, ↓qs_forF, ↓qs_ret, ↓qs_retN, ↓qs_cont, ↓qs_pass, ↓qe_loc, ↓qe_kint, ↓qe_kstr, ↓qe_kbool, ↓qe_knone, ↓qe_glob, ↓qe_tup, ↓qe_list, ↓qe_dict0, ↓qe_attr, ↓qe_sub, ↓qe_slTo, ↓qe_cmp, ↓qe_boolop, ↓qe_not, ↓qe_neg, ↓qe_bin, ↓qe_ife, ↓qe_callF, ↓qe_callM, ↓qe_new, ↓qe_blt, ↓qe_meth, ↓qt_loc, ↓qt_tup, ↓qt_attr, ↓qt_sub, ↓ql_nil, ↓ql_cons, ↓qb_one, ↓qb_cons, cmpV, En.put, bindE, g0, g1, g2, g3, g4, g5, g6, g7, g8, eq_int, eq_cell, tup0, tup1, me7, me8, me9, me10, me11, me12, me13, me14, me15, me16, me17, me18, me19, me20, me21, me22, me23, ms0, ms2, ms3, ms5, -List.map_set, -List.map_append, -List.map_reverse, W.v.a9, W.v.a10, W.v.cl]))
  refine mark_ok W.v ?_
  have W1 := W.put { st with hb := st.H.length } rfl rfl rfl
  have s1 : Same [r.h, r.s, r.t, r.d] σ (σ.set r.d (.ns (nsL r { st with hb := st.H.length }))) := .set (by simp)
  (try with_reducible refine qq_step ?_); simp [↓qq_nil, ↓qs_assign, ↓qs_augLoc, ↓qs_augSub, ↓qs_expr, ↓qs_ite, ↓qs_while, ↓qs_range, ↓qs_for2, ↓qs_forL, ↓qs_forF, ↓qs_ret, ↓qs_retN, ↓qs_cont, ↓qs_pass, ↓qe_loc, ↓qe_kint, ↓qe_kstr, ↓qe_kbool, ↓qe_knone, ↓qe_glob, ↓qe_tup, ↓qe_list, ↓qe_dict0, ↓qe_attr, ↓qe_sub, ↓qe_slTo, ↓qe_cmp, ↓qe_boolop, ↓qe_not, ↓qe_neg, ↓qe_bin, ↓qe_ife, ↓qe_callF, ↓qe_callM, ↓qe_new, ↓qe_blt, ↓qe_meth, ↓qt_loc, ↓qt_tup, ↓qt_attr, ↓qt_sub, ↓ql_nil, ↓ql_cons, ↓qb_one, ↓qb_cons, cmpV, En.put, bindE, g0, g1, g2, g3, g4, g5, g6, g7, g8, eq_int, eq_cell, tup0, tup1, me7, me8, me9, me10, me11, me12, me13, me14, me15, me16, me17, me18, me19, me20, me21, me22, me23, ms0, ms2, ms3, ms5, -List.map_set, -List.map_append, -List.map_reverse, W.v.a6, W.v.hlen, W.v.put9, W1.v.a7, W1.v.slen, W1.v.put10]; (repeat (with_reducible refine qq_step ?_; try simp [↓qq_nil, ↓qs_assign, ↓qs_augLoc, ↓qs_augSub, ↓qs_expr, ↓qs_ite, ↓qs_while, ↓qs_range, ↓qs_for2, ↓qs_forL, ↓qs_forF, ↓qs_ret, ↓qs_retN, ↓qs_cont, ↓qs_pass, ↓qe_loc, ↓qe_kint, ↓qe_kstr, ↓qe_kbool, ↓qe_knone, ↓qe_glob, ↓qe_tup, ↓qe_list, ↓qe_dict0, ↓qe_attr, ↓qe_sub, ↓qe_slTo, ↓qe_cmp, ↓qe_boolop, ↓qe_not, ↓qe_neg, ↓qe_bin, ↓qe_ife, ↓qe_callF, ↓qe_callM, ↓qe_new, ↓qe_blt, ↓qe_meth, ↓qt_loc, ↓qt_tup, ↓qt_attr, ↓qt_sub, ↓ql_nil, ↓ql_cons, ↓qb_one, ↓qb_cons, cmpV, En.put, bindE, g0, g1, g2, g3, g4, g5, g6, g7, g8, eq_int, eq_cell, tup0, tup1, me7, me8, me9, me10, me11, me12, me13, me14, me15, me16, me17, me18, me19, me20, me21, me22, me23, ms0, ms2, ms3, ms5, -List.map_set, -List.map_append, -List.map_reverse, W.v.a6, W.v.hlen, W.v.put9, W1.v.a7, W1.v.slen, W1.v.put10])); (try (first | with_reducible refine hold_call ?_ | simp [↓qq_nil, ↓qq_cons, ↓qs_assign, ↓qs_augLoc, ↓qs_augSub, ↓qs_expr, ↓qs_ite, ↓qs_while, ↓qs_range, ↓qs_for2, ↓qs_forL, ↓qs_forF, ↓qs_ret, ↓qs_retN, ↓qs_cont, ↓qs_pass, ↓qe_loc, ↓qe_kint, ↓qe_kstr, ↓qe_kbool, ↓qe_knone, ↓qe_glob, ↓qe_tup, ↓qe_list, ↓qe_dict0, ↓qe_attr, ↓qe_sub, ↓qe_slTo, ↓qe_cmp, ↓qe_boolop, ↓qe_not, ↓qe_neg, ↓qe_bin, ↓qe_ife, ↓qe_callF, ↓qe_callM, ↓qe_new, ↓qe_blt, ↓qe_meth, ↓qt_loc, ↓qt_tup, ↓qt_attr, ↓qt_sub, ↓ql_nil, ↓ql_cons, ↓qb_one, ↓qb_cons, cmpV, En.put, bindE, g0, g1, g2, g3, g4, g5, g6, g7, g8, eq_int, eq_cell, tup0, tup1, me7, me8, me9, me10, me11, me12, me13, me14, me15, me16, me17, me18, me19, me20, me21, me22, me23, ms0, ms2, ms3, ms5, -List.map_set, -List.map_append, -List.map_reverse, W.v.a6, W.v.hlen, W.v.put9, W1.v.a7, W1.v.slen, W1.v.put10]))
  have W2 := W1.put { st with hb := st.H.length, bb := st.S.length } rfl rfl rfl
  have s2 := s1.trans (Same.set (i := r.d) (o := .ns (nsL r { st with hb := st.H.length, bb := st.S.length })) (X := [r.h, r.s, r.t, r.d]) (by simp))
  rw [List.set_set] at W2 s2
  generalize hst2 : ({ st with hb := st.H.length, bb := st.S.length } : St) = st2 at W2 s2
  have hH : st2.H = st.H := by rw [← hst2]
  have hS : st2.S = st.S := by rw [← hst2]
  have hT : st2.T = st.T := by rw [← hst2]
  have F2 : WF2 st2 fu := F.re hH hS
  have ha2 : CellOk st2 fu a := ha.re hH hS
  have hb2 : CellOk st2 fu b := hb.re hH hS
  have hl := W.v.hl
  obtain ⟨B, bk, F3, _⟩ := uniP_back (occ := occ) F2 (by rw [hH]; exact hl) ha2 hb2
  obtain ⟨t1, _, _⟩ := uniP_re (occ := occ) F hl ha hb hH hS
  have hB : B.filter (trl st2.hb st2.bb) = B := by
    rw [List.filter_eq_self]
    intro e he
    have h := bk.self e he
    unfold selfAt at h
    rw [← hst2] at h ⊢
    unfold trl
    split at h
    · rename_i z
      have := (List.getElem?_eq_some_iff.mp h).1
      rw [if_pos z]; simp at this ⊢; omega
    · rename_i z
      have := (List.getElem?_eq_some_iff.mp h).1
      rw [if_neg z]; simp at this ⊢; omega
  have hT' : (uniP fu occ st2 a b).2.T = st.T ++ B := by rw [bk.T, hB, hT]
  refine unify_ok W2 F2 ha2 hb2 (by rw [hT]; exact tl) fun σ₁ W3 s3 => ?_
  (try with_reducible refine qq_step ?_); simp [↓qq_nil, ↓qs_assign, ↓qs_augLoc, ↓qs_augSub, ↓qs_expr, ↓qs_ite, ↓qs_while, ↓qs_range, ↓qs_for2, ↓qs_forL, ↓qs_forF, ↓qs_ret, ↓qs_retN, ↓qs_cont, ↓qs_pass, ↓qe_loc, ↓qe_kint, ↓qe_kstr, ↓qe_kbool, ↓qe_knone, ↓qe_glob, ↓qe_tup, ↓qe_list, ↓qe_dict0, ↓qe_attr, ↓qe_sub, ↓qe_slTo, ↓qe_cmp, ↓qe_boolop, ↓qe_not, ↓qe_neg, ↓qe_bin, ↓qe_ife, ↓qe_callF, ↓qe_callM, ↓qe_new, ↓qe_blt, ↓qe_meth, ↓qt_loc, ↓qt_tup, ↓qt_attr, ↓qt_sub, ↓ql_nil, ↓ql_cons, ↓qb_one, ↓qb_cons, cmpV, En.put, bindE, g0, g1, g2, g3, g4, g5, g6, g7, g8, eq_int, eq_cell, tup0, tup1, me7, me8, me9, me10, me11, me12, me13, me14, me15, me16, me17, me18, me19, me20, me21, me22, me23, ms0, ms2, ms3, ms5, -List.map_set, -List.map_append, -List.map_reverse, W3.v.cl]; (repeat (with_reducible refine qq_step ?_; try simp [↓qq_nil, ↓qs_assign, ↓qs_augLoc, ↓qs_augSub, ↓qs_expr, ↓qs_ite, ↓qs_while, ↓qs_range, ↓qs_for2, ↓qs_forL, ↓qs_forF, ↓qs_ret, ↓qs_retN, ↓qs_cont, ↓qs_pass, ↓qe_loc, ↓qe_kint, ↓qe_kstr, ↓qe_kbool, ↓qe_knone, ↓qe_glob, ↓qe_tup, ↓qe_list, ↓qe_dict0, ↓qe_attr, ↓qe_sub, ↓qe_slTo, ↓qe_cmp, ↓qe_boolop, ↓qe_not, ↓qe_neg, ↓qe_bin, ↓qe_ife, ↓qe_callF, ↓qe_callM, ↓qe_new, ↓qe_blt, ↓qe_meth, ↓qt_loc, ↓qt_tup, ↓qt_attr, ↓qt_sub, ↓ql_nil, ↓ql_cons, ↓qb_one, ↓qb_cons, cmpV, En.put, bindE, g0, g1, g2, g3, g4, g5, g6, g7, g8, eq_int, eq_cell, tup0, tup1, me7, me8, me9, me10, me11, me12, me13, me14, me15, me16, me17, me18, me19, me20, me21, me22, me23, ms0, ms2, ms3, ms5, -List.map_set, -List.map_append, -List.map_reverse, W3.v.cl])); (try (first | with_reducible refine hold_call ?_ | simp [↓qq_nil, ↓qq_cons, ↓qs_assign, ↓qs_augLoc, ↓qs_augSub, ↓qs_expr, ↓qs_ite, ↓qs_while, ↓qs_range, ↓qs_for2, ↓qs_forL, ↓qs_forF, ↓qs_ret, ↓qs_retN, ↓qs_cont, ↓qs_pass, ↓qe_loc, ↓qe_kint, ↓qe_kstr, ↓qe_kbool, ↓qe_knone, ↓qe_glob, ↓qe_tup, ↓qe_list, ↓qe_dict0, ↓qe_attr, ↓qe_sub, ↓qe_slTo, ↓qe_cmp, ↓qe_boolop, ↓qe_not, ↓qe_neg, ↓qe_bin, ↓qe_ife, ↓qe_callF, ↓qe_callM, ↓qe_new, ↓qe_blt, ↓qe_meth, ↓qt_loc, ↓qt_tup, ↓qt_attr, ↓qt_sub, ↓ql_nil, ↓ql_cons, ↓qb_one, ↓qb_cons, cmpV, En.put, bindE, g0, g1, g2, g3, g4, g5, g6, g7, g8, eq_int, eq_cell, tup0, tup1, me7, me8, me9, me10, me11, me12, me13, me14, me15, me16, me17, me18, me19, me20, me21, me22, me23, ms0, ms2, ms3, ms5, -List.map_set, -List.map_append, -List.map_reverse, W3.v.cl]))
  have hun := back_undo bk
  have hfin : View σ₁ so r (uniP fu occ st2 a b).2 := W3.v
  refine undo_ok W3.v hT' (fun e he => back_entries bk e he) fun σ₂ v4 s4 l4 => ?_
  rw [hun] at v4
  have W4 := W3.turn v4 s4
  have hst3 : ({ (uniP fu occ st2 a b).2 with H := st2.H, S := st2.S, T := st.T } : St) = st2 := by
    have h1 := bk.hb
    have h2 := bk.bb
    rw [← hT]
    cases h : (uniP fu occ st2 a b).2
    rw [h] at h1 h2
    dsimp only at h1 h2
    rw [h1, h2]
  dsimp only at W4
  rw [hst3] at W4
  have W5 := W4.put { st2 with hb := st.hb } rfl rfl rfl
  (try with_reducible refine qq_step ?_); simp [↓qq_nil, ↓qs_assign, ↓qs_augLoc, ↓qs_augSub, ↓qs_expr, ↓qs_ite, ↓qs_while, ↓qs_range, ↓qs_for2, ↓qs_forL, ↓qs_forF, ↓qs_ret, ↓qs_retN, ↓qs_cont, ↓qs_pass, ↓qe_loc, ↓qe_kint, ↓qe_kstr, ↓qe_kbool, ↓qe_knone, ↓qe_glob, ↓qe_tup, ↓qe_list, ↓qe_dict0, ↓qe_attr, ↓qe_sub, ↓qe_slTo, ↓qe_cmp, ↓qe_boolop, ↓qe_not, ↓qe_neg, ↓qe_bin, ↓qe_ife, ↓qe_callF, ↓qe_callM, ↓qe_new, ↓qe_blt, ↓qe_meth, ↓qt_loc, ↓qt_tup, ↓qt_attr, ↓qt_sub, ↓ql_nil, ↓ql_cons, ↓qb_one, ↓qb_cons, cmpV, En.put, bindE, g0, g1, g2, g3, g4, g5, g6, g7, g8, eq_int, eq_cell, tup0, tup1, me7, me8, me9, me10, me11, me12, me13, me14, me15, me16, me17, me18, me19, me20, me21, me22, me23, ms0, ms2, ms3, ms5, -List.map_set, -List.map_append, -List.map_reverse, W4.v.put9, W5.v.put10]; (repeat (with_reducible refine qq_step ?_; try simp [↓qq_nil, ↓qs_assign, ↓qs_augLoc, ↓qs_augSub, ↓qs_expr, ↓qs_ite, ↓qs_while, ↓qs_range, ↓qs_for2, ↓qs_forL, ↓qs_forF, ↓qs_ret, ↓qs_retN, ↓qs_cont, ↓qs_pass, ↓qe_loc, ↓qe_kint, ↓qe_kstr, ↓qe_kbool, ↓qe_knone, ↓qe_glob, ↓qe_tup, ↓qe_list, ↓qe_dict0, ↓qe_attr, ↓qe_sub, ↓qe_slTo, ↓qe_cmp, ↓qe_boolop, ↓qe_not, ↓qe_neg, ↓qe_bin, ↓qe_ife, ↓qe_callF, ↓qe_callM, ↓qe_new, ↓qe_blt, ↓qe_meth, ↓qt_loc, ↓qt_tup, ↓qt_attr, ↓qt_sub, ↓ql_nil, ↓ql_cons, ↓qb_one, ↓qb_cons, cmpV, En.put, bindE, g0, g1, g2, g3, g4, g5, g6, g7, g8, eq_int, eq_cell, tup0, tup1, me7, me8, me9, me10, me11, me12, me13, me14, me15, me16, me17, me18, me19, me20, me21, me22, me23, ms0, ms2, ms3, ms5, -List.map_set, -List.map_append, -List.map_reverse, W4.v.put9, W5.v.put10])); (try (first | with_reducible refine hold_call ?_ | simp [↓qq_nil, ↓qq_cons, ↓qs_assign, ↓qs_augLoc, ↓qs_augSub, ↓qs_expr, ↓qs_ite, ↓qs_while, ↓qs_range, ↓qs_for2, ↓qs_forL, ↓qs_forF, ↓qs_ret, ↓qs_retN, ↓qs_cont, ↓qs_pass, ↓qe_loc, ↓qe_kint, ↓qe_kstr, ↓qe_kbool, ↓qe_knone, ↓qe_glob, ↓qe_tup, ↓qe_list, ↓qe_dict0, ↓qe_attr, ↓qe_sub, ↓qe_slTo, ↓qe_cmp, ↓qe_boolop, ↓qe_not, ↓qe_neg, ↓qe_bin, ↓qe_ife, ↓qe_callF, ↓qe_callM, ↓qe_new, ↓qe_blt, ↓qe_meth, ↓qt_loc, ↓qt_tup, ↓qt_attr, ↓qt_sub, ↓ql_nil, ↓ql_cons, ↓qb_one, ↓qb_cons, cmpV, En.put, bindE, g0, g1, g2, g3, g4, g5, g6, g7, g8, eq_int, eq_cell, tup0, tup1, me7, me8, me9, me10, me11, me12, me13, me14, me15, me16, me17, me18, me19, me20, me21, me22, me23, ms0, ms2, ms3, ms5, -List.map_set, -List.map_append, -List.map_reverse, W4.v.put9, W5.v.put10]))
  have W6 := W5.put { st2 with hb := st.hb, bb := st.bb } rfl rfl rfl
  have hst6 : ({ st2 with hb := st.hb, bb := st.bb } : St) = st := by
    rw [← hst2]
  have hst6' : ({ H := st2.H, S := st2.S, T := st2.T, hb := st.hb, bb := st.bb } : St) = st := hst6
  rw [List.set_set] at W6
  rw [hst6'] at W6 ⊢
  rw [t1]
  refine qq _ W6 (same_views W.v W6.v ?_)
  exact ((s2.trans (s3.weak hbig)).trans (s4.weak hbig)).trans (.set (by simp))
end

end Mine
end

/-! C13 -/
noncomputable section
set_option maxHeartbeats 200000
open PySem
namespace Mine

noncomputable def atomsL : List PySem.Str := (["[]", ".", "{}", "-", "+", "*", "/", ",", "|", ";", "->", "\\+", ":-", "?-", "-->", "!", "true", "fail", "false", "call", "=", "^", "error", "", "end_of_file", "system", "$VAR", "catch", "throw"] : List String).map PySem.Str.ofString
noncomputable def functL : List (PySem.Str × Int) := ([(".", 2), (",", 2), (";", 2), ("->", 2), ("\\+", 1), (":-", 2), (":-", 1), ("?-", 1), ("-->", 2), ("{}", 1), ("=", 2), ("^", 2), ("-", 1), ("-", 2), ("+", 2), ("/", 2), ("error", 2), ("$VAR", 1), ("catch", 3), ("throw", 1), ("!", 0), ("true", 0), ("fail", 0), ("false", 0), ("call", 1), ("call", 2), ("call", 3), ("call", 4), ("call", 5), ("call", 6), ("call", 7), ("call", 8)] : List (String × Int)).map fun p => (PySem.Str.ofString p.1, p.2)
noncomputable def rowV (p : PySem.Str × Int) : V := .tup [.str p.1, .int p.2]

section
variable {m : Nat} {σ σ' : AH} {sy : Nat} {q : Rs} {tx : List PySem.Str} {fu : List (Int × Int)} {Q : V → AH → Prop}
theorem atoms_ok (h : Q (.tup (atomsL.map .str)) σ) : callN P1 fns (m + 1) 0 [] σ Q := call_of (fn := f_fixed_atoms) rfl rfl h
theorem functs_ok (h : Q (.tup (functL.map rowV)) σ) : callN P1 fns (m + 1) 1 [] σ Q := call_of (fn := f_fixed_functors) rfl rfl h

noncomputable def posOf {K : Type} [DecidableEq K] : List K → K → Option Nat
  | [], _ => none
  | x :: l, k => if x = k then some 0 else (posOf l k).map (· + 1)
noncomputable def numP {K : Type} [DecidableEq K] (l : List K) (k : K) : Nat × List K := match posOf l k with
  | some i => (i, l)
  | none => (l.length, l ++ [k])
theorem enum_at {K : Type} [DecidableEq K] (k : K) : ∀ (l : List K) (n : Nat), vAt (enumV l n) k = (posOf l k).map fun i => .int ((n + i : Nat) : Int)
  | [], n => rfl
  | x :: l, n => by
    have ih := enum_at k l (n + 1)
    unfold vAt at ih ⊢
    unfold enumV posOf
    by_cases h : x = k
    · simp [h]
    · rw [if_neg h, Option.map_map]
      simp only [List.find?_cons, h, decide_false]
      rw [ih]
      cases posOf l k with
      | none => rfl
      | some i => simp; omega
theorem enum_any {K : Type} [DecidableEq K] (k : K) : ∀ (l : List K) (n : Nat), (enumV l n).any (fun kv => decide (kv.1 = k)) = (posOf l k).isSome
  | [], n => rfl
  | x :: l, n => by
    unfold enumV posOf
    rw [List.any_cons, enum_any k l (n + 1)]
    by_cases h : x = k
    · simp [h]
    · simp [h]
theorem enum_snoc {K : Type} (k : K) : ∀ (l : List K) (n : Nat), enumV (l ++ [k]) n = enumV l n ++ [(k, .int ((n + l.length : Nat) : Int))]
  | [], n => rfl
  | x :: l, n => by
    show (x, .int n) :: enumV (l ++ [k]) (n + 1) = (x, .int n) :: (enumV l (n + 1) ++ _)
    rw [enum_snoc k l (n + 1)]
    simp
    omega
theorem enum_put {K : Type} [DecidableEq K] (k : K) (l : List K) (h : posOf l k = none) : vPut (enumV l 0) k (.int l.length) = enumV (l ++ [k]) 0 := by
  unfold vPut
  rw [enum_any, h, if_neg (by simp), enum_snoc]
  simp
theorem enum_len {K : Type} : ∀ (l : List K) (n : Nat), (enumV l n).length = l.length
  | [], _ => rfl
  | x :: l, n => by unfold enumV; rw [List.length_cons, List.length_cons, enum_len]
theorem posOf_map {K J : Type} [DecidableEq K] [DecidableEq J] (f : K → J) (hf : ∀ a b, f a = f b → a = b) (k : K) : ∀ l : List K, posOf (l.map f) (f k) = posOf l k
  | [] => rfl
  | x :: l => by
    rw [List.map_cons, posOf, posOf, posOf_map f hf k l]
    by_cases h : x = k
    · rw [if_pos h, if_pos (by rw [h])]
    · rw [if_neg h, if_neg (fun e => h (hf _ _ e))]
theorem key2_inj (a b : Int × Int) (h : key2 a = key2 b) : a = b := by
  unfold key2 at h
  simp at h
  exact Prod.ext h.1 h.2

noncomputable def syL (q : Rs) : List Nat := [q.tx, q.an, q.fu, q.fn]

theorem atom_ok (v : SyView σ sy q tx fu) (tl : tx.length < 900) {t : PySem.Str} (h : ∀ σ', SyView σ' sy q (numP tx t).2 fu → Same (syL q) σ σ' → σ'.length = σ.length → Q (.int (numP tx t).1) σ') : callN P1 fns (m + 1) 3 [.obj sy, .str t] σ Q := by
  refine call_of (fn := f_Symbols_atom) rfl rfl ?_
  have hok : methOk σ 2 (.obj q.an) = true := ok_of v.an rfl
  have hget : methV σ 2 (.obj q.an) [.str t, .int (-1)] = some (((posOf tx t).map fun i => V.int ((0 + i : Nat) : Int)).getD (.int (-1)), σ) := by
    rw [meth_of v.an]
    simp only [mObj, mDict, dictAt, enum_at, Option.map_some]
  unfold numP at h
  cases hp : posOf tx t with
  | some i =>
    rw [hp] at h hget
    simp only [Option.map_some, Option.getD_some, Nat.zero_add] at hget
    simp [f_Symbols_atom, ↓qq_nil, ↓qq_cons, ↓qs_assign, ↓qs_augLoc, ↓qs_augSub, ↓qs_expr, ↓qs_ite, ↓qs_while, ↓qs_range, ↓qs_for2, ↓qs_forL, ↓qs_forF, ↓qs_ret, ↓qs_retN, ↓qs_cont, ↓qs_pass, ↓qe_loc, ↓qe_kint, ↓qe_kstr, ↓qe_kbool, ↓qe_knone, ↓qe_glob, ↓qe_tup, ↓qe_list, ↓qe_dict0, ↓qe_attr, ↓qe_sub, ↓qe_slTo, ↓qe_cmp, ↓qe_boolop, ↓qe_not, ↓qe_neg, ↓qe_bin, ↓qe_ife, ↓qe_callF, ↓qe_callM, ↓qe_new, ↓qe_blt, ↓qe_meth, ↓qt_loc, ↓qt_tup, ↓qt_attr, ↓qt_sub, ↓ql_nil, ↓ql_cons, ↓qb_one, ↓qb_cons, cmpV, En.put, bindE, g0, g1, g2, g3, g4, g5, g6, g7, g8, eq_int, eq_cell, tup0, tup1, me7, me8, me9, me10, me11, me12, me13, me14, me15, me16, me17, me18, me19, me20, me21, me22, me23, ms0, ms2, ms3, ms5, -List.map_set, -List.map_append, -List.map_reverse, v.a1, hok, hget]
    exact h σ v (.refl _ _) rfl
  | none =>
    rw [hp] at h hget
    simp only [Option.map_none, Option.getD_none] at hget
    have d1 : q.tx ≠ sy := ne_of_get v.ltx v.inst (fun h => nomatch h)
    have d2 : q.tx ≠ q.d := ne_of_get v.ltx v.ns (fun h => nomatch h)
    have d3 : q.tx ≠ q.an := ne_of_get v.ltx v.an (fun h => nomatch h)
    have d4 : q.tx ≠ q.fn := ne_of_get v.ltx v.fn (fun h => nomatch h)
    have e1 : q.an ≠ sy := ne_of_get v.an v.inst (fun h => nomatch h)
    have e2 : q.an ≠ q.d := ne_of_get v.an v.ns (fun h => nomatch h)
    have e4 : q.an ≠ q.fn := ne_of_get v.an v.fn (fun h => nomatch h)
    have e5 : q.an ≠ q.fu := ne_of_get v.an v.lfu (fun h => nomatch h)
    have happ := list_app (u := .str t) v.ltx v.t0 (by rw [List.length_map]; omega)
    have hlen := list_len v.ltx (by rw [List.length_map]; omega)
    rw [List.length_map] at hlen
    have a1 : attrAt (σ.set q.tx (.list (tx.map .str ++ [.str t]))) (.obj sy) 1 = some (.obj q.an) := by
      simp only [attrAt, set_get, if_neg d1, if_neg d2, v.inst, v.ns]; rfl
    have hput : itemPut (σ.set q.tx (.list (tx.map .str ++ [.str t]))) (.obj q.an) (.str t) (.int tx.length) = some ((σ.set q.tx (.list (tx.map .str ++ [.str t]))).set q.an (.dictS (enumV (tx ++ [t]) 0))) := by
      simp only [itemPut, set_get, if_neg d3, v.an, dictPut]
      rw [if_pos (by rw [enum_len]; omega), enum_put t tx hp]; rfl
    simp [f_Symbols_atom, ↓qq_nil, ↓qq_cons, ↓qs_assign, ↓qs_augLoc, ↓qs_augSub, ↓qs_expr, ↓qs_ite, ↓qs_while, ↓qs_range, ↓qs_for2, ↓qs_forL, ↓qs_forF, ↓qs_ret, ↓qs_retN, ↓qs_cont, ↓qs_pass, ↓qe_loc, ↓qe_kint, ↓qe_kstr, ↓qe_kbool, ↓qe_knone, ↓qe_glob, ↓qe_tup, ↓qe_list, ↓qe_dict0, ↓qe_attr, ↓qe_sub, ↓qe_slTo, ↓qe_cmp, ↓qe_boolop, ↓qe_not, ↓qe_neg, ↓qe_bin, ↓qe_ife, ↓qe_callF, ↓qe_callM, ↓qe_new, ↓qe_blt, ↓qe_meth, ↓qt_loc, ↓qt_tup, ↓qt_attr, ↓qt_sub, ↓ql_nil, ↓ql_cons, ↓qb_one, ↓qb_cons, cmpV, En.put, bindE, g0, g1, g2, g3, g4, g5, g6, g7, g8, eq_int, eq_cell, tup0, tup1, me7, me8, me9, me10, me11, me12, me13, me14, me15, me16, me17, me18, me19, me20, me21, me22, me23, ms0, ms2, ms3, ms5, -List.map_set, -List.map_append, -List.map_reverse, v.a0, v.a1, hok, hget, hlen, (list_mok v.ltx).1, happ, a1, hput]
    refine h _ ⟨?_, ?_, ?_, ?_, ?_, ?_, v.dtf, v.t0, v.f0, by simp; omega, v.fl⟩ ((Same.set (by simp [syL])).trans (Same.set (by simp [syL]))) (by simp)
    · rw [set_get, if_neg e1, set_get, if_neg d1]; exact v.inst
    · rw [set_get, if_neg e2, set_get, if_neg d2]; exact v.ns
    · rw [set_get, if_neg (Ne.symm d3), set_get, if_pos rfl, if_pos (lt_of_get v.ltx)]; simp
    · rw [set_get, if_pos rfl, if_pos (by simp; exact lt_of_get v.an)]
    · rw [set_get, if_neg e5, set_get, if_neg v.dtf]; exact v.lfu
    · rw [set_get, if_neg e4, set_get, if_neg d4]; exact v.fn

theorem functor_ok (v : SyView σ sy q tx fu) (fl : fu.length < 900) {c : Int × Int} (h : ∀ σ', SyView σ' sy q tx (numP fu c).2 → Same (syL q) σ σ' → σ'.length = σ.length → Q (.int (numP fu c).1) σ') : callN P1 fns (m + 1) 5 [.obj sy, .int c.1, .int c.2] σ Q := by
  refine call_of (fn := f_Symbols_functor) rfl rfl ?_
  have hok : methOk σ 2 (.obj q.fn) = true := ok_of v.fn rfl
  have hkey : keyInts [.int c.1, .int c.2] = some (key2 c) := rfl
  have hpm := posOf_map key2 key2_inj c fu
  have hget : methV σ 2 (.obj q.fn) [cV c, .int (-1)] = some (((posOf fu c).map fun i => V.int ((0 + i : Nat) : Int)).getD (.int (-1)), σ) := by
    rw [meth_of v.fn]
    simp only [mObj, mDict, cV, dictAt, hkey, Option.map_some, enum_at, hpm]
  have hc : V.tup [.int c.1, .int c.2] = cV c := rfl
  unfold numP at h
  cases hp : posOf fu c with
  | some i =>
    rw [hp] at h hget
    simp only [Option.map_some, Option.getD_some, Nat.zero_add] at hget
    simp [f_Symbols_functor, ↓qq_nil, ↓qq_cons, ↓qs_assign, ↓qs_augLoc, ↓qs_augSub, ↓qs_expr, ↓qs_ite, ↓qs_while, ↓qs_range, ↓qs_for2, ↓qs_forL, ↓qs_forF, ↓qs_ret, ↓qs_retN, ↓qs_cont, ↓qs_pass, ↓qe_loc, ↓qe_kint, ↓qe_kstr, ↓qe_kbool, ↓qe_knone, ↓qe_glob, ↓qe_tup, ↓qe_list, ↓qe_dict0, ↓qe_attr, ↓qe_sub, ↓qe_slTo, ↓qe_cmp, ↓qe_boolop, ↓qe_not, ↓qe_neg, ↓qe_bin, ↓qe_ife, ↓qe_callF, ↓qe_callM, ↓qe_new, ↓qe_blt, ↓qe_meth, ↓qt_loc, ↓qt_tup, ↓qt_attr, ↓qt_sub, ↓ql_nil, ↓ql_cons, ↓qb_one, ↓qb_cons, cmpV, En.put, bindE, g0, g1, g2, g3, g4, g5, g6, g7, g8, eq_int, eq_cell, tup0, tup1, me7, me8, me9, me10, me11, me12, me13, me14, me15, me16, me17, me18, me19, me20, me21, me22, me23, ms0, ms2, ms3, ms5, -List.map_set, -List.map_append, -List.map_reverse, v.a3, hok, hc, hget]
    exact h σ v (.refl _ _) rfl
  | none =>
    rw [hp] at h hget
    simp only [Option.map_none, Option.getD_none] at hget
    have d1 : q.fu ≠ sy := ne_of_get v.lfu v.inst (fun h => nomatch h)
    have d2 : q.fu ≠ q.d := ne_of_get v.lfu v.ns (fun h => nomatch h)
    have d3 : q.fu ≠ q.fn := ne_of_get v.lfu v.fn (fun h => nomatch h)
    have d4 : q.fu ≠ q.an := ne_of_get v.lfu v.an (fun h => nomatch h)
    have e1 : q.fn ≠ sy := ne_of_get v.fn v.inst (fun h => nomatch h)
    have e2 : q.fn ≠ q.d := ne_of_get v.fn v.ns (fun h => nomatch h)
    have e4 : q.fn ≠ q.an := ne_of_get v.fn v.an (fun h => nomatch h)
    have e5 : q.fn ≠ q.tx := ne_of_get v.fn v.ltx (fun h => nomatch h)
    have happ := list_app (u := cV c) v.lfu v.f0 (by rw [List.length_map]; omega)
    have hlen := list_len v.lfu (by rw [List.length_map]; omega)
    rw [List.length_map] at hlen
    have a3 : attrAt (σ.set q.fu (.list (fu.map cV ++ [cV c]))) (.obj sy) 3 = some (.obj q.fn) := by
      simp only [attrAt, set_get, if_neg d1, if_neg d2, v.inst, v.ns]; rfl
    have hput : itemPut (σ.set q.fu (.list (fu.map cV ++ [cV c]))) (.obj q.fn) (cV c) (.int fu.length) = some ((σ.set q.fu (.list (fu.map cV ++ [cV c]))).set q.fn (.dictT (enumV ((fu ++ [c]).map key2) 0))) := by
      simp only [itemPut, set_get, if_neg d3, v.fn, cV, dictPut, hkey]
      rw [if_pos (by rw [enum_len, List.length_map]; omega)]
      have := enum_put (key2 c) (fu.map key2) (by rw [hpm]; exact hp)
      rw [List.length_map] at this
      simp only [Option.map_some, this]
      rw [List.map_append]; rfl
    simp [f_Symbols_functor, ↓qq_nil, ↓qq_cons, ↓qs_assign, ↓qs_augLoc, ↓qs_augSub, ↓qs_expr, ↓qs_ite, ↓qs_while, ↓qs_range, ↓qs_for2, ↓qs_forL, ↓qs_forF, ↓qs_ret, ↓qs_retN, ↓qs_cont, ↓qs_pass, ↓qe_loc, ↓qe_kint, ↓qe_kstr, ↓qe_kbool, ↓qe_knone, ↓qe_glob, ↓qe_tup, ↓qe_list, ↓qe_dict0, ↓qe_attr, ↓qe_sub, ↓qe_slTo, ↓qe_cmp, ↓qe_boolop, ↓qe_not, ↓qe_neg, ↓qe_bin, ↓qe_ife, ↓qe_callF, ↓qe_callM, ↓qe_new, ↓qe_blt, ↓qe_meth, ↓qt_loc, ↓qt_tup, ↓qt_attr, ↓qt_sub, ↓ql_nil, ↓ql_cons, ↓qb_one, ↓qb_cons, cmpV, En.put, bindE, g0, g1, g2, g3, g4, g5, g6, g7, g8, eq_int, eq_cell, tup0, tup1, me7, me8, me9, me10, me11, me12, me13, me14, me15, me16, me17, me18, me19, me20, me21, me22, me23, ms0, ms2, ms3, ms5, -List.map_set, -List.map_append, -List.map_reverse, v.a2, v.a3, hok, hc, hget, hlen, (list_mok v.lfu).1, happ, a3, hput]
    refine h _ ⟨?_, ?_, ?_, ?_, ?_, ?_, v.dtf, v.t0, v.f0, v.tl, by simp; omega⟩ ((Same.set (by simp [syL])).trans (Same.set (by simp [syL]))) (by simp)
    · rw [set_get, if_neg e1, set_get, if_neg d1]; exact v.inst
    · rw [set_get, if_neg e2, set_get, if_neg d2]; exact v.ns
    · rw [set_get, if_neg e5, set_get, if_neg (Ne.symm v.dtf)]; exact v.ltx
    · rw [set_get, if_neg e4, set_get, if_neg d4]; exact v.an
    · rw [set_get, if_neg (Ne.symm d3), set_get, if_pos rfl, if_pos (lt_of_get v.lfu)]; simp
    · rw [set_get, if_pos rfl, if_pos (by simp; exact lt_of_get v.fn)]

noncomputable def funcP (tx : List PySem.Str) (fu : List (Int × Int)) (t : PySem.Str) (n : Int) : Nat × List PySem.Str × List (Int × Int) :=
  let a := numP tx t
  let f := numP fu ((a.1 : Int), n)
  (f.1, a.2, f.2)
theorem func_ok (v : SyView σ sy q tx fu) (tl : tx.length < 900) (fl : fu.length < 900) {t : PySem.Str} {n : Int} (h : ∀ σ', SyView σ' sy q (funcP tx fu t n).2.1 (funcP tx fu t n).2.2 → Same (syL q) σ σ' → σ'.length = σ.length → Q (.int (funcP tx fu t n).1) σ') : callN P1 fns (m + 2) 6 [.obj sy, .str t, .int n] σ Q := by
  refine call_of (fn := f_Symbols_func) rfl rfl ?_
  simp [f_Symbols_func, ↓qq_nil, ↓qq_cons, ↓qs_assign, ↓qs_augLoc, ↓qs_augSub, ↓qs_expr, ↓qs_ite, ↓qs_while, ↓qs_range, ↓qs_for2, ↓qs_forL, ↓qs_forF, ↓qs_ret, ↓qs_retN, ↓qs_cont, ↓qs_pass, ↓qe_loc, ↓qe_kint, ↓qe_kstr, ↓qe_kbool, ↓qe_knone, ↓qe_glob, ↓qe_tup, ↓qe_list, ↓qe_dict0, ↓qe_attr, ↓qe_sub, ↓qe_slTo, ↓qe_cmp, ↓qe_boolop, ↓qe_not, ↓qe_neg, ↓qe_bin, ↓qe_ife, ↓qe_callF, ↓qe_callM, ↓qe_new, ↓qe_blt, ↓qe_meth, ↓qt_loc, ↓qt_tup, ↓qt_attr, ↓qt_sub, ↓ql_nil, ↓ql_cons, ↓qb_one, ↓qb_cons, cmpV, En.put, bindE, g0, g1, g2, g3, g4, g5, g6, g7, g8, eq_int, eq_cell, tup0, tup1, me7, me8, me9, me10, me11, me12, me13, me14, me15, me16, me17, me18, me19, me20, me21, me22, me23, ms0, ms2, ms3, ms5, -List.map_set, -List.map_append, -List.map_reverse, v.cl]
  refine atom_ok v tl fun σ₁ v1 s1 l1 => ?_
  exact functor_ok (c := (((numP tx t).1 : Int), n)) v1 fl fun σ₂ v2 s2 l2 => h σ₂ v2 (s1.trans s2) (l2.trans l1)
end

end Mine
end

/-! C14 -/
noncomputable section
set_option maxHeartbeats 200000
open PySem
namespace Mine

section
variable {m : Nat} {σ σ' : AH} {sy so : Nat} {r : Rc} {st : St} {q : Rs} {tx : List PySem.Str} {fu : List (Int × Int)} {Q : V → AH → Prop}

theorem snoc_get {σ : AH} {o : AObj} : (σ ++ [o])[σ.length]? = some o := by simp
theorem app_get {σ : AH} {l : AH} {i : Nat} {o : AObj} (e : σ[i]? = some o) : (σ ++ l)[i]? = some o := by
  rw [List.getElem?_append_left (lt_of_get e)]; exact e

noncomputable def initF (tx : List PySem.Str) (fu : List (Int × Int)) : List (PySem.Str × Int) → List PySem.Str × List (Int × Int)
  | [] => (tx, fu)
  | (t, n) :: l => initF (funcP tx fu t n).2.1 (funcP tx fu t n).2.2 l
noncomputable def initA (tx : List PySem.Str) : List PySem.Str → List PySem.Str
  | [] => tx
  | t :: l => initA (numP tx t).2 l
theorem numP_len {K : Type} [DecidableEq K] (l : List K) (k : K) : (numP l k).2.length ≤ l.length + 1 := by
  unfold numP; split <;> simp

theorem atoms_loop {cf : Cf} (hcf : cf = callN P1 fns (m + 1)) {all : List V} {src : Src} : ∀ (l : List PySem.Str) (tx : List PySem.Str) (σ : AH) (ρ : En) (Q : Fl → En → AH → Prop), SyView σ sy q tx fu → tx.length + l.length < 800 → (∀ τ, stays τ all src) → ρ 0 = some (.obj sy) →
    (∀ σ' ρ', SyView σ' sy q (initA tx l) fu → Same (syL q) σ σ' → σ'.length = σ.length → ρ' 0 = some (.obj sy) → Q .next ρ' σ') → forGo all src (wT P1 cf (.loc 1)) (wSL P1 cf (.cons (.expr (.callM 0 (.loc 0) (.cons (.loc 1) .nil))) .nil)) (l.map .str) ρ σ Q
  | [], tx, σ, ρ, Q, v, hl, hs, h0, h => ⟨hs σ, h σ ρ v (.refl _ _) rfl h0⟩
  | t :: l, tx, σ, ρ, Q, v, hl, hs, h0, h => by
    refine ⟨hs σ, ?_⟩
    subst hcf
    show wSL P1 _ _ (ρ.put 1 (.str t)) σ _
    simp only [List.length_cons] at hl
    simp [↓qq_nil, ↓qq_cons, ↓qs_assign, ↓qs_augLoc, ↓qs_augSub, ↓qs_expr, ↓qs_ite, ↓qs_while, ↓qs_range, ↓qs_for2, ↓qs_forL, ↓qs_forF, ↓qs_ret, ↓qs_retN, ↓qs_cont, ↓qs_pass, ↓qe_loc, ↓qe_kint, ↓qe_kstr, ↓qe_kbool, ↓qe_knone, ↓qe_glob, ↓qe_tup, ↓qe_list, ↓qe_dict0, ↓qe_attr, ↓qe_sub, ↓qe_slTo, ↓qe_cmp, ↓qe_boolop, ↓qe_not, ↓qe_neg, ↓qe_bin, ↓qe_ife, ↓qe_callF, ↓qe_callM, ↓qe_new, ↓qe_blt, ↓qe_meth, ↓qt_loc, ↓qt_tup, ↓qt_attr, ↓qt_sub, ↓ql_nil, ↓ql_cons, ↓qb_one, ↓qb_cons, cmpV, En.put, bindE, g0, g1, g2, g3, g4, g5, g6, g7, g8, eq_int, eq_cell, tup0, tup1, me7, me8, me9, me10, me11, me12, me13, me14, me15, me16, me17, me18, me19, me20, me21, me22, me23, ms0, ms2, ms3, ms5, -List.map_set, -List.map_append, -List.map_reverse, h0, v.cl]
    refine atom_ok v (by omega) fun σ₁ v1 s1 l1 => ?_
    refine atoms_loop rfl l _ σ₁ _ Q v1 (by have := numP_len tx t; omega) hs (by simp [En.put, h0]) fun σ₂ ρ₂ v2 s2 l2 h2 => h σ₂ ρ₂ v2 (s1.trans s2) (l2.trans l1) h2

theorem functs_loop {cf : Cf} (hcf : cf = callN P1 fns (m + 2)) {all : List V} {src : Src} : ∀ (l : List (PySem.Str × Int)) (tx : List PySem.Str) (fu : List (Int × Int)) (σ : AH) (ρ : En) (Q : Fl → En → AH → Prop), SyView σ sy q tx fu → tx.length + l.length < 800 → fu.length + l.length < 800 → (∀ τ, stays τ all src) → ρ 0 = some (.obj sy) →
    (∀ σ' ρ', SyView σ' sy q (initF tx fu l).1 (initF tx fu l).2 → Same (syL q) σ σ' → σ'.length = σ.length → Q .next ρ' σ') → forGo all src (wT P1 cf (.loc 2)) (wSL P1 cf (.cons (.expr (.callM 3 (.loc 0) (.cons (.sub (.loc 2) (.kint 0)) (.cons (.sub (.loc 2) (.kint 1)) .nil)))) .nil)) (l.map rowV) ρ σ Q
  | [], tx, fu, σ, ρ, Q, v, hl, hf, hs, h0, h => ⟨hs σ, h σ ρ v (.refl _ _) rfl⟩
  | (t, n) :: l, tx, fu, σ, ρ, Q, v, hl, hf, hs, h0, h => by
    refine ⟨hs σ, ?_⟩
    subst hcf
    show wSL P1 _ _ (ρ.put 2 (rowV (t, n))) σ _
    simp only [List.length_cons] at hl hf
    have i0 : itemAt σ (rowV (t, n)) (.int 0) = some (.str t) := rfl
    have i1 : itemAt σ (rowV (t, n)) (.int 1) = some (.int n) := rfl
    simp [↓qq_nil, ↓qq_cons, ↓qs_assign, ↓qs_augLoc, ↓qs_augSub, ↓qs_expr, ↓qs_ite, ↓qs_while, ↓qs_range, ↓qs_for2, ↓qs_forL, ↓qs_forF, ↓qs_ret, ↓qs_retN, ↓qs_cont, ↓qs_pass, ↓qe_loc, ↓qe_kint, ↓qe_kstr, ↓qe_kbool, ↓qe_knone, ↓qe_glob, ↓qe_tup, ↓qe_list, ↓qe_dict0, ↓qe_attr, ↓qe_sub, ↓qe_slTo, ↓qe_cmp, ↓qe_boolop, ↓qe_not, ↓qe_neg, ↓qe_bin, ↓qe_ife, ↓qe_callF, ↓qe_callM, ↓qe_new, ↓qe_blt, ↓qe_meth, ↓qt_loc, ↓qt_tup, ↓qt_attr, ↓qt_sub, ↓ql_nil, ↓ql_cons, ↓qb_one, ↓qb_cons, cmpV, En.put, bindE, g0, g1, g2, g3, g4, g5, g6, g7, g8, eq_int, eq_cell, tup0, tup1, me7, me8, me9, me10, me11, me12, me13, me14, me15, me16, me17, me18, me19, me20, me21, me22, me23, ms0, ms2, ms3, ms5, -List.map_set, -List.map_append, -List.map_reverse, h0, v.cl, i0, i1]
    refine func_ok v (by omega) (by omega) fun σ₁ v1 s1 l1 => ?_
    have k1 := numP_len tx t
    have k2 := numP_len fu (((numP tx t).1 : Int), n)
    refine functs_loop rfl l _ _ σ₁ _ Q v1 (by unfold funcP; dsimp only; omega) (by unfold funcP; dsimp only; omega) hs (by simp [En.put, h0]) fun σ₂ ρ₂ v2 s2 l2 => h σ₂ ρ₂ v2 (s1.trans s2) (l2.trans l1)

noncomputable def tx0 : List PySem.Str := (initF (initA [] atomsL) [] functL).1
noncomputable def fu0 : List (Int × Int) := (initF (initA [] atomsL) [] functL).2

theorem init_val {so c d a : Nat} {fs : List (Nat × V)} (u : V) (i0 : σ[so]? = some (.inst c d)) (i1 : σ[d]? = some (.ns fs)) : ∃ σ', attrPut σ (.obj so) a u = some σ' ∧ σ'[so]? = some (.inst c d) ∧ σ'[d]? = some (.ns (nsPut a u fs)) ∧ Same [d] σ σ' := by
  have hne : d ≠ so := ne_of_get i1 i0 (fun h => nomatch h)
  refine ⟨_, attr_put i0 i1, ?_, ?_, .set (.head _)⟩
  · rw [set_get, if_neg hne]; exact i0
  · rw [set_get, if_pos rfl, if_pos (lt_of_get i1)]
theorem init_obj {so c d a : Nat} {fs : List (Nat × V)} (o : AObj) (i0 : σ[so]? = some (.inst c d)) (i1 : σ[d]? = some (.ns fs)) : ∃ σ', attrPut (σ ++ [o]) (.obj so) a (.obj σ.length) = some σ' ∧ σ'[so]? = some (.inst c d) ∧ σ'[d]? = some (.ns (nsPut a (.obj σ.length) fs)) ∧ Same [d] σ σ' ∧ σ'[σ.length]? = some o := by
  obtain ⟨σ', p, a0, a1, s⟩ := init_val (a := a) (.obj σ.length) (app_get (l := [o]) i0) (app_get (l := [o]) i1)
  refine ⟨σ', p, a0, a1, (Same.app _).trans s, s.get _ _ (fun m => ?_) snoc_get⟩
  exact Nat.ne_of_gt (lt_of_get i1) (List.mem_singleton.mp m)
theorem ne_lt {a b : Nat} (h : b < a) : a ∉ [b] := fun m => Nat.ne_of_gt h (List.mem_singleton.mp m)
theorem ne_far {σ' : AH} {i : Nat} {o : AObj} (e : σ[i]? = some o) (h : σ.length ≤ σ'.length) : i ≠ σ'.length := Nat.ne_of_lt (Nat.lt_of_lt_of_le (lt_of_get e) h)

theorem symbols_init {d : Nat} (i0 : σ[sy]? = some (.inst 0 d)) (i1 : σ[d]? = some (.ns [])) (hpos : 0 < σ.length) (h : ∀ σ' q, SyView σ' sy q tx0 fu0 → q.d = d → (∀ i ∈ syL q, σ.length ≤ i ∧ i < σ'.length) → Same [d] σ σ' → Q .none σ') : callN P1 fns (m + 3) 2 [.obj sy] σ Q := by
  refine call_of (fn := f_Symbols___init__) rfl rfl ?_
  obtain ⟨σ1, p1, a0, a1, s1, a2⟩ := init_obj (a := 0) (.list []) i0 i1
  obtain ⟨σ2, p2, b0, b1, s2, b3⟩ := init_obj (a := 1) (.dictS []) a0 a1
  obtain ⟨σ3, p3, c0, c1, s3, c4⟩ := init_obj (a := 2) (.list []) b0 b1
  obtain ⟨σ4, p4, d0, d1, s4, d5⟩ := init_obj (a := 3) (.dictT []) c0 c1
  have ld := lt_of_get i1
  have e1 := s1.len
  have e2 := s2.len
  have e3 := s3.len
  have e4 := s4.len
  have d2 := ((s2.trans s3).trans s4).get _ _ (ne_lt ld) a2
  have d3 := (s3.trans s4).get _ _ (ne_lt (Nat.lt_of_lt_of_le ld e1)) b3
  have d4 := s4.get _ _ (ne_lt (Nat.lt_of_lt_of_le ld (Nat.le_trans e1 e2))) c4
  have f0 : σ.length ≤ σ2.length := Nat.le_trans e1 e2
  have v0 : SyView σ4 sy ⟨d, σ.length, σ1.length, σ2.length, σ3.length⟩ [] [] := ⟨d0, d1, d2, d3, d4, d5, ne_far a2 e2, Nat.ne_of_gt hpos, Nat.ne_of_gt (Nat.lt_of_lt_of_le hpos f0), (by decide : (0 : Nat) < 1000), (by decide : (0 : Nat) < 1000)⟩
  simp [f_Symbols___init__, ↓qq_nil, ↓qq_cons, ↓qs_assign, ↓qs_augLoc, ↓qs_augSub, ↓qs_expr, ↓qs_ite, ↓qs_while, ↓qs_range, ↓qs_for2, ↓qs_forL, ↓qs_forF, ↓qs_ret, ↓qs_retN, ↓qs_cont, ↓qs_pass, ↓qe_loc, ↓qe_kint, ↓qe_kstr, ↓qe_kbool, ↓qe_knone, ↓qe_glob, ↓qe_tup, ↓qe_list, ↓qe_dict0, ↓qe_attr, ↓qe_sub, ↓qe_slTo, ↓qe_cmp, ↓qe_boolop, ↓qe_not, ↓qe_neg, ↓qe_bin, ↓qe_ife, ↓qe_callF, ↓qe_callM, ↓qe_new, ↓qe_blt, ↓qe_meth, ↓qt_loc, ↓qt_tup, ↓qt_attr, ↓qt_sub, ↓ql_nil, ↓ql_cons, ↓qb_one, ↓qb_cons, cmpV, En.put, bindE, g0, g1, g2, g3, g4, g5, g6, g7, g8, eq_int, eq_cell, tup0, tup1, me7, me8, me9, me10, me11, me12, me13, me14, me15, me16, me17, me18, me19, me20, me21, me22, me23, ms0, ms2, ms3, ms5, -List.map_set, -List.map_append, -List.map_reverse, p1, p2, p3, p4]
  refine atoms_ok ?_
  have hi : ∀ τ : AH, iterV τ (.tup (atomsL.map .str)) = some (atomsL.map .str, .tup (atomsL.map .str)) := fun _ => rfl
  simp only [hi]
  refine atoms_loop (m := m + 1) rfl atomsL [] σ4 _ _ v0 (by decide) (fun _ => trivial) (by simp [En.put, bindE]) fun σ5 ρ5 v5 s5 l5 h5 => ?_
  refine functs_ok ?_
  have hi2 : ∀ τ : AH, iterV τ (.tup (functL.map rowV)) = some (functL.map rowV, .tup (functL.map rowV)) := fun _ => rfl
  simp only [hi2]
  refine functs_loop (m := m) rfl functL _ [] σ5 ρ5 _ v5 (by decide +kernel) (by decide) (fun _ => trivial) h5 fun σ6 ρ6 v6 s6 l6 => ?_
  have g1 : σ.length ≤ σ1.length := e1
  have g3 : σ.length ≤ σ3.length := Nat.le_trans f0 e3
  refine h σ6 _ v6 rfl (fun i hi => ?_) ?_
  · simp only [syL, List.mem_cons, List.not_mem_nil, or_false] at hi
    rcases hi with h | h | h | h <;> subst h
    · exact ⟨Nat.le_refl _, lt_of_get v6.ltx⟩
    · exact ⟨g1, lt_of_get v6.an⟩
    · exact ⟨f0, lt_of_get v6.lfu⟩
    · exact ⟨g3, lt_of_get v6.fn⟩
  · have sa : Same [d] σ σ4 := ((s1.trans s2).trans s3).trans s4
    have k : Same (d :: syL ⟨d, σ.length, σ1.length, σ2.length, σ3.length⟩) σ σ6 := ((sa.weak fun i hi => List.mem_cons.mpr (.inl (List.mem_singleton.mp hi))).trans (s5.weak fun i hi => .tail _ hi)).trans (s6.weak fun i hi => .tail _ hi)
    refine k.strong fun i hi => ?_
    rcases List.mem_cons.mp hi with h | h
    · exact .inl (List.mem_singleton.mpr h)
    · simp only [syL, List.mem_cons, List.not_mem_nil, or_false] at h
      rcases h with h | h | h | h <;> subst h
      · exact .inr (Nat.le_refl _)
      · exact .inr g1
      · exact .inr f0
      · exact .inr g3
end

end Mine
end

/-! C15 -/
noncomputable section
set_option maxHeartbeats 200000
open PySem
namespace Mine

section
variable {m : Nat} {σ σ' : AH} {sy so : Nat} {r : Rc} {st : St} {q : Rs} {tx : List PySem.Str} {fu : List (Int × Int)} {Q : V → AH → Prop}

noncomputable def st0 : St := ⟨[], [], [], 0, 0⟩
theorem cells_init {d : Nat} (i0 : σ[so]? = some (.inst 2 d)) (i1 : σ[d]? = some (.ns [])) (hpos : 0 < σ.length) (h : ∀ σ' r, View σ' so r st0 → r.d = d → r.sy = sy → (∀ i ∈ [r.h, r.s, r.t], σ.length ≤ i ∧ i < σ'.length) → Same [d] σ σ' → Q .none σ') : callN P1 fns (m + 1) 10 [.obj so, .obj sy] σ Q := by
  refine call_of (fn := f_Cells___init__) rfl rfl ?_
  obtain ⟨σ1, p1, a0, a1, s1⟩ := init_val (a := 4) (.obj sy) i0 i1
  obtain ⟨σ2, p2, b0, b1, s2⟩ := init_val (a := 5) (.int 100000) a0 a1
  obtain ⟨σ3, p3, c0, c1, s3, c2⟩ := init_obj (a := 6) (.list []) b0 b1
  obtain ⟨σ4, p4, d0, d1, s4, d3⟩ := init_obj (a := 7) (.list []) c0 c1
  obtain ⟨σ5, p5, e0, e1, s5, e4⟩ := init_obj (a := 8) (.list []) d0 d1
  obtain ⟨σ6, p6, f0, f1, s6⟩ := init_val (a := 9) (.int 0) e0 e1
  obtain ⟨σ7, p7, g0', g1', s7⟩ := init_val (a := 10) (.int 0) f0 f1
  have ld := lt_of_get i1
  have l2 : σ.length ≤ σ2.length := (s1.trans s2).len
  have l3 : σ.length ≤ σ3.length := Nat.le_trans l2 s3.len
  have l4 : σ.length ≤ σ4.length := Nat.le_trans l3 s4.len
  have s67 := s6.trans s7
  have t4 := s67.get _ _ (ne_lt (Nat.lt_of_lt_of_le ld l4)) e4
  have t3 := (s5.trans s67).get _ _ (ne_lt (Nat.lt_of_lt_of_le ld l3)) d3
  have t2 := ((s4.trans s5).trans s67).get _ _ (ne_lt (Nat.lt_of_lt_of_le ld l2)) c2
  have v : View σ7 so ⟨d, σ2.length, σ3.length, σ4.length, sy⟩ st0 :=
    ⟨g0', g1', t2, t3, t4, ne_far c2 (Nat.le_refl _), ne_far c2 s4.len, ne_far d3 (Nat.le_refl _), Nat.ne_of_gt (Nat.lt_of_lt_of_le hpos l2), Nat.ne_of_gt (Nat.lt_of_lt_of_le hpos l3), Nat.ne_of_gt (Nat.lt_of_lt_of_le hpos l4), by decide, by decide, by decide⟩
  simp [f_Cells___init__, ↓qq_nil, ↓qq_cons, ↓qs_assign, ↓qs_augLoc, ↓qs_augSub, ↓qs_expr, ↓qs_ite, ↓qs_while, ↓qs_range, ↓qs_for2, ↓qs_forL, ↓qs_forF, ↓qs_ret, ↓qs_retN, ↓qs_cont, ↓qs_pass, ↓qe_loc, ↓qe_kint, ↓qe_kstr, ↓qe_kbool, ↓qe_knone, ↓qe_glob, ↓qe_tup, ↓qe_list, ↓qe_dict0, ↓qe_attr, ↓qe_sub, ↓qe_slTo, ↓qe_cmp, ↓qe_boolop, ↓qe_not, ↓qe_neg, ↓qe_bin, ↓qe_ife, ↓qe_callF, ↓qe_callM, ↓qe_new, ↓qe_blt, ↓qe_meth, ↓qt_loc, ↓qt_tup, ↓qt_attr, ↓qt_sub, ↓ql_nil, ↓ql_cons, ↓qb_one, ↓qb_cons, cmpV, En.put, bindE, g0, g1, g2, g3, g4, g5, g6, g7, g8, eq_int, eq_cell, tup0, tup1, me7, me8, me9, me10, me11, me12, me13, me14, me15, me16, me17, me18, me19, me20, me21, me22, me23, ms0, ms2, ms3, ms5, -List.map_set, -List.map_append, -List.map_reverse, p1, p2, p3, p4, p5, p6, p7]
  refine h σ7 _ v rfl rfl (fun i hi => ?_) ((((((s1.trans s2).trans s3).trans s4).trans s5).trans s6).trans s7)
  simp only [List.mem_cons, List.not_mem_nil, or_false] at hi
  rcases hi with h | h | h <;> subst h
  · exact ⟨l2, lt_of_get v.h⟩
  · exact ⟨l3, lt_of_get v.s⟩
  · exact ⟨l4, lt_of_get v.t⟩

/-- the jar that the law draws from -/
structure JarV (σ : AH) (jo lo : Nat) (xs : List Int) (p : Nat) : Prop where
  j : σ[jo]? = some (.list [.obj lo, .int p])
  l : σ[lo]? = some (.list (xs.map .int))
  j0 : jo ≠ 0
  xl : xs.length < 1000
noncomputable def dipP (xs : List Int) (p : Nat) (lim : Int) : Int := match xs[p]? with
  | none => 0
  | some g => (if 0 ≤ g then g else -g) % lim
theorem dip_range {xs : List Int} {p : Nat} {lim : Int} (h : 0 < lim) : 0 ≤ dipP xs p lim ∧ dipP xs p lim < lim := by
  unfold dipP
  split
  · omega
  · exact ⟨Int.emod_nonneg _ (by omega), Int.emod_lt_of_pos _ h⟩
theorem JarV.same {jo lo : Nat} {xs : List Int} {p : Nat} (v : JarV σ jo lo xs p) {X : List Nat} (s : Same X σ σ') (h1 : jo ∉ X) (h2 : lo ∉ X) : JarV σ' jo lo xs p := ⟨s.get _ _ h1 v.j, s.get _ _ h2 v.l, v.j0, v.xl⟩

theorem dip_ok {jo lo : Nat} {xs : List Int} {p : Nat} {lim : Int} (v : JarV σ jo lo xs p) (h0 : 0 < lim) (h1 : lim < 1000) (h : ∀ σ', JarV σ' jo lo xs (p + 1) → Same [jo] σ σ' → σ'.length = σ.length → Q (.int (dipP xs p lim)) σ') : callN P1 fns (m + 1) 37 [.obj jo, .int lim] σ Q := by
  refine call_of (fn := f__law_dip) rfl rfl ?_
  have hne : jo ≠ lo := fun z => by
    have h1 := v.j
    rw [z, v.l] at h1
    cases hx : xs with
    | nil => rw [hx] at h1; simp at h1
    | cons x l => rw [hx] at h1; simp at h1
  have g1 : itemAt σ (.obj jo) (.int 1) = some (.int p) := list_item v.j (by omega) (by simp) rfl
  have put := list_put (k := 1) (u := .int ((p : Int) + 1)) v.j v.j0 (by omega) (by simp) (by simp)
  have hset : ([V.obj lo, V.int (p : Int)].set (1 : Int).toNat (.int ((p : Int) + 1))) = [V.obj lo, .int ((p : Int) + 1)] := rfl
  rw [hset] at put
  have v1 : JarV (σ.set jo (.list [.obj lo, .int ((p : Int) + 1)])) jo lo xs (p + 1) := ⟨by rw [set_get, if_pos rfl, if_pos (lt_of_get v.j)]; rfl, by rw [set_get, if_neg hne]; exact v.l, v.j0, v.xl⟩
  have k0 : itemAt (σ.set jo (.list [.obj lo, .int ((p : Int) + 1)])) (.obj jo) (.int 0) = some (.obj lo) := list_item v1.j (by omega) (by simp) rfl
  have k1 : itemAt (σ.set jo (.list [.obj lo, .int ((p : Int) + 1)])) (.obj jo) (.int 1) = some (.int ((p : Int) + 1)) := list_item v1.j (by omega) (by simp) rfl
  have kl := list_len v1.l (by rw [List.length_map]; have := v.xl; omega)
  rw [List.length_map] at kl
  have fin := h _ v1 (.set (by simp)) (by simp)
  unfold dipP at fin
  have hpos : (decide (0 < lim)) = true := by simpa using h0
  by_cases hp : p < xs.length
  · have hg := List.getElem?_eq_getElem hp
    rw [hg] at fin
    dsimp only at fin
    have k2 : itemAt (σ.set jo (.list [.obj lo, .int ((p : Int) + 1)])) (.obj lo) (.int ((p : Int) + 1 - 1)) = some (.int xs[p]) := by
      have e1 : ((p : Int) + 1 - 1) = p := by omega
      rw [e1]
      exact list_item v1.l (by omega) (by rw [List.length_map]; have := v.xl; omega) (by simp [hg])
    have nlt : ¬ ((xs.length : Int) < (p : Int) + 1) := by omega
    by_cases hs : 0 ≤ xs[p]
    · rw [if_pos hs] at fin
      simp [f__law_dip, ↓qq_nil, ↓qq_cons, ↓qs_assign, ↓qs_augLoc, ↓qs_augSub, ↓qs_expr, ↓qs_ite, ↓qs_while, ↓qs_range, ↓qs_for2, ↓qs_forL, ↓qs_forF, ↓qs_ret, ↓qs_retN, ↓qs_cont, ↓qs_pass, ↓qe_loc, ↓qe_kint, ↓qe_kstr, ↓qe_kbool, ↓qe_knone, ↓qe_glob, ↓qe_tup, ↓qe_list, ↓qe_dict0, ↓qe_attr, ↓qe_sub, ↓qe_slTo, ↓qe_cmp, ↓qe_boolop, ↓qe_not, ↓qe_neg, ↓qe_bin, ↓qe_ife, ↓qe_callF, ↓qe_callM, ↓qe_new, ↓qe_blt, ↓qe_meth, ↓qt_loc, ↓qt_tup, ↓qt_attr, ↓qt_sub, ↓ql_nil, ↓ql_cons, ↓qb_one, ↓qb_cons, cmpV, En.put, bindE, g0, g1, g2, g3, g4, g5, g6, g7, g8, eq_int, eq_cell, tup0, tup1, me7, me8, me9, me10, me11, me12, me13, me14, me15, me16, me17, me18, me19, me20, me21, me22, me23, ms0, ms2, ms3, ms5, -List.map_set, -List.map_append, -List.map_reverse, g1, binV, put, k0, k1, kl, nlt]
      simp only [Int.add_sub_cancel] at k2
      simp [k2, hs, hpos, h0, ↓qq_nil, ↓qq_cons, ↓qs_assign, ↓qs_augLoc, ↓qs_augSub, ↓qs_expr, ↓qs_ite, ↓qs_while, ↓qs_range, ↓qs_for2, ↓qs_forL, ↓qs_forF, ↓qs_ret, ↓qs_retN, ↓qs_cont, ↓qs_pass, ↓qe_loc, ↓qe_kint, ↓qe_kstr, ↓qe_kbool, ↓qe_knone, ↓qe_glob, ↓qe_tup, ↓qe_list, ↓qe_dict0, ↓qe_attr, ↓qe_sub, ↓qe_slTo, ↓qe_cmp, ↓qe_boolop, ↓qe_not, ↓qe_neg, ↓qe_bin, ↓qe_ife, ↓qe_callF, ↓qe_callM, ↓qe_new, ↓qe_blt, ↓qe_meth, ↓qt_loc, ↓qt_tup, ↓qt_attr, ↓qt_sub, ↓ql_nil, ↓ql_cons, ↓qb_one, ↓qb_cons, cmpV, En.put, bindE, g0, g1, g2, g3, g4, g5, g6, g7, g8, eq_int, eq_cell, tup0, tup1, me7, me8, me9, me10, me11, me12, me13, me14, me15, me16, me17, me18, me19, me20, me21, me22, me23, ms0, ms2, ms3, ms5, -List.map_set, -List.map_append, -List.map_reverse, binV]
      exact fin
    · rw [if_neg hs] at fin
      simp [f__law_dip, ↓qq_nil, ↓qq_cons, ↓qs_assign, ↓qs_augLoc, ↓qs_augSub, ↓qs_expr, ↓qs_ite, ↓qs_while, ↓qs_range, ↓qs_for2, ↓qs_forL, ↓qs_forF, ↓qs_ret, ↓qs_retN, ↓qs_cont, ↓qs_pass, ↓qe_loc, ↓qe_kint, ↓qe_kstr, ↓qe_kbool, ↓qe_knone, ↓qe_glob, ↓qe_tup, ↓qe_list, ↓qe_dict0, ↓qe_attr, ↓qe_sub, ↓qe_slTo, ↓qe_cmp, ↓qe_boolop, ↓qe_not, ↓qe_neg, ↓qe_bin, ↓qe_ife, ↓qe_callF, ↓qe_callM, ↓qe_new, ↓qe_blt, ↓qe_meth, ↓qt_loc, ↓qt_tup, ↓qt_attr, ↓qt_sub, ↓ql_nil, ↓ql_cons, ↓qb_one, ↓qb_cons, cmpV, En.put, bindE, g0, g1, g2, g3, g4, g5, g6, g7, g8, eq_int, eq_cell, tup0, tup1, me7, me8, me9, me10, me11, me12, me13, me14, me15, me16, me17, me18, me19, me20, me21, me22, me23, ms0, ms2, ms3, ms5, -List.map_set, -List.map_append, -List.map_reverse, g1, binV, put, k0, k1, kl, nlt]
      simp only [Int.add_sub_cancel] at k2
      simp [k2, hs, hpos, h0, ↓qq_nil, ↓qq_cons, ↓qs_assign, ↓qs_augLoc, ↓qs_augSub, ↓qs_expr, ↓qs_ite, ↓qs_while, ↓qs_range, ↓qs_for2, ↓qs_forL, ↓qs_forF, ↓qs_ret, ↓qs_retN, ↓qs_cont, ↓qs_pass, ↓qe_loc, ↓qe_kint, ↓qe_kstr, ↓qe_kbool, ↓qe_knone, ↓qe_glob, ↓qe_tup, ↓qe_list, ↓qe_dict0, ↓qe_attr, ↓qe_sub, ↓qe_slTo, ↓qe_cmp, ↓qe_boolop, ↓qe_not, ↓qe_neg, ↓qe_bin, ↓qe_ife, ↓qe_callF, ↓qe_callM, ↓qe_new, ↓qe_blt, ↓qe_meth, ↓qt_loc, ↓qt_tup, ↓qt_attr, ↓qt_sub, ↓ql_nil, ↓ql_cons, ↓qb_one, ↓qb_cons, cmpV, En.put, bindE, g0, g1, g2, g3, g4, g5, g6, g7, g8, eq_int, eq_cell, tup0, tup1, me7, me8, me9, me10, me11, me12, me13, me14, me15, me16, me17, me18, me19, me20, me21, me22, me23, ms0, ms2, ms3, ms5, -List.map_set, -List.map_append, -List.map_reverse, binV]
      simpa using fin
  · have hg : xs[p]? = none := List.getElem?_eq_none (by omega)
    rw [hg] at fin
    have lt : ((xs.length : Int) < (p : Int) + 1) := by omega
    simp [f__law_dip, ↓qq_nil, ↓qq_cons, ↓qs_assign, ↓qs_augLoc, ↓qs_augSub, ↓qs_expr, ↓qs_ite, ↓qs_while, ↓qs_range, ↓qs_for2, ↓qs_forL, ↓qs_forF, ↓qs_ret, ↓qs_retN, ↓qs_cont, ↓qs_pass, ↓qe_loc, ↓qe_kint, ↓qe_kstr, ↓qe_kbool, ↓qe_knone, ↓qe_glob, ↓qe_tup, ↓qe_list, ↓qe_dict0, ↓qe_attr, ↓qe_sub, ↓qe_slTo, ↓qe_cmp, ↓qe_boolop, ↓qe_not, ↓qe_neg, ↓qe_bin, ↓qe_ife, ↓qe_callF, ↓qe_callM, ↓qe_new, ↓qe_blt, ↓qe_meth, ↓qt_loc, ↓qt_tup, ↓qt_attr, ↓qt_sub, ↓ql_nil, ↓ql_cons, ↓qb_one, ↓qb_cons, cmpV, En.put, bindE, g0, g1, g2, g3, g4, g5, g6, g7, g8, eq_int, eq_cell, tup0, tup1, me7, me8, me9, me10, me11, me12, me13, me14, me15, me16, me17, me18, me19, me20, me21, me22, me23, ms0, ms2, ms3, ms5, -List.map_set, -List.map_append, -List.map_reverse, g1, binV, put, k0, k1, kl, lt]
    exact fin

theorem View.happ (v : View σ so r st) (c : Cell) : methV σ 0 (.obj r.h) [cV c] = some (.none, σ.set r.h (.list ((st.H ++ [c]).map cV))) := by
  rw [list_app v.h v.h0 (by rw [List.length_map]; have := v.hl; omega), List.map_append]; rfl
theorem View.sapp (v : View σ so r st) (c : Cell) : methV σ 0 (.obj r.s) [cV c] = some (.none, σ.set r.s (.list ((st.S ++ [c]).map cV))) := by
  rw [list_app v.s v.s0 (by rw [List.length_map]; have := v.sl; omega), List.map_append]; rfl

theorem push_ok (v : View σ so r st) (hl : st.H.length < 59) {c : Cell} (h : ∀ σ', View σ' so r { st with H := st.H ++ [c] } → Same [r.h] σ σ' → σ'.length = σ.length → Q (.int st.H.length) σ') : callN P1 fns (m + 1) 11 [.obj so, cV c] σ Q := by
  refine call_of (fn := f_Cells_push) rfl rfl ?_
  have n1 : ¬ ((100000 : Int) ≤ (st.H.length : Int)) := by omega
  simp [f_Cells_push, ↓qq_nil, ↓qq_cons, ↓qs_assign, ↓qs_augLoc, ↓qs_augSub, ↓qs_expr, ↓qs_ite, ↓qs_while, ↓qs_range, ↓qs_for2, ↓qs_forL, ↓qs_forF, ↓qs_ret, ↓qs_retN, ↓qs_cont, ↓qs_pass, ↓qe_loc, ↓qe_kint, ↓qe_kstr, ↓qe_kbool, ↓qe_knone, ↓qe_glob, ↓qe_tup, ↓qe_list, ↓qe_dict0, ↓qe_attr, ↓qe_sub, ↓qe_slTo, ↓qe_cmp, ↓qe_boolop, ↓qe_not, ↓qe_neg, ↓qe_bin, ↓qe_ife, ↓qe_callF, ↓qe_callM, ↓qe_new, ↓qe_blt, ↓qe_meth, ↓qt_loc, ↓qt_tup, ↓qt_attr, ↓qt_sub, ↓ql_nil, ↓ql_cons, ↓qb_one, ↓qb_cons, cmpV, En.put, bindE, g0, g1, g2, g3, g4, g5, g6, g7, g8, eq_int, eq_cell, tup0, tup1, me7, me8, me9, me10, me11, me12, me13, me14, me15, me16, me17, me18, me19, me20, me21, me22, me23, ms0, ms2, ms3, ms5, -List.map_set, -List.map_append, -List.map_reverse, v.a6, v.hlen, v.a5, n1, (list_mok v.h).1, v.happ]
  exact h _ (v.setH (by simp; omega)) (.set (by simp)) (by simp)
theorem newvar_ok (v : View σ so r st) (hl : st.H.length < 59) (h : ∀ σ', View σ' so r { st with H := st.H ++ [(0, (st.H.length : Int))] } → Same [r.h] σ σ' → σ'.length = σ.length → Q (cV (0, (st.H.length : Int))) σ') : callN P1 fns (m + 2) 12 [.obj so] σ Q := by
  refine call_of (fn := f_Cells_new_var) rfl rfl ?_
  simp [f_Cells_new_var, ↓qq_nil, ↓qq_cons, ↓qs_assign, ↓qs_augLoc, ↓qs_augSub, ↓qs_expr, ↓qs_ite, ↓qs_while, ↓qs_range, ↓qs_for2, ↓qs_forL, ↓qs_forF, ↓qs_ret, ↓qs_retN, ↓qs_cont, ↓qs_pass, ↓qe_loc, ↓qe_kint, ↓qe_kstr, ↓qe_kbool, ↓qe_knone, ↓qe_glob, ↓qe_tup, ↓qe_list, ↓qe_dict0, ↓qe_attr, ↓qe_sub, ↓qe_slTo, ↓qe_cmp, ↓qe_boolop, ↓qe_not, ↓qe_neg, ↓qe_bin, ↓qe_ife, ↓qe_callF, ↓qe_callM, ↓qe_new, ↓qe_blt, ↓qe_meth, ↓qt_loc, ↓qt_tup, ↓qt_attr, ↓qt_sub, ↓ql_nil, ↓ql_cons, ↓qb_one, ↓qb_cons, cmpV, En.put, bindE, g0, g1, g2, g3, g4, g5, g6, g7, g8, eq_int, eq_cell, tup0, tup1, me7, me8, me9, me10, me11, me12, me13, me14, me15, me16, me17, me18, me19, me20, me21, me22, me23, ms0, ms2, ms3, ms5, -List.map_set, -List.map_append, -List.map_reverse, v.a6, v.hlen, cV_eq, v.cl]
  exact push_ok v hl fun σ' a b c => h σ' a b c
theorem stackput_ok (v : View σ so r st) (hl : st.S.length < 59) {c : Cell} (h : ∀ σ', View σ' so r { st with S := st.S ++ [c] } → Same [r.s] σ σ' → σ'.length = σ.length → Q .none σ') : callN P1 fns (m + 1) 21 [.obj so, .int st.S.length, cV c] σ Q := by
  refine call_of (fn := f_Cells_stack_put) rfl rfl ?_
  simp [f_Cells_stack_put, ↓qq_nil, ↓qq_cons, ↓qs_assign, ↓qs_augLoc, ↓qs_augSub, ↓qs_expr, ↓qs_ite, ↓qs_while, ↓qs_range, ↓qs_for2, ↓qs_forL, ↓qs_forF, ↓qs_ret, ↓qs_retN, ↓qs_cont, ↓qs_pass, ↓qe_loc, ↓qe_kint, ↓qe_kstr, ↓qe_kbool, ↓qe_knone, ↓qe_glob, ↓qe_tup, ↓qe_list, ↓qe_dict0, ↓qe_attr, ↓qe_sub, ↓qe_slTo, ↓qe_cmp, ↓qe_boolop, ↓qe_not, ↓qe_neg, ↓qe_bin, ↓qe_ife, ↓qe_callF, ↓qe_callM, ↓qe_new, ↓qe_blt, ↓qe_meth, ↓qt_loc, ↓qt_tup, ↓qt_attr, ↓qt_sub, ↓ql_nil, ↓ql_cons, ↓qb_one, ↓qb_cons, cmpV, En.put, bindE, g0, g1, g2, g3, g4, g5, g6, g7, g8, eq_int, eq_cell, tup0, tup1, me7, me8, me9, me10, me11, me12, me13, me14, me15, me16, me17, me18, me19, me20, me21, me22, me23, ms0, ms2, ms3, ms5, -List.map_set, -List.map_append, -List.map_reverse, v.a7, v.slen]
  refine ⟨1, ?_⟩
  simp [whileGo, ↓qq_nil, ↓qq_cons, ↓qs_assign, ↓qs_augLoc, ↓qs_augSub, ↓qs_expr, ↓qs_ite, ↓qs_while, ↓qs_range, ↓qs_for2, ↓qs_forL, ↓qs_forF, ↓qs_ret, ↓qs_retN, ↓qs_cont, ↓qs_pass, ↓qe_loc, ↓qe_kint, ↓qe_kstr, ↓qe_kbool, ↓qe_knone, ↓qe_glob, ↓qe_tup, ↓qe_list, ↓qe_dict0, ↓qe_attr, ↓qe_sub, ↓qe_slTo, ↓qe_cmp, ↓qe_boolop, ↓qe_not, ↓qe_neg, ↓qe_bin, ↓qe_ife, ↓qe_callF, ↓qe_callM, ↓qe_new, ↓qe_blt, ↓qe_meth, ↓qt_loc, ↓qt_tup, ↓qt_attr, ↓qt_sub, ↓ql_nil, ↓ql_cons, ↓qb_one, ↓qb_cons, cmpV, En.put, bindE, g0, g1, g2, g3, g4, g5, g6, g7, g8, eq_int, eq_cell, tup0, tup1, me7, me8, me9, me10, me11, me12, me13, me14, me15, me16, me17, me18, me19, me20, me21, me22, me23, ms0, ms2, ms3, ms5, -List.map_set, -List.map_append, -List.map_reverse, v.slen, (list_mok v.s).1, v.sapp]
  exact h _ (v.setS (by simp; omega)) (.set (by simp)) (by simp)

theorem upFrom_up (a : Int) (k : Nat) : upFrom a 1 (k + 1) = .int a :: upFrom (a + 1) 1 k := rfl
theorem reserve_loop {cf : Cf} {all : List V} {L : Nat} : ∀ (k j : Nat) (st : St) (σ : AH) (ρ : En) (Q : Fl → En → AH → Prop), View σ so r st → st.H.length + k < 60 → ρ 0 = some (.obj so) → ρ 2 = some (.int L) →
    (∀ σ' ρ', View σ' so r { st with H := st.H ++ (List.range k).map fun i => (0, ((L + j + i : Nat) : Int)) } → Same [r.h] σ σ' → σ'.length = σ.length → ρ' 2 = some (.int L) → Q .next ρ' σ') →
    forGo all .range (wT P1 cf (.loc 3)) (wSL P1 cf (.cons (.expr (.meth 0 (.attr (.loc 0) 6) (.cons (.tup (.cons (.glob 0) (.cons (.bin .add (.loc 2) (.loc 3)) .nil))) .nil))) .nil)) (upFrom (j : Int) 1 k) ρ σ Q
  | 0, j, st, σ, ρ, Q, v, hl, h0, h2, h => ⟨trivial, h σ ρ (by simpa using v) (.refl _ _) rfl h2⟩
  | k + 1, j, st, σ, ρ, Q, v, hl, h0, h2, h => by
    rw [upFrom_up]
    refine ⟨trivial, ?_⟩
    show wSL P1 _ _ (ρ.put 3 (.int j)) σ _
    have v1 := v.setH (H' := st.H ++ [(0, (L : Int) + (j : Int))]) (by simp; omega)
    simp [↓qq_nil, ↓qq_cons, ↓qs_assign, ↓qs_augLoc, ↓qs_augSub, ↓qs_expr, ↓qs_ite, ↓qs_while, ↓qs_range, ↓qs_for2, ↓qs_forL, ↓qs_forF, ↓qs_ret, ↓qs_retN, ↓qs_cont, ↓qs_pass, ↓qe_loc, ↓qe_kint, ↓qe_kstr, ↓qe_kbool, ↓qe_knone, ↓qe_glob, ↓qe_tup, ↓qe_list, ↓qe_dict0, ↓qe_attr, ↓qe_sub, ↓qe_slTo, ↓qe_cmp, ↓qe_boolop, ↓qe_not, ↓qe_neg, ↓qe_bin, ↓qe_ife, ↓qe_callF, ↓qe_callM, ↓qe_new, ↓qe_blt, ↓qe_meth, ↓qt_loc, ↓qt_tup, ↓qt_attr, ↓qt_sub, ↓ql_nil, ↓ql_cons, ↓qb_one, ↓qb_cons, cmpV, En.put, bindE, g0, g1, g2, g3, g4, g5, g6, g7, g8, eq_int, eq_cell, tup0, tup1, me7, me8, me9, me10, me11, me12, me13, me14, me15, me16, me17, me18, me19, me20, me21, me22, me23, ms0, ms2, ms3, ms5, -List.map_set, -List.map_append, -List.map_reverse, h0, h2, v.a6, (list_mok v.h).1, binV, cV_eq, v.happ]
    have e : (j : Int) + 1 = ((j + 1 : Nat) : Int) := by omega
    rw [e]
    refine reserve_loop (L := L) k (j + 1) _ _ _ Q v1 (by simp; omega) (by simp [En.put, h0]) (by simp [En.put, h2]) fun σ' ρ' v' s' l' h' => ?_
    refine h σ' ρ' ?_ ((Same.set (by simp)).trans s') (by rw [l']; simp) h'
    have e2 : (List.range (k + 1)).map (fun i => ((0 : Int), ((L + j + i : Nat) : Int))) = (0, (L : Int) + (j : Int)) :: (List.range k).map fun i => (0, ((L + (j + 1) + i : Nat) : Int)) := by
      rw [List.range_succ_eq_map, List.map_cons, List.map_map]
      congr 1
      refine List.map_congr_left fun i _ => ?_
      simp; omega
    rw [e2]
    simpa using v'
theorem range1 {n : Nat} (h : n < 1000) : rangeV [.int (n : Int)] = some (upFrom 0 1 n) := by
  have h2 : small (n : Int) = true := by unfold small; simp; omega
  simp only [rangeV, h2, if_true, Int.toNat_natCast]
end

end Mine
end

/-! C16 -/
noncomputable section
set_option maxHeartbeats 200000
open PySem
namespace Mine

section
variable {m : Nat} {σ σ' : AH} {sy so : Nat} {r : Rc} {st : St} {q : Rs} {tx : List PySem.Str} {fu : List (Int × Int)} {Q : V → AH → Prop}

noncomputable def resLoop : SL := (.cons (.for_ (.loc 3) (.blt 1 (.cons (.loc 1) .nil)) (.cons (.expr (.meth 0 (.attr (.loc 0) 6) (.cons (.tup (.cons (.glob 0) (.cons (.bin .add (.loc 2) (.loc 3)) .nil))) .nil))) .nil)) (.cons (.ret (.loc 2)) .nil))
theorem res_rest (v : View σ so r st) {n : Nat} (hl : st.H.length + n < 60) {cf : Cf} {ρ : En} {Q : Fl → En → AH → Prop} (h0 : ρ 0 = some (.obj so)) (h1 : ρ 1 = some (.int n)) (h2 : ρ 2 = some (.int st.H.length))
    (h : ∀ σ' ρ', View σ' so r { st with H := st.H ++ (List.range n).map fun i => (0, ((st.H.length + i : Nat) : Int)) } → Same [r.h] σ σ' → σ'.length = σ.length → Q (.ret (.int st.H.length)) ρ' σ') : wSL P1 cf resLoop ρ σ Q := by
  have hr : rangeV [.int (n : Int)] = some (upFrom 0 1 n) := range1 (by omega)
  show wL P1 cf (.cons (.loc 1) .nil) ρ σ (fun vs σ' => match rangeV vs with | some items => forGo items .range (wT P1 cf (.loc 3)) (wSL P1 cf _) items ρ σ' _ | none => False)
  simp only [↓ql_nil, ↓ql_cons, ↓qe_loc, ↓qe_kint, ↓qe_kstr, ↓qe_kbool, ↓qe_knone, ↓qe_glob, ↓qe_tup, ↓qe_list, ↓qe_dict0, ↓qe_attr, ↓qe_sub, ↓qe_slTo, ↓qe_cmp, ↓qe_boolop, ↓qe_not, ↓qe_neg, ↓qe_bin, ↓qe_ife, ↓qe_callF, ↓qe_callM, ↓qe_new, ↓qe_blt, ↓qe_meth, h1]
  rw [hr]
  refine reserve_loop (L := st.H.length) n 0 st σ ρ _ v hl h0 h2 fun σ' ρ' v' s' l' h' => ?_
  show wSL P1 cf (.cons (.ret (.loc 2)) .nil) ρ' σ' Q
  simp only [↓qq_nil, ↓qq_cons, ↓qs_assign, ↓qs_augLoc, ↓qs_augSub, ↓qs_expr, ↓qs_ite, ↓qs_while, ↓qs_range, ↓qs_for2, ↓qs_forL, ↓qs_forF, ↓qs_ret, ↓qs_retN, ↓qs_cont, ↓qs_pass, ↓qe_loc, ↓qe_kint, ↓qe_kstr, ↓qe_kbool, ↓qe_knone, ↓qe_glob, ↓qe_tup, ↓qe_list, ↓qe_dict0, ↓qe_attr, ↓qe_sub, ↓qe_slTo, ↓qe_cmp, ↓qe_boolop, ↓qe_not, ↓qe_neg, ↓qe_bin, ↓qe_ife, ↓qe_callF, ↓qe_callM, ↓qe_new, ↓qe_blt, ↓qe_meth, h']
  exact h σ' ρ' (by simpa using v') s' l'
theorem reserve_ok (v : View σ so r st) {n : Nat} (hl : st.H.length + n < 60) (h : ∀ σ', View σ' so r { st with H := st.H ++ (List.range n).map fun i => (0, ((st.H.length + i : Nat) : Int)) } → Same [r.h] σ σ' → σ'.length = σ.length → Q (.int st.H.length) σ') : callN P1 fns (m + 1) 13 [.obj so, .int n] σ Q := by
  refine call_of (fn := f_Cells_reserve) rfl rfl ?_
  have n1 : ¬ ((100000 : Int) < (st.H.length : Int) + (n : Int)) := by omega
  have hc : cmpV σ .gt (.int ((st.H.length : Int) + (n : Int))) (.int 100000) = some false := by
    show some (decide _) = _
    rw [decide_eq_false n1]
  have hb : binV .add (.int (st.H.length : Int)) (.int (n : Int)) = some (.int ((st.H.length : Int) + (n : Int))) := rfl
  show wSL P1 (callN P1 fns m) (.cons (.assign (.loc 2) (.blt 0 (.cons (.attr (.loc 0) 6) .nil))) (.cons (.ite (.cmp .gt (.bin .add (.loc 2) (.loc 1)) (.attr (.loc 0) 5)) (.cons .stuck .nil) .nil) resLoop)) (bindE 0 [.obj so, .int n]) σ _
  simp [↓qq_nil, ↓qq_cons, ↓qs_assign, ↓qs_augLoc, ↓qs_augSub, ↓qs_expr, ↓qs_ite, ↓qs_while, ↓qs_range, ↓qs_for2, ↓qs_forL, ↓qs_forF, ↓qs_ret, ↓qs_retN, ↓qs_cont, ↓qs_pass, ↓qe_loc, ↓qe_kint, ↓qe_kstr, ↓qe_kbool, ↓qe_knone, ↓qe_glob, ↓qe_tup, ↓qe_list, ↓qe_dict0, ↓qe_attr, ↓qe_sub, ↓qe_slTo, ↓qe_cmp, ↓qe_boolop, ↓qe_not, ↓qe_neg, ↓qe_bin, ↓qe_ife, ↓qe_callF, ↓qe_callM, ↓qe_new, ↓qe_blt, ↓qe_meth, ↓qt_loc, ↓qt_tup, ↓qt_attr, ↓qt_sub, ↓ql_nil, ↓ql_cons, En.put, bindE, v.a6, v.hlen, v.a5, hb, hc]
  exact res_rest v hl (by simp [En.put]) (by simp [En.put]) (by simp [En.put]) fun σ' ρ' a b c => h σ' a b c
theorem newblock_ok (W : Wd σ so r st q tx fu) {k : Int} {c : Int × Int} (h0 : 0 < k) (hk : fu[k.toNat]? = some c) (n : Nat) (hn : c.2 = n) (hl : st.H.length + (n + 1) < 60)
    (h : ∀ σ', Wd σ' so r { st with H := st.H ++ (6, k) :: (List.range n).map fun i => (0, ((st.H.length + 1 + i : Nat) : Int)) } q tx fu → Same [r.h] σ σ' → σ'.length = σ.length → Q (cV (2, (st.H.length : Int))) σ') : callN P1 fns (m + 2) 25 [.obj so, .int k] σ Q := by
  refine call_of (fn := f_Cells_new_block) rfl rfl ?_
  have k0 : ¬ k = 0 := by omega
  simp [f_Cells_new_block, ↓qq_nil, ↓qq_cons, ↓qs_assign, ↓qs_augLoc, ↓qs_augSub, ↓qs_expr, ↓qs_ite, ↓qs_while, ↓qs_range, ↓qs_for2, ↓qs_forL, ↓qs_forF, ↓qs_ret, ↓qs_retN, ↓qs_cont, ↓qs_pass, ↓qe_loc, ↓qe_kint, ↓qe_kstr, ↓qe_kbool, ↓qe_knone, ↓qe_glob, ↓qe_tup, ↓qe_list, ↓qe_dict0, ↓qe_attr, ↓qe_sub, ↓qe_slTo, ↓qe_cmp, ↓qe_boolop, ↓qe_not, ↓qe_neg, ↓qe_bin, ↓qe_ife, ↓qe_callF, ↓qe_callM, ↓qe_new, ↓qe_blt, ↓qe_meth, ↓qt_loc, ↓qt_tup, ↓qt_attr, ↓qt_sub, ↓ql_nil, ↓ql_cons, ↓qb_one, ↓qb_cons, cmpV, En.put, bindE, g0, g1, g2, g3, g4, g5, g6, g7, g8, eq_int, eq_cell, tup0, tup1, me7, me8, me9, me10, me11, me12, me13, me14, me15, me16, me17, me18, me19, me20, me21, me22, me23, ms0, ms2, ms3, ms5, -List.map_set, -List.map_append, -List.map_reverse, k0, W.v.a4, W.y.cl, W.v.cl]
  refine arity_ok W.y (by omega) hk ?_
  have e1 : (1 : Int) + c.2 = ((n + 1 : Nat) : Int) := by omega
  simp only [binV, e1]
  refine reserve_ok W.v (n := n + 1) (by omega) fun σ₁ v1 s1 l1 => ?_
  have e2 : st.H ++ (List.range (n + 1)).map (fun i => ((0 : Int), ((st.H.length + i : Nat) : Int))) = st.H ++ (0, (st.H.length : Int)) :: (List.range n).map fun i => (0, ((st.H.length + 1 + i : Nat) : Int)) := by
    rw [List.range_succ_eq_map, List.map_cons, List.map_map]
    congr 2
    refine List.map_congr_left fun i _ => ?_
    simp; omega
  rw [e2] at v1
  have hp := v1.hput (6, k) (k := (st.H.length : Int)) (by omega) (by simp)
  have v2 := v1.setH (H' := (st.H ++ (0, (st.H.length : Int)) :: (List.range n).map fun i => (0, ((st.H.length + 1 + i : Nat) : Int))).set (st.H.length : Int).toNat (6, k)) (by simp; omega)
  have e3 : (st.H ++ (0, (st.H.length : Int)) :: (List.range n).map fun i => (0, ((st.H.length + 1 + i : Nat) : Int))).set (st.H.length : Int).toNat (6, k) = st.H ++ (6, k) :: (List.range n).map fun i => (0, ((st.H.length + 1 + i : Nat) : Int)) := by
    simp
  dsimp only at hp v2
  rw [e3] at hp v2
  simp [↓qq_nil, ↓qq_cons, ↓qs_assign, ↓qs_augLoc, ↓qs_augSub, ↓qs_expr, ↓qs_ite, ↓qs_while, ↓qs_range, ↓qs_for2, ↓qs_forL, ↓qs_forF, ↓qs_ret, ↓qs_retN, ↓qs_cont, ↓qs_pass, ↓qe_loc, ↓qe_kint, ↓qe_kstr, ↓qe_kbool, ↓qe_knone, ↓qe_glob, ↓qe_tup, ↓qe_list, ↓qe_dict0, ↓qe_attr, ↓qe_sub, ↓qe_slTo, ↓qe_cmp, ↓qe_boolop, ↓qe_not, ↓qe_neg, ↓qe_bin, ↓qe_ife, ↓qe_callF, ↓qe_callM, ↓qe_new, ↓qe_blt, ↓qe_meth, ↓qt_loc, ↓qt_tup, ↓qt_attr, ↓qt_sub, ↓ql_nil, ↓ql_cons, ↓qb_one, ↓qb_cons, cmpV, En.put, bindE, g0, g1, g2, g3, g4, g5, g6, g7, g8, eq_int, eq_cell, tup0, tup1, me7, me8, me9, me10, me11, me12, me13, me14, me15, me16, me17, me18, me19, me20, me21, me22, me23, ms0, ms2, ms3, ms5, -List.map_set, -List.map_append, -List.map_reverse, v1.a6, cV_eq, hp]
  have s2 : Same [r.h] σ (σ₁.set r.h (.list ((st.H ++ (6, k) :: (List.range n).map fun i => (0, ((st.H.length + 1 + i : Nat) : Int))).map cV))) := s1.trans (.set (by simp))
  exact h _ (W.turn v2 (s2.weak (by simp))) s2 (by simp [l1])
end

end Mine
end

/-! C17 -/
noncomputable section
set_option maxHeartbeats 200000
open PySem
namespace Mine

theorem eq_str0 (σ : AH) {x y : PySem.Str} (hx : SeqAt.shaped (.str x) = true) (hy : SeqAt.shaped (.str y) = true) : eqV σ (.str x) (.str y) = some (decide (x = y)) := by
  show (if (SeqAt.shaped (PyData.str x) && SeqAt.shaped (PyData.str y)) = true then some (PyData.eqv (.str x) (.str y)) else none) = _
  rw [hx, hy, if_pos (show (true && true) = true from rfl)]
  by_cases h : x = y
  · subst h; simp [PyData.eqv]
  · simp [PyData.eqv, h]
theorem eq_bool (σ : AH) (x y : Bool) : eqV σ (.bool x) (.bool y) = some (decide (x = y)) := by
  show (if (SeqAt.shaped (PyData.bool x) && SeqAt.shaped (PyData.bool y)) = true then some (PyData.eqv (.bool x) (.bool y)) else none) = _
  rw [if_pos (show (SeqAt.shaped (PyData.bool x) && SeqAt.shaped (PyData.bool y)) = true from rfl)]
  cases x <;> cases y <;> rfl

noncomputable def sV : PySem.Str := PySem.Str.ofString "v"
noncomputable def sI : PySem.Str := PySem.Str.ofString "i"
noncomputable def sA : PySem.Str := PySem.Str.ofString "a"
noncomputable def sS : PySem.Str := PySem.Str.ofString "s"
noncomputable def sG : PySem.Str := PySem.Str.ofString "g"
noncomputable def sH : PySem.Str := PySem.Str.ofString "h"
theorem shp : SeqAt.shaped (.str sV) = true ∧ SeqAt.shaped (.str sI) = true ∧ SeqAt.shaped (.str sA) = true ∧ SeqAt.shaped (.str sS) = true := by decide +kernel
theorem eqVV (σ : AH) : eqV σ (.str sV) (.str sV) = some true := by rw [eq_str0 σ shp.1 shp.1]; simp
theorem eqIV (σ : AH) : eqV σ (.str sI) (.str sV) = some false := by rw [eq_str0 σ shp.2.1 shp.1]; decide +kernel
theorem eqIA (σ : AH) : eqV σ (.str sI) (.str sA) = some false := by rw [eq_str0 σ shp.2.1 shp.2.2.1]; decide +kernel
theorem eqII (σ : AH) : eqV σ (.str sI) (.str sI) = some true := by rw [eq_str0 σ shp.2.1 shp.2.1]; simp
theorem eqSV (σ : AH) : eqV σ (.str sS) (.str sV) = some false := by rw [eq_str0 σ shp.2.2.2 shp.1]; decide +kernel
theorem eqSA (σ : AH) : eqV σ (.str sS) (.str sA) = some false := by rw [eq_str0 σ shp.2.2.2 shp.2.2.1]; decide +kernel
theorem eqSI (σ : AH) : eqV σ (.str sS) (.str sI) = some false := by rw [eq_str0 σ shp.2.2.2 shp.2.1]; decide +kernel
/-- a part of a side: a variable of the heap or an int -/
inductive Pt where
  | v (k : Nat)
  | i (n : Int)
noncomputable def Pt.V : Pt → Mine.V
  | .v k => .tup [.str sV, .int k]
  | .i n => .tup [.str sI, .int n]
noncomputable def Pt.cell : Pt → Cell
  | .v k => (0, (k : Int))
  | .i n => (5, n)
noncomputable def Pt.ok : Pt → Prop
  | .v k => k < 4
  | .i _ => True

section
variable {m : Nat} {σ σ' : AH} {sy so : Nat} {r : Rc} {st : St} {q : Rs} {tx : List PySem.Str} {fu : List (Int × Int)} {Q : Mine.V → AH → Prop} {jo lo : Nat} {xs : List Int} {p : Nat}

noncomputable def partP (xs : List Int) (p : Nat) : Pt := if dipP xs p 6 < 4 then .v (dipP xs p 6).toNat else .i (dipP xs p 6 + 1)
theorem partP_ok : (partP xs p).ok := by
  have := dip_range (xs := xs) (p := p) (lim := 6) (by decide)
  unfold partP
  split
  · show _ < 4; omega
  · trivial
theorem part_ok (v : JarV σ jo lo xs p) (h : ∀ σ', JarV σ' jo lo xs (p + 1) → Same [jo] σ σ' → σ'.length = σ.length → Q (partP xs p).V σ') : callN P1 fns (m + 2) 39 [.obj jo] σ Q := by
  refine call_of (fn := f__law_part) rfl rfl ?_
  have hr := dip_range (xs := xs) (p := p) (lim := 6) (by decide)
  simp [f__law_part, ↓qq_nil, ↓qq_cons, ↓qs_assign, ↓qs_augLoc, ↓qs_augSub, ↓qs_expr, ↓qs_ite, ↓qs_while, ↓qs_range, ↓qs_for2, ↓qs_forL, ↓qs_forF, ↓qs_ret, ↓qs_retN, ↓qs_cont, ↓qs_pass, ↓qe_loc, ↓qe_kint, ↓qe_kstr, ↓qe_kbool, ↓qe_knone, ↓qe_glob, ↓qe_tup, ↓qe_list, ↓qe_dict0, ↓qe_attr, ↓qe_sub, ↓qe_slTo, ↓qe_cmp, ↓qe_boolop, ↓qe_not, ↓qe_neg, ↓qe_bin, ↓qe_ife, ↓qe_callF, ↓qe_callM, ↓qe_new, ↓qe_blt, ↓qe_meth, ↓qt_loc, ↓qt_tup, ↓qt_attr, ↓qt_sub, ↓ql_nil, ↓ql_cons, ↓qb_one, ↓qb_cons, cmpV, En.put, bindE, g0, g1, g2, g3, g4, g5, g6, g7, g8, eq_int, eq_cell, tup0, tup1, me7, me8, me9, me10, me11, me12, me13, me14, me15, me16, me17, me18, me19, me20, me21, me22, me23, ms0, ms2, ms3, ms5, -List.map_set, -List.map_append, -List.map_reverse]
  refine dip_ok v (by decide) (by decide) fun σ₁ v1 s1 l1 => ?_
  have fin := h σ₁ v1 s1 l1
  unfold partP at fin
  by_cases hc : dipP xs p 6 < 4
  · rw [if_pos hc] at fin
    have e : (((dipP xs p 6).toNat : Nat) : Int) = dipP xs p 6 := by omega
    simp only [Pt.V, e] at fin
    simp [↓qq_nil, ↓qq_cons, ↓qs_assign, ↓qs_augLoc, ↓qs_augSub, ↓qs_expr, ↓qs_ite, ↓qs_while, ↓qs_range, ↓qs_for2, ↓qs_forL, ↓qs_forF, ↓qs_ret, ↓qs_retN, ↓qs_cont, ↓qs_pass, ↓qe_loc, ↓qe_kint, ↓qe_kstr, ↓qe_kbool, ↓qe_knone, ↓qe_glob, ↓qe_tup, ↓qe_list, ↓qe_dict0, ↓qe_attr, ↓qe_sub, ↓qe_slTo, ↓qe_cmp, ↓qe_boolop, ↓qe_not, ↓qe_neg, ↓qe_bin, ↓qe_ife, ↓qe_callF, ↓qe_callM, ↓qe_new, ↓qe_blt, ↓qe_meth, ↓qt_loc, ↓qt_tup, ↓qt_attr, ↓qt_sub, ↓ql_nil, ↓ql_cons, ↓qb_one, ↓qb_cons, cmpV, En.put, bindE, g0, g1, g2, g3, g4, g5, g6, g7, g8, eq_int, eq_cell, tup0, tup1, me7, me8, me9, me10, me11, me12, me13, me14, me15, me16, me17, me18, me19, me20, me21, me22, me23, ms0, ms2, ms3, ms5, -List.map_set, -List.map_append, -List.map_reverse, hc]
    exact fin
  · rw [if_neg hc] at fin
    simp [↓qq_nil, ↓qq_cons, ↓qs_assign, ↓qs_augLoc, ↓qs_augSub, ↓qs_expr, ↓qs_ite, ↓qs_while, ↓qs_range, ↓qs_for2, ↓qs_forL, ↓qs_forF, ↓qs_ret, ↓qs_retN, ↓qs_cont, ↓qs_pass, ↓qe_loc, ↓qe_kint, ↓qe_kstr, ↓qe_kbool, ↓qe_knone, ↓qe_glob, ↓qe_tup, ↓qe_list, ↓qe_dict0, ↓qe_attr, ↓qe_sub, ↓qe_slTo, ↓qe_cmp, ↓qe_boolop, ↓qe_not, ↓qe_neg, ↓qe_bin, ↓qe_ife, ↓qe_callF, ↓qe_callM, ↓qe_new, ↓qe_blt, ↓qe_meth, ↓qt_loc, ↓qt_tup, ↓qt_attr, ↓qt_sub, ↓ql_nil, ↓ql_cons, ↓qb_one, ↓qb_cons, cmpV, En.put, bindE, g0, g1, g2, g3, g4, g5, g6, g7, g8, eq_int, eq_cell, tup0, tup1, me7, me8, me9, me10, me11, me12, me13, me14, me15, me16, me17, me18, me19, me20, me21, me22, me23, ms0, ms2, ms3, ms5, -List.map_set, -List.map_append, -List.map_reverse, hc, binV]
    exact fin

/-- the table that names the heap's variables -/
noncomputable def tabD : AObj := .dictI [(0, cV (0, 0)), (1, cV (0, 1)), (2, cV (0, 2)), (3, cV (0, 3))]
theorem tab_at {to : Nat} (e : σ[to]? = some tabD) {k : Nat} (hk : k < 4) : itemAt σ (.obj to) (.int k) = some (cV (0, (k : Int))) ∧ inV σ (.int k) (.obj to) = some true := by
  have hd : dictAt tabD (.int k) = some (some (cV (0, (k : Int)))) := by
    have : k = 0 ∨ k = 1 ∨ k = 2 ∨ k = 3 := by omega
    rcases this with h | h | h | h <;> subst h <;> rfl
  constructor
  · simp only [itemAt, e]
    show (dictAt tabD (.int k)).bind id = _
    rw [hd]; rfl
  · simp only [inV, e]
    show (dictAt tabD (.int k)).map (·.isSome) = _
    rw [hd]; rfl

/-- the loop of put_term over the parts -/
noncomputable def ptBody : SL := (.cons (.assign (.loc 4) (.sub (.loc 10) (.kint 0))) (.cons (.ite (.cmp .eq (.loc 4) (.kstr (PySem.Str.ofString "v"))) (.cons (.ite (.cmp .isIn (.sub (.loc 10) (.kint 1)) (.loc 2)) (.cons (.assign (.sub (.attr (.loc 0) 6) (.loc 8)) (.sub (.loc 2) (.sub (.loc 10) (.kint 1)))) .nil) (.cons (.assign (.sub (.loc 2) (.sub (.loc 10) (.kint 1))) (.tup (.cons (.glob 0) (.cons (.loc 8) .nil)))) .nil)) .nil) (.cons (.ite (.cmp .eq (.loc 4) (.kstr (PySem.Str.ofString "a"))) (.cons (.assign (.sub (.attr (.loc 0) 6) (.loc 8)) (.tup (.cons (.glob 4) (.cons (.sub (.loc 10) (.kint 1)) .nil)))) .nil) (.cons (.ite (.cmp .eq (.loc 4) (.kstr (PySem.Str.ofString "i"))) (.cons (.assign (.sub (.attr (.loc 0) 6) (.loc 8)) (.tup (.cons (.glob 5) (.cons (.sub (.loc 10) (.kint 1)) .nil)))) .nil) (.cons (.assign (.loc 11) (.callM 21 (.loc 0) (.cons (.sub (.loc 10) (.kint 1)) .nil))) (.cons (.assign (.sub (.attr (.loc 0) 6) (.loc 8)) (.loc 11)) (.cons (.expr (.meth 0 (.loc 6) (.cons (.tup (.cons (.callM 20 (.loc 0) (.cons (.loc 11) .nil)) (.cons (.sub (.loc 10) (.kint 2)) .nil))) .nil))) .nil)))) .nil)) .nil)) (.cons (.augLoc 8 .add (.kint 1)) .nil)))

theorem leaf_body {cf : Cf} {to pl : Nat} (v : View σ so r st) (e : σ[to]? = some tabD) {pt : Pt} (hp : pt.ok) (hpl : pl < st.H.length) {ρ : En} {Q : Fl → En → AH → Prop} (h0 : ρ 0 = some (.obj so)) (h2 : ρ 2 = some (.obj to)) (h8 : ρ 8 = some (.int pl)) (h10 : ρ 10 = some pt.V)
    (h : View (σ.set r.h (.list ((st.H.set pl pt.cell).map cV))) so r { st with H := st.H.set pl pt.cell } → Q .next ((ρ.put 4 (match pt with | .v _ => .str sV | .i _ => .str sI)).put 8 (.int ((pl : Int) + 1))) (σ.set r.h (.list ((st.H.set pl pt.cell).map cV)))) : wSL P1 cf ptBody ρ σ Q := by
  have hput := v.hput pt.cell (k := (pl : Int)) (by omega) (by simpa using hpl)
  simp only [Int.toNat_natCast] at hput
  have v1 := v.setH (H' := st.H.set pl pt.cell) (by rw [List.length_set]; exact v.hl)
  cases pt with
  | v k =>
    obtain ⟨t1, t2⟩ := tab_at e (show k < 4 from hp)
    have i0 : itemAt σ (Pt.V (.v k)) (.int 0) = some (.str sV) := rfl
    have i1 : itemAt σ (Pt.V (.v k)) (.int 1) = some (.int k) := rfl
    have hput' : itemPut σ (.obj r.h) (.int pl) (cV (0, (k : Int))) = some (σ.set r.h (.list ((st.H.set pl (0, (k : Int))).map cV))) := hput
    simp [ptBody, ↓qq_nil, ↓qq_cons, ↓qs_assign, ↓qs_augLoc, ↓qs_augSub, ↓qs_expr, ↓qs_ite, ↓qs_while, ↓qs_range, ↓qs_for2, ↓qs_forL, ↓qs_forF, ↓qs_ret, ↓qs_retN, ↓qs_cont, ↓qs_pass, ↓qe_loc, ↓qe_kint, ↓qe_kstr, ↓qe_kbool, ↓qe_knone, ↓qe_glob, ↓qe_tup, ↓qe_list, ↓qe_dict0, ↓qe_attr, ↓qe_sub, ↓qe_slTo, ↓qe_cmp, ↓qe_boolop, ↓qe_not, ↓qe_neg, ↓qe_bin, ↓qe_ife, ↓qe_callF, ↓qe_callM, ↓qe_new, ↓qe_blt, ↓qe_meth, ↓qt_loc, ↓qt_tup, ↓qt_attr, ↓qt_sub, ↓ql_nil, ↓ql_cons, ↓qb_one, ↓qb_cons, cmpV, En.put, bindE, g0, g1, g2, g3, g4, g5, g6, g7, g8, eq_int, eq_cell, tup0, tup1, me7, me8, me9, me10, me11, me12, me13, me14, me15, me16, me17, me18, me19, me20, me21, me22, me23, ms0, ms2, ms3, ms5, -List.map_set, -List.map_append, -List.map_reverse, h0, h2, h8, h10, i0, i1, eqVV, eqIV, eqIA, eqII, show PySem.Str.ofString "v" = sV from rfl, t1, t2, v.a6, hput', binV]
    exact h v1
  | i n =>
    have i0 : itemAt σ (Pt.V (.i n)) (.int 0) = some (.str sI) := rfl
    have i1 : itemAt σ (Pt.V (.i n)) (.int 1) = some (.int n) := rfl
    have hput' : itemPut σ (.obj r.h) (.int pl) (cV (5, n)) = some (σ.set r.h (.list ((st.H.set pl (5, n)).map cV))) := hput
    simp [ptBody, ↓qq_nil, ↓qq_cons, ↓qs_assign, ↓qs_augLoc, ↓qs_augSub, ↓qs_expr, ↓qs_ite, ↓qs_while, ↓qs_range, ↓qs_for2, ↓qs_forL, ↓qs_forF, ↓qs_ret, ↓qs_retN, ↓qs_cont, ↓qs_pass, ↓qe_loc, ↓qe_kint, ↓qe_kstr, ↓qe_kbool, ↓qe_knone, ↓qe_glob, ↓qe_tup, ↓qe_list, ↓qe_dict0, ↓qe_attr, ↓qe_sub, ↓qe_slTo, ↓qe_cmp, ↓qe_boolop, ↓qe_not, ↓qe_neg, ↓qe_bin, ↓qe_ife, ↓qe_callF, ↓qe_callM, ↓qe_new, ↓qe_blt, ↓qe_meth, ↓qt_loc, ↓qt_tup, ↓qt_attr, ↓qt_sub, ↓ql_nil, ↓ql_cons, ↓qb_one, ↓qb_cons, cmpV, En.put, bindE, g0, g1, g2, g3, g4, g5, g6, g7, g8, eq_int, eq_cell, tup0, tup1, me7, me8, me9, me10, me11, me12, me13, me14, me15, me16, me17, me18, me19, me20, me21, me22, me23, ms0, ms2, ms3, ms5, -List.map_set, -List.map_append, -List.map_reverse, h0, h2, h8, h10, i0, i1, eqVV, eqIV, eqIA, eqII, show PySem.Str.ofString "v" = sV from rfl, show PySem.Str.ofString "a" = sA from rfl, show PySem.Str.ofString "i" = sI from rfl, v.a6, cV_eq, hput', binV]
    exact h v1
end

end Mine
end

/-! C18 -/
noncomputable section
set_option maxHeartbeats 200000
open PySem
namespace Mine

section
variable {m : Nat} {σ σ' : AH} {sy so : Nat} {r : Rc} {st : St} {q : Rs} {tx : List PySem.Str} {fu : List (Int × Int)} {to wo : Nat}

/-- a compound of one leaf, as put_term takes it -/
noncomputable def oneV (g : Int) (pt : Pt) : Mine.V := .tup [.str sS, .int g, .tup [pt.V]]

theorem inner_body (W : Wd σ so r st q tx fu) {pl : Nat} {g : Int} {a : Int} {pt : Pt} {Wl : List Mine.V} (g0 : 0 < g) (hg : fu[g.toNat]? = some (a, 1)) (hpl : pl < st.H.length) (hl : st.H.length + 2 < 60) (ew : σ[wo]? = some (.list Wl)) (hz : wo ≠ 0) (hk : wo ∉ keptL so r q) (hwl : Wl.length < 1000) {ρ : En} {Q : Fl → En → AH → Prop}
    (h0 : ρ 0 = some (.obj so)) (h6 : ρ 6 = some (.obj wo)) (h8 : ρ 8 = some (.int pl)) (h10 : ρ 10 = some (oneV g pt))
    (h : ∀ σ', Wd σ' so r { st with H := (st.H ++ [(6, g), (0, (st.H.length : Int) + 1)]).set pl (2, (st.H.length : Int)) } q tx fu → Same [r.h, wo] σ σ' → σ'.length = σ.length → σ'[wo]? = some (.list (Wl ++ [.tup [.int ((st.H.length : Int) + 1), .tup [pt.V]]])) →
      Q .next ((((ρ.put 4 (.str sS)).put 11 (cV (2, (st.H.length : Int))))).put 8 (.int ((pl : Int) + 1))) σ') : wSL P1 (callN P1 fns (m + 3)) ptBody ρ σ Q := by
  have i0 : itemAt σ (oneV g pt) (.int 0) = some (.str sS) := rfl
  have i1 : ∀ τ, itemAt τ (oneV g pt) (.int 1) = some (.int g) := fun _ => rfl
  have i2 : ∀ τ, itemAt τ (oneV g pt) (.int 2) = some (.tup [pt.V]) := fun _ => rfl
  simp [ptBody, ↓qq_nil, ↓qq_cons, ↓qs_assign, ↓qs_augLoc, ↓qs_augSub, ↓qs_expr, ↓qs_ite, ↓qs_while, ↓qs_range, ↓qs_for2, ↓qs_forL, ↓qs_forF, ↓qs_ret, ↓qs_retN, ↓qs_cont, ↓qs_pass, ↓qe_loc, ↓qe_kint, ↓qe_kstr, ↓qe_kbool, ↓qe_knone, ↓qe_glob, ↓qe_tup, ↓qe_list, ↓qe_dict0, ↓qe_attr, ↓qe_sub, ↓qe_slTo, ↓qe_cmp, ↓qe_boolop, ↓qe_not, ↓qe_neg, ↓qe_bin, ↓qe_ife, ↓qe_callF, ↓qe_callM, ↓qe_new, ↓qe_blt, ↓qe_meth, ↓qt_loc, ↓qt_tup, ↓qt_attr, ↓qt_sub, ↓ql_nil, ↓ql_cons, ↓qb_one, ↓qb_cons, cmpV, En.put, bindE, g0, g1, g2, g3, g4, g5, g6, g7, g8, eq_int, eq_cell, tup0, tup1, me7, me8, me9, me10, me11, me12, me13, me14, me15, me16, me17, me18, me19, me20, me21, me22, me23, ms0, ms2, ms3, ms5, -List.map_set, -List.map_append, -List.map_reverse, h0, h6, h8, h10, i0, i1, eqSV, eqSA, eqSI, show PySem.Str.ofString "v" = sV from rfl, show PySem.Str.ofString "a" = sA from rfl, show PySem.Str.ofString "i" = sI from rfl, W.v.cl]
  refine newblock_ok W g0 hg 1 rfl (by omega) fun σ₁ W1 s1 l1 => ?_
  have hH : st.H ++ (6, g) :: (List.range 1).map (fun i => ((0 : Int), ((st.H.length + 1 + i : Nat) : Int))) = st.H ++ [(6, g), (0, (st.H.length : Int) + 1)] := rfl
  rw [hH] at W1
  have hput := W1.v.hput (2, (st.H.length : Int)) (k := (pl : Int)) (by omega) (by simp; omega)
  simp only [Int.toNat_natCast] at hput
  have v2 := W1.v.setH (H' := (st.H ++ [(6, g), (0, (st.H.length : Int) + 1)]).set pl (2, (st.H.length : Int))) (by simp; omega)
  have hwh : wo ≠ r.h := fun z => hk (by simp [keptL, z])
  have ew1 : σ₁[wo]? = some (.list Wl) := s1.get _ _ (by simp [hwh]) ew
  have ew2 : (σ₁.set r.h (.list (((st.H ++ [(6, g), (0, (st.H.length : Int) + 1)]).set pl (2, (st.H.length : Int))).map cV)))[wo]? = some (.list Wl) := by rw [set_get, if_neg (Ne.symm hwh)]; exact ew1
  have W2 := W1.turn v2 (Same.set (by simp))
  simp only [W1.v.a6, hput, W2.v.cl, me20, h6, (list_mok ew2).1, true_and]
  have hl2 := W2.v.hl
  refine base_ok ?_
  have happ := list_app (u := .tup [.int ((st.H.length : Int) + 1), .tup [pt.V]]) ew2 hz (by omega)
  simp [↓qq_nil, ↓qq_cons, ↓qs_assign, ↓qs_augLoc, ↓qs_augSub, ↓qs_expr, ↓qs_ite, ↓qs_while, ↓qs_range, ↓qs_for2, ↓qs_forL, ↓qs_forF, ↓qs_ret, ↓qs_retN, ↓qs_cont, ↓qs_pass, ↓qe_loc, ↓qe_kint, ↓qe_kstr, ↓qe_kbool, ↓qe_knone, ↓qe_glob, ↓qe_tup, ↓qe_list, ↓qe_dict0, ↓qe_attr, ↓qe_sub, ↓qe_slTo, ↓qe_cmp, ↓qe_boolop, ↓qe_not, ↓qe_neg, ↓qe_bin, ↓qe_ife, ↓qe_callF, ↓qe_callM, ↓qe_new, ↓qe_blt, ↓qe_meth, ↓qt_loc, ↓qt_tup, ↓qt_attr, ↓qt_sub, ↓ql_nil, ↓ql_cons, ↓qb_one, ↓qb_cons, cmpV, En.put, bindE, g0, g1, g2, g3, g4, g5, g6, g7, g8, eq_int, eq_cell, tup0, tup1, me7, me8, me9, me10, me11, me12, me13, me14, me15, me16, me17, me18, me19, me20, me21, me22, me23, ms0, ms2, ms3, ms5, -List.map_set, -List.map_append, -List.map_reverse, i2, happ, h8, binV, baseP]
  have e1 : Same [r.h, wo] σ σ₁ := s1.weak fun i hi => by simp at hi; simp [hi]
  have e2 : Same [r.h, wo] σ₁ (σ₁.set r.h (.list (((st.H ++ [(6, g), (0, (st.H.length : Int) + 1)]).set pl (2, (st.H.length : Int))).map cV))) := .set (by simp)
  have W3 := W2.same (X := [wo]) (σ' := (σ₁.set r.h (.list (((st.H ++ [(6, g), (0, (st.H.length : Int) + 1)]).set pl (2, (st.H.length : Int))).map cV))).set wo (.list (Wl ++ [.tup [.int ((st.H.length : Int) + 1), .tup [pt.V]]]))) (.set (by simp)) (by intro i hi; simp only [List.mem_cons, List.not_mem_nil, or_false] at hi; subst hi; exact hk)
  exact h _ W3 ((e1.trans e2).trans (.set (by simp))) (by simp [l1]) (by rw [set_get, if_pos rfl, if_pos (lt_of_get ew2)])
end

end Mine
end

/-! C19 -/
noncomputable section
set_option maxHeartbeats 200000
open PySem
namespace Mine

noncomputable def ptC : E := (.cmp .lt (.loc 7) (.blt 0 (.cons (.loc 6) .nil)))
noncomputable def ptB : SL := (.cons (.assign (.tup [8, 9]) (.sub (.loc 6) (.loc 7))) (.cons (.augLoc 7 .add (.kint 1)) (.cons (.for_ (.loc 10) (.loc 9) ptBody) .nil)))
noncomputable def ptLoop : SL := (.cons (.while ptC ptB) (.cons (.ret (.loc 5)) .nil))
noncomputable def ptRest : SL := (.cons (.assign (.loc 4) (.sub (.loc 1) (.kint 0))) (.cons (.ite (.cmp .eq (.loc 4) (.kstr (PySem.Str.ofString "v"))) (.cons (.ite (.cmp .notIn (.sub (.loc 1) (.kint 1)) (.loc 2)) (.cons (.assign (.sub (.loc 2) (.sub (.loc 1) (.kint 1))) (.callM 8 (.loc 0) .nil)) .nil) .nil) (.cons (.ret (.sub (.loc 2) (.sub (.loc 1) (.kint 1)))) .nil)) .nil) (.cons (.ite (.cmp .eq (.loc 4) (.kstr (PySem.Str.ofString "a"))) (.cons (.ret (.tup (.cons (.glob 4) (.cons (.sub (.loc 1) (.kint 1)) .nil)))) .nil) .nil) (.cons (.ite (.cmp .eq (.loc 4) (.kstr (PySem.Str.ofString "i"))) (.cons (.ret (.tup (.cons (.glob 5) (.cons (.sub (.loc 1) (.kint 1)) .nil)))) .nil) .nil) (.cons (.assign (.loc 5) (.callM 21 (.loc 0) (.cons (.sub (.loc 1) (.kint 1)) .nil))) (.cons (.assign (.loc 6) (.list (.cons (.tup (.cons (.callM 20 (.loc 0) (.cons (.loc 5) .nil)) (.cons (.sub (.loc 1) (.kint 2)) .nil))) .nil))) (.cons (.assign (.loc 7) (.kint 0)) ptLoop)))))))
noncomputable def ptFirst : S := (.for_ (.loc 3) (.blt 2 (.cons (.loc 2) .nil)) (.cons (.ite (.cmp .eq (.sub (.sub (.loc 2) (.loc 3)) (.kint 0)) (.glob 1)) (.cons (.assign (.sub (.loc 2) (.loc 3)) (.callM 14 (.loc 0) (.cons (.sub (.loc 2) (.loc 3)) .nil))) .nil) .nil) .nil))
theorem pt_split : f_Store_put_term.body = .cons ptFirst ptRest := rfl

section
variable {m : Nat} {σ σ' : AH} {sy so : Nat} {r : Rc} {st : St} {q : Rs} {tx : List PySem.Str} {fu : List (Int × Int)} {to wo : Nat} {cf : Cf}

theorem pt_first (e : σ[to]? = some tabD) {ρ : En} {Q : Fl → En → AH → Prop} (h2 : ρ 2 = some (.obj to)) (h : ∀ ρ', (∀ i, i ≠ 3 → ρ' i = ρ i) → Q .next ρ' (σ ++ [.list [.int 0, .int 1, .int 2, .int 3]])) : wS P1 cf ptFirst ρ σ Q := by
  have b : bltV σ 2 [.obj to] = some (.obj σ.length, σ ++ [.list [.int 0, .int 1, .int 2, .int 3]]) := by
    simp only [bltV, e, tabD]
    rfl
  have e1 : (σ ++ [AObj.list [.int 0, .int 1, .int 2, .int 3]])[to]? = some tabD := by rw [List.getElem?_append_left (lt_of_get e)]; exact e
  have t0 : itemAt (σ ++ [AObj.list [.int 0, .int 1, .int 2, .int 3]]) (.obj to) (.int 0) = some (cV (0, 0)) := (tab_at e1 (k := 0) (by decide)).1
  have t1 : itemAt (σ ++ [AObj.list [.int 0, .int 1, .int 2, .int 3]]) (.obj to) (.int 1) = some (cV (0, 1)) := (tab_at e1 (k := 1) (by decide)).1
  have t2 : itemAt (σ ++ [AObj.list [.int 0, .int 1, .int 2, .int 3]]) (.obj to) (.int 2) = some (cV (0, 2)) := (tab_at e1 (k := 2) (by decide)).1
  have t3 : itemAt (σ ++ [AObj.list [.int 0, .int 1, .int 2, .int 3]]) (.obj to) (.int 3) = some (cV (0, 3)) := (tab_at e1 (k := 3) (by decide)).1
  simp [ptFirst, ↓qq_nil, ↓qq_cons, ↓qs_assign, ↓qs_augLoc, ↓qs_augSub, ↓qs_expr, ↓qs_ite, ↓qs_while, ↓qs_range, ↓qs_for2, ↓qs_forL, ↓qs_forF, ↓qs_ret, ↓qs_retN, ↓qs_cont, ↓qs_pass, ↓qe_loc, ↓qe_kint, ↓qe_kstr, ↓qe_kbool, ↓qe_knone, ↓qe_glob, ↓qe_tup, ↓qe_list, ↓qe_dict0, ↓qe_attr, ↓qe_sub, ↓qe_slTo, ↓qe_cmp, ↓qe_boolop, ↓qe_not, ↓qe_neg, ↓qe_bin, ↓qe_ife, ↓qe_callF, ↓qe_callM, ↓qe_new, ↓qe_blt, ↓qe_meth, ↓qt_loc, ↓qt_tup, ↓qt_attr, ↓qt_sub, ↓ql_nil, ↓ql_cons, ↓qb_one, ↓qb_cons, cmpV, En.put, bindE, g0, g1, g2, g3, g4, g5, g6, g7, g8, eq_int, eq_cell, tup0, tup1, me7, me8, me9, me10, me11, me12, me13, me14, me15, me16, me17, me18, me19, me20, me21, me22, me23, ms0, ms2, ms3, ms5, -List.map_set, -List.map_append, -List.map_reverse, h2, b, iterV, forGo, stays, t0, t1, t2, t3]
  refine h _ ?_
  intro i hi
  simp [En.put, hi]

theorem ptC_ok {Wl : List Mine.V} {k : Nat} (ew : σ[wo]? = some (.list Wl)) (hl : Wl.length < 1000) {ρ : En} {R : Mine.V → AH → Prop} (h6 : ρ 6 = some (.obj wo)) (h7 : ρ 7 = some (.int k)) (h : R (.bool (decide (k < Wl.length))) σ) : wE P1 cf ptC ρ σ R := by
  have hb := list_len ew (by omega)
  have hc : cmpV σ .lt (.int k) (.int Wl.length) = some (decide (k < Wl.length)) := by
    show some (decide _) = _
    congr 1
    exact decide_eq_decide.mpr (by omega)
  simp only [ptC, ↓qe_loc, ↓qe_kint, ↓qe_kstr, ↓qe_kbool, ↓qe_knone, ↓qe_glob, ↓qe_tup, ↓qe_list, ↓qe_dict0, ↓qe_attr, ↓qe_sub, ↓qe_slTo, ↓qe_cmp, ↓qe_boolop, ↓qe_not, ↓qe_neg, ↓qe_bin, ↓qe_ife, ↓qe_callF, ↓qe_callM, ↓qe_new, ↓qe_blt, ↓qe_meth, ↓ql_nil, ↓ql_cons, h6, h7, hb, hc]
  exact h
theorem ptB_ok {Wl : List Mine.V} {k pl : Nat} {items : List Mine.V} (ew : σ[wo]? = some (.list Wl)) (hl : Wl.length < 1000) (hk : Wl[k]? = some (.tup [.int pl, .tup items])) {ρ : En} {R : Fl → En → AH → Prop} (h6 : ρ 6 = some (.obj wo)) (h7 : ρ 7 = some (.int k))
    (h : forGo items (.tup items) (wT P1 cf (.loc 10)) (wSL P1 cf ptBody) items (((ρ.put 8 (.int pl)).put 9 (.tup items)).put 7 (.int ((k + 1 : Nat) : Int))) σ (fun f ρ' σ' => match f with | .next => R .next ρ' σ' | f => R f ρ' σ')) : wSL P1 cf ptB ρ σ R := by
  have hkl := (List.getElem?_eq_some_iff.mp hk).1
  have hi := list_item (k := (k : Int)) ew (by omega) (by omega) (by simpa using hk)
  simp only [ptB, ↓qq_nil, ↓qq_cons, ↓qs_assign, ↓qs_augLoc, ↓qs_augSub, ↓qs_expr, ↓qs_ite, ↓qs_while, ↓qs_range, ↓qs_for2, ↓qs_forL, ↓qs_forF, ↓qs_ret, ↓qs_retN, ↓qs_cont, ↓qs_pass, ↓qe_loc, ↓qe_kint, ↓qe_kstr, ↓qe_kbool, ↓qe_knone, ↓qe_glob, ↓qe_tup, ↓qe_list, ↓qe_dict0, ↓qe_attr, ↓qe_sub, ↓qe_slTo, ↓qe_cmp, ↓qe_boolop, ↓qe_not, ↓qe_neg, ↓qe_bin, ↓qe_ife, ↓qe_callF, ↓qe_callM, ↓qe_new, ↓qe_blt, ↓qe_meth, ↓qt_loc, ↓qt_tup, ↓qt_attr, ↓qt_sub, h6, h7, hi, putAll, iterV]
  have h7' : ((ρ.put 8 (.int pl)).put 9 (.tup items)) 7 = some (.int k) := by simp [En.put, h7]
  simp only [h7', binV]
  have h9 : (((ρ.put 8 (.int pl)).put 9 (.tup items)).put 7 (.int ((k + 1 : Nat) : Int))) 9 = some (.tup items) := by simp [En.put]
  simp only [show (k : Int) + 1 = ((k + 1 : Nat) : Int) from rfl, h9]
  exact h
theorem pt_stop {Wl : List Mine.V} {k n : Nat} (ew : σ[wo]? = some (.list Wl)) (hl : Wl.length < 1000) (hk : Wl.length ≤ k) {ρ : En} {Q : Fl → En → AH → Prop} (h6 : ρ 6 = some (.obj wo)) (h7 : ρ 7 = some (.int k)) (h : Q .next ρ σ) : whileGo (wE P1 cf ptC) (wSL P1 cf ptB) (n + 1) ρ σ Q := by
  show wE P1 cf ptC ρ σ _
  refine ptC_ok ew hl h6 h7 ?_
  rw [decide_eq_false (by omega)]
  exact h
theorem pt_step {Wl : List Mine.V} {k n pl : Nat} {items : List Mine.V} (ew : σ[wo]? = some (.list Wl)) (hl : Wl.length < 1000) (hk : Wl[k]? = some (.tup [.int pl, .tup items])) {ρ : En} {Q : Fl → En → AH → Prop} (h6 : ρ 6 = some (.obj wo)) (h7 : ρ 7 = some (.int k))
    (h : forGo items (.tup items) (wT P1 cf (.loc 10)) (wSL P1 cf ptBody) items (((ρ.put 8 (.int pl)).put 9 (.tup items)).put 7 (.int ((k + 1 : Nat) : Int))) σ (fun f ρ' σ' => match f with | .next => whileGo (wE P1 cf ptC) (wSL P1 cf ptB) n ρ' σ' Q | f => match f with | .ret u => Q (.ret u) ρ' σ' | _ => whileGo (wE P1 cf ptC) (wSL P1 cf ptB) n ρ' σ' Q)) : whileGo (wE P1 cf ptC) (wSL P1 cf ptB) (n + 1) ρ σ Q := by
  show wE P1 cf ptC ρ σ _
  refine ptC_ok ew hl h6 h7 ?_
  have hkl := (List.getElem?_eq_some_iff.mp hk).1
  rw [decide_eq_true hkl]
  exact ptB_ok ew hl hk h6 h7 h

/-- the waiting list after the head of put_term -/
theorem pt_head (W : Wd σ so r st q tx fu) {g : Int} {a : Int} {n : Nat} {items : List Mine.V} (g0 : 0 < g) (hg : fu[g.toNat]? = some (a, (n : Int))) (hl : st.H.length + (n + 1) < 60) {ρ : En} {Q : Fl → En → AH → Prop}
    (h0 : ρ 0 = some (.obj so)) (h1 : ρ 1 = some (.tup [.str sS, .int g, .tup items])) (hi : ∀ τ, itemAt τ (.tup [.str sS, .int g, .tup items]) (.int 1) = some (.int g))
    (h : ∀ σ₁, Wd σ₁ so r { st with H := st.H ++ (6, g) :: (List.range n).map fun i => (0, ((st.H.length + 1 + i : Nat) : Int)) } q tx fu → Same [r.h] σ σ₁ → σ₁.length = σ.length →
      wSL P1 (callN P1 fns (m + 2)) ptLoop ((((ρ.put 4 (.str sS)).put 5 (cV (2, (st.H.length : Int)))).put 6 (.obj σ₁.length)).put 7 (.int 0)) (σ₁ ++ [.list [.tup [.int ((st.H.length : Int) + 1), .tup items]]]) Q) : wSL P1 (callN P1 fns (m + 2)) ptRest ρ σ Q := by
  have i0 : itemAt σ (.tup [.str sS, .int g, .tup items]) (.int 0) = some (.str sS) := rfl
  have i2 : ∀ τ, itemAt τ (.tup [.str sS, .int g, .tup items]) (.int 2) = some (.tup items) := fun _ => rfl
  generalize hL : ptLoop = L at h
  unfold ptRest
  rw [hL]
  simp [↓qq_nil, ↓qq_cons, ↓qs_assign, ↓qs_augLoc, ↓qs_augSub, ↓qs_expr, ↓qs_ite, ↓qs_while, ↓qs_range, ↓qs_for2, ↓qs_forL, ↓qs_forF, ↓qs_ret, ↓qs_retN, ↓qs_cont, ↓qs_pass, ↓qe_loc, ↓qe_kint, ↓qe_kstr, ↓qe_kbool, ↓qe_knone, ↓qe_glob, ↓qe_tup, ↓qe_list, ↓qe_dict0, ↓qe_attr, ↓qe_sub, ↓qe_slTo, ↓qe_cmp, ↓qe_boolop, ↓qe_not, ↓qe_neg, ↓qe_bin, ↓qe_ife, ↓qe_callF, ↓qe_callM, ↓qe_new, ↓qe_blt, ↓qe_meth, ↓qt_loc, ↓qt_tup, ↓qt_attr, ↓qt_sub, ↓ql_nil, ↓ql_cons, ↓qb_one, ↓qb_cons, cmpV, En.put, bindE, g0, g1, g2, g3, g4, g5, g6, g7, g8, eq_int, eq_cell, tup0, tup1, me7, me8, me9, me10, me11, me12, me13, me14, me15, me16, me17, me18, me19, me20, me21, me22, me23, ms0, ms2, ms3, ms5, -List.map_set, -List.map_append, -List.map_reverse, h0, h1, i0, hi, eqSV, eqSA, eqSI, show PySem.Str.ofString "v" = sV from rfl, show PySem.Str.ofString "a" = sA from rfl, show PySem.Str.ofString "i" = sI from rfl, W.v.cl]
  refine newblock_ok W g0 hg n rfl hl fun σ₁ W1 s1 l1 => ?_
  simp only [W1.v.cl, me20]
  refine base_ok ?_
  simp [↓qq_nil, ↓qq_cons, ↓qs_assign, ↓qs_augLoc, ↓qs_augSub, ↓qs_expr, ↓qs_ite, ↓qs_while, ↓qs_range, ↓qs_for2, ↓qs_forL, ↓qs_forF, ↓qs_ret, ↓qs_retN, ↓qs_cont, ↓qs_pass, ↓qe_loc, ↓qe_kint, ↓qe_kstr, ↓qe_kbool, ↓qe_knone, ↓qe_glob, ↓qe_tup, ↓qe_list, ↓qe_dict0, ↓qe_attr, ↓qe_sub, ↓qe_slTo, ↓qe_cmp, ↓qe_boolop, ↓qe_not, ↓qe_neg, ↓qe_bin, ↓qe_ife, ↓qe_callF, ↓qe_callM, ↓qe_new, ↓qe_blt, ↓qe_meth, ↓qt_loc, ↓qt_tup, ↓qt_attr, ↓qt_sub, ↓ql_nil, ↓ql_cons, ↓qb_one, ↓qb_cons, cmpV, En.put, bindE, g0, g1, g2, g3, g4, g5, g6, g7, g8, eq_int, eq_cell, tup0, tup1, me7, me8, me9, me10, me11, me12, me13, me14, me15, me16, me17, me18, me19, me20, me21, me22, me23, ms0, ms2, ms3, ms5, -List.map_set, -List.map_append, -List.map_reverse, i2]
  exact h σ₁ W1 s1 l1

theorem put_g (W : Wd σ so r st q tx fu) (e : σ[to]? = some tabD) {g : Int} {a : Int} {pt : Pt} (hp : pt.ok) (g0 : 0 < g) (hg : fu[g.toNat]? = some (a, 1)) (hl : st.H.length + 2 < 60) {Q : Mine.V → AH → Prop}
    (h : ∀ σ', Wd σ' so r { st with H := st.H ++ [(6, g), pt.cell] } q tx fu → Same [r.h] σ σ' → Q (cV (2, (st.H.length : Int))) σ') : callN P1 fns (m + 3) 26 [.obj so, oneV g pt, .obj to] σ Q := by
  refine call_of (fn := f_Store_put_term) rfl rfl ?_
  rw [pt_split]
  refine pt_first e rfl fun ρ1 hρ => ?_
  have b0 : ρ1 0 = some (.obj so) := by rw [hρ 0 (by decide)]; rfl
  have b1 : ρ1 1 = some (oneV g pt) := by rw [hρ 1 (by decide)]; rfl
  have b2 : ρ1 2 = some (.obj to) := by rw [hρ 2 (by decide)]; rfl
  have s0 : Same [r.h] σ (σ ++ [AObj.list [.int 0, .int 1, .int 2, .int 3]]) := .app _
  have W0 : Wd (σ ++ [AObj.list [.int 0, .int 1, .int 2, .int 3]]) so r st q tx fu := W.same (X := []) (.app _) (by simp)
  refine pt_head W0 g0 (n := 1) hg (by omega) b0 b1 (fun _ => rfl) fun σ₁ W1 s1 l1 => ?_
  have hH : st.H ++ (6, g) :: (List.range 1).map (fun i => ((0 : Int), ((st.H.length + 1 + i : Nat) : Int))) = st.H ++ [(6, g), (0, (st.H.length : Int) + 1)] := rfl
  rw [hH] at W1
  have hto : to ≠ r.h := ne_of_get e W.v.h (fun h => nomatch h)
  have e1 : σ₁[to]? = some tabD := (s0.trans s1).get _ _ (by simp [hto]) e
  have lr := lt_of_get W1.v.h
  have s2 : Same [r.h] σ₁ (σ₁ ++ [AObj.list [.tup [.int ((st.H.length : Int) + 1), .tup [pt.V]]]]) := .app _
  have W2 : Wd (σ₁ ++ [AObj.list [.tup [.int ((st.H.length : Int) + 1), .tup [pt.V]]]]) so r { st with H := st.H ++ [(6, g), (0, (st.H.length : Int) + 1)] } q tx fu := W1.same (X := []) (.app _) (by simp)
  have e2 := s2.get _ _ (by simp [hto]) e1
  have ew : (σ₁ ++ [AObj.list [.tup [.int ((st.H.length : Int) + 1), .tup [pt.V]]]])[σ₁.length]? = some (.list [.tup [.int ((st.H.length : Int) + 1), .tup [pt.V]]]) := by simp
  generalize hσ : σ₁ ++ [AObj.list [.tup [.int ((st.H.length : Int) + 1), .tup [pt.V]]]] = σ₂ at *
  refine ⟨2, ?_⟩
  refine pt_step (k := 0) (pl := st.H.length + 1) (items := [pt.V]) ew (by simp) rfl (by simp [En.put]) (by simp [En.put]) ?_
  refine ⟨trivial, ?_⟩
  refine leaf_body W2.v e2 (pl := st.H.length + 1) hp (by simp) (by simp [En.put, b0]) (by simp [En.put, b2]) (by simp [En.put]) (by simp [En.put]) fun v3 => ?_
  have hset : (st.H ++ [(6, g), (0, (st.H.length : Int) + 1)]).set (st.H.length + 1) pt.cell = st.H ++ [(6, g), pt.cell] := by
    rw [List.set_append_right _ _ (by omega)]
    simp
  dsimp only at v3 ⊢
  rw [hset] at v3 ⊢
  have s3 : Same [r.h] σ₂ (σ₂.set r.h (.list ((st.H ++ [(6, g), pt.cell]).map cV))) := .set (by simp)
  refine ⟨trivial, ?_⟩
  have ew3 := s3.get _ _ (show σ₁.length ∉ [r.h] by simp; omega) ew
  refine pt_stop (k := 1) ew3 (by simp) (by simp) (by simp [En.put]) (by simp [En.put]) ?_
  simp [↓qq_nil, ↓qq_cons, ↓qs_assign, ↓qs_augLoc, ↓qs_augSub, ↓qs_expr, ↓qs_ite, ↓qs_while, ↓qs_range, ↓qs_for2, ↓qs_forL, ↓qs_forF, ↓qs_ret, ↓qs_retN, ↓qs_cont, ↓qs_pass, ↓qe_loc, ↓qe_kint, ↓qe_kstr, ↓qe_kbool, ↓qe_knone, ↓qe_glob, ↓qe_tup, ↓qe_list, ↓qe_dict0, ↓qe_attr, ↓qe_sub, ↓qe_slTo, ↓qe_cmp, ↓qe_boolop, ↓qe_not, ↓qe_neg, ↓qe_bin, ↓qe_ife, ↓qe_callF, ↓qe_callM, ↓qe_new, ↓qe_blt, ↓qe_meth, ↓qt_loc, ↓qt_tup, ↓qt_attr, ↓qt_sub, ↓ql_nil, ↓ql_cons, ↓qb_one, ↓qb_cons, cmpV, En.put, bindE, g0, g1, g2, g3, g4, g5, g6, g7, g8, eq_int, eq_cell, tup0, tup1, me7, me8, me9, me10, me11, me12, me13, me14, me15, me16, me17, me18, me19, me20, me21, me22, me23, ms0, ms2, ms3, ms5, -List.map_set, -List.map_append, -List.map_reverse]
  exact h _ (W2.turn v3 (s3.weak (by simp))) (((s0.trans s1).trans s2).trans s3)
end

end Mine
end

/-! C20 -/
noncomputable section
set_option maxHeartbeats 200000
open PySem
namespace Mine

section
variable {m : Nat} {σ σ' : AH} {sy so : Nat} {r : Rc} {st : St} {q : Rs} {tx : List PySem.Str} {fu : List (Int × Int)} {to wo : Nat} {cf : Cf}

theorem Wd.lt (W : Wd σ so r st q tx fu) : ∀ i ∈ keptL so r q, i < σ.length := kept_lt W
noncomputable def twoV (h g : Int) (p1 p2 : Pt) : Mine.V := .tup [.str sS, .int h, .tup [oneV g p1, p2.V]]

theorem put_h (W : Wd σ so r st q tx fu) (e : σ[to]? = some tabD) {g gh : Int} {a a2 : Int} {p1 p2 : Pt} (hp1 : p1.ok) (hp2 : p2.ok) (g0 : 0 < g) (hg : fu[g.toNat]? = some (a, 1)) (gh0 : 0 < gh) (hgh : fu[gh.toNat]? = some (a2, 2)) (hl : st.H.length + 5 < 60) {Q : Mine.V → AH → Prop}
    (h : ∀ σ', Wd σ' so r { st with H := st.H ++ [(6, gh), (2, (st.H.length : Int) + 3), p2.cell, (6, g), p1.cell] } q tx fu → Same [r.h] σ σ' → Q (cV (2, (st.H.length : Int))) σ') : callN P1 fns (m + 4) 26 [.obj so, twoV gh g p1 p2, .obj to] σ Q := by
  refine call_of (fn := f_Store_put_term) rfl rfl ?_
  rw [pt_split]
  refine pt_first e rfl fun ρ1 hρ => ?_
  have b0 : ρ1 0 = some (.obj so) := by rw [hρ 0 (by decide)]; rfl
  have b1 : ρ1 1 = some (twoV gh g p1 p2) := by rw [hρ 1 (by decide)]; rfl
  have b2 : ρ1 2 = some (.obj to) := by rw [hρ 2 (by decide)]; rfl
  have s0 : Same [r.h] σ (σ ++ [AObj.list [.int 0, .int 1, .int 2, .int 3]]) := .app _
  have W0 : Wd (σ ++ [AObj.list [.int 0, .int 1, .int 2, .int 3]]) so r st q tx fu := W.same (X := []) (.app _) (by simp)
  refine pt_head (m := m + 1) W0 gh0 (n := 2) hgh (by omega) b0 b1 (fun _ => rfl) fun σ₁ W1 s1 l1 => ?_
  have hH : st.H ++ (6, gh) :: (List.range 2).map (fun i => ((0 : Int), ((st.H.length + 1 + i : Nat) : Int))) = st.H ++ [(6, gh), (0, (st.H.length : Int) + 1), (0, (st.H.length : Int) + 2)] := by
    show st.H ++ [(6, gh), (0, ((st.H.length + 1 + 0 : Nat) : Int)), (0, ((st.H.length + 1 + 1 : Nat) : Int))] = _
    congr 4
  rw [hH] at W1
  have hto : to ≠ r.h := ne_of_get e W.v.h (fun h => nomatch h)
  have e1 : σ₁[to]? = some tabD := (s0.trans s1).get _ _ (by simp [hto]) e
  have lr := lt_of_get W1.v.h
  have kl : ∀ i ∈ keptL so r q, i < σ₁.length := W1.lt
  have s2 : Same [r.h] σ₁ (σ₁ ++ [AObj.list [.tup [.int ((st.H.length : Int) + 1), .tup [oneV g p1, p2.V]]]]) := .app _
  have W2 : Wd (σ₁ ++ [AObj.list [.tup [.int ((st.H.length : Int) + 1), .tup [oneV g p1, p2.V]]]]) so r { st with H := st.H ++ [(6, gh), (0, (st.H.length : Int) + 1), (0, (st.H.length : Int) + 2)] } q tx fu := W1.same (X := []) (.app _) (by simp)
  have e2 := s2.get _ _ (by simp [hto]) e1
  have lto := lt_of_get e1
  have ew : (σ₁ ++ [AObj.list [.tup [.int ((st.H.length : Int) + 1), .tup [oneV g p1, p2.V]]]])[σ₁.length]? = some (.list [.tup [.int ((st.H.length : Int) + 1), .tup [oneV g p1, p2.V]]]) := by simp
  generalize hσ : σ₁ ++ [AObj.list [.tup [.int ((st.H.length : Int) + 1), .tup [oneV g p1, p2.V]]]] = σ₂ at *
  refine ⟨3, ?_⟩
  refine pt_step (k := 0) (pl := st.H.length + 1) (items := [oneV g p1, p2.V]) ew (by simp) rfl (by simp [En.put]) (by simp [En.put]) ?_
  refine ⟨trivial, ?_⟩
  refine inner_body (m := m) (pt := p1) (wo := σ₁.length) W2 g0 hg (pl := st.H.length + 1) (by simp) (by simp; omega) ew (by omega) (fun hm => Nat.lt_irrefl _ (kl _ hm)) (by simp) (by simp [En.put, b0]) (by simp [En.put]) (by simp [En.put]) (by simp [En.put]) fun σ₃ W3 s3 l3 ew3 => ?_
  have hset3 : ((st.H ++ [((6 : Int), gh), (0, (st.H.length : Int) + 1), (0, (st.H.length : Int) + 2)]) ++ [((6 : Int), g), (0, ((st.H ++ [((6 : Int), gh), (0, (st.H.length : Int) + 1), (0, (st.H.length : Int) + 2)]).length : Int) + 1)]).set (st.H.length + 1) (2, ((st.H ++ [((6 : Int), gh), (0, (st.H.length : Int) + 1), (0, (st.H.length : Int) + 2)]).length : Int)) = st.H ++ [(6, gh), (2, (st.H.length : Int) + 3), (0, (st.H.length : Int) + 2), (6, g), (0, (st.H.length : Int) + 4)] := by
    rw [List.append_assoc, List.set_append_right _ _ (by omega)]
    simp
    omega
  have hlen3 : ((st.H ++ [((6 : Int), gh), (0, (st.H.length : Int) + 1), (0, (st.H.length : Int) + 2)]).length : Int) + 1 = ((st.H.length + 4 : Nat) : Int) := by simp; omega
  dsimp only at W3 ew3
  rw [hset3] at W3
  rw [hlen3] at ew3
  have n3 : to ∉ [r.h, σ₁.length] := by
    simp only [List.mem_cons, List.not_mem_nil, or_false, not_or]
    exact ⟨hto, by omega⟩
  have e3 := s3.get _ _ n3 e2
  refine ⟨trivial, ?_⟩
  refine leaf_body W3.v e3 (pl := st.H.length + 2) (pt := p2) hp2 (by simp) (by simp [En.put, b0]) (by simp [En.put, b2]) (by simp [En.put]; omega) (by simp [En.put]) fun v4 => ?_
  have hset4 : (st.H ++ [((6 : Int), gh), (2, (st.H.length : Int) + 3), (0, (st.H.length : Int) + 2), (6, g), (0, (st.H.length : Int) + 4)]).set (st.H.length + 2) p2.cell = st.H ++ [(6, gh), (2, (st.H.length : Int) + 3), p2.cell, (6, g), (0, (st.H.length : Int) + 4)] := by
    rw [List.set_append_right _ _ (by omega)]
    simp
  dsimp only at v4 ⊢
  rw [hset4] at v4 ⊢
  have s4 : Same [r.h] σ₃ (σ₃.set r.h (.list ((st.H ++ [(6, gh), (2, (st.H.length : Int) + 3), p2.cell, (6, g), (0, (st.H.length : Int) + 4)]).map cV))) := .set (by simp)
  have W4 := W3.turn v4 (s4.weak (by simp))
  have e4 := s4.get _ _ (by simp [hto]) e3
  have ew4 := s4.get _ _ (show σ₁.length ∉ [r.h] by simp; omega) ew3
  generalize hσ4 : σ₃.set r.h (.list ((st.H ++ [(6, gh), (2, (st.H.length : Int) + 3), p2.cell, (6, g), (0, (st.H.length : Int) + 4)]).map cV)) = σ₄ at *
  refine ⟨trivial, ?_⟩
  refine pt_step (k := 1) (pl := st.H.length + 4) (items := [p1.V]) ew4 (by simp) rfl (by simp [En.put]) (by simp [En.put]) ?_
  refine ⟨trivial, ?_⟩
  refine leaf_body W4.v e4 (pl := st.H.length + 4) (pt := p1) hp1 (by simp) (by simp [En.put, b0]) (by simp [En.put, b2]) (by simp [En.put]) (by simp [En.put]) fun v5 => ?_
  have hset5 : (st.H ++ [((6 : Int), gh), (2, (st.H.length : Int) + 3), p2.cell, (6, g), (0, (st.H.length : Int) + 4)]).set (st.H.length + 4) p1.cell = st.H ++ [(6, gh), (2, (st.H.length : Int) + 3), p2.cell, (6, g), p1.cell] := by
    rw [List.set_append_right _ _ (by omega)]
    simp
  dsimp only at v5 ⊢
  rw [hset5] at v5 ⊢
  have s5 : Same [r.h] σ₄ (σ₄.set r.h (.list ((st.H ++ [(6, gh), (2, (st.H.length : Int) + 3), p2.cell, (6, g), p1.cell]).map cV))) := .set (by simp)
  refine ⟨trivial, ?_⟩
  have ew5 := s5.get _ _ (show σ₁.length ∉ [r.h] by simp; omega) ew4
  refine pt_stop (k := 2) ew5 (by simp) (by simp) (by simp [En.put]) (by simp [En.put]) ?_
  simp [↓qq_nil, ↓qq_cons, ↓qs_assign, ↓qs_augLoc, ↓qs_augSub, ↓qs_expr, ↓qs_ite, ↓qs_while, ↓qs_range, ↓qs_for2, ↓qs_forL, ↓qs_forF, ↓qs_ret, ↓qs_retN, ↓qs_cont, ↓qs_pass, ↓qe_loc, ↓qe_kint, ↓qe_kstr, ↓qe_kbool, ↓qe_knone, ↓qe_glob, ↓qe_tup, ↓qe_list, ↓qe_dict0, ↓qe_attr, ↓qe_sub, ↓qe_slTo, ↓qe_cmp, ↓qe_boolop, ↓qe_not, ↓qe_neg, ↓qe_bin, ↓qe_ife, ↓qe_callF, ↓qe_callM, ↓qe_new, ↓qe_blt, ↓qe_meth, ↓qt_loc, ↓qt_tup, ↓qt_attr, ↓qt_sub, ↓ql_nil, ↓ql_cons, ↓qb_one, ↓qb_cons, cmpV, En.put, bindE, g0, g1, g2, g3, g4, g5, g6, g7, g8, eq_int, eq_cell, tup0, tup1, me7, me8, me9, me10, me11, me12, me13, me14, me15, me16, me17, me18, me19, me20, me21, me22, me23, ms0, ms2, ms3, ms5, -List.map_set, -List.map_append, -List.map_reverse]
  have hfar : σ.length ≤ σ₁.length := by simp at l1; omega
  have t1 : Same [r.h] σ σ₁ := s0.trans s1
  have t2 : Same [r.h] σ σ₂ := t1.trans s2
  have t3 : Same [r.h] σ σ₃ := by
    have : Same [r.h, σ₁.length] σ σ₃ := (t2.weak (by simp)).trans s3
    exact this.strong fun i hi => by
      simp only [List.mem_cons, List.not_mem_nil, or_false] at hi
      rcases hi with rfl | rfl
      · exact Or.inl (by simp)
      · exact Or.inr hfar
  exact h _ (W4.turn v5 (s5.weak (by simp))) ((t3.trans s4).trans s5)
end

end Mine
end

/-! C21 -/
noncomputable section
set_option maxHeartbeats 200000
open PySem
namespace Mine

/-- the names as the scenes leave them -/
noncomputable def syK : Nat → List PySem.Str × List (Int × Int)
  | 0 => (tx0, fu0)
  | 1 => (funcP tx0 fu0 sG 1).2
  | _ => (funcP (funcP tx0 fu0 sG 1).2.1 (funcP tx0 fu0 sG 1).2.2 sH 2).2
theorem syK_g : ∀ k ≤ 2, funcP (syK k).1 (syK k).2 sG 1 = (32, syK (max k 1)) ∧ (syK (max k 1)).2[32]? = some (((numP (syK k).1 sG).1 : Int), 1) ∧ (syK k).1.length < 100 ∧ (syK k).2.length < 100 := by
  intro k hk
  have : k = 0 ∨ k = 1 ∨ k = 2 := by omega
  rcases this with h | h | h <;> subst h <;> decide +kernel
theorem syK_h : ∀ k ≤ 2, 1 ≤ k → funcP (syK k).1 (syK k).2 sH 2 = (33, syK 2) ∧ (syK 2).2[33]? = some (((numP (syK k).1 sH).1 : Int), 2) ∧ (syK 2).2[32]? = some (((numP (syK k).1 sG).1 : Int), 1) := by
  intro k hk hk1
  have : k = 1 ∨ k = 2 := by omega
  rcases this with h | h <;> subst h <;> decide +kernel

noncomputable def sideP (xs : List Int) (p : Nat) (st : St) (k : Nat) : Cell × St × Nat × Nat :=
  if dipP xs p 5 = 0 then ((1, dipP xs (p + 1) 3), st, p + 2, k)
  else if dipP xs p 5 = 1 then ((0, dipP xs (p + 1) 4), st, p + 2, k)
  else if dipP xs p 5 = 2 then ((2, (st.H.length : Int)), { st with H := st.H ++ [(6, 32), (partP xs (p + 1)).cell] }, p + 2, max k 1)
  else ((2, (st.H.length : Int)), { st with H := st.H ++ [(6, 33), (2, (st.H.length : Int) + 3), (partP xs (p + 2)).cell, (6, 32), (partP xs (p + 1)).cell] }, p + 3, 2)

section
variable {m : Nat} {σ σ' : AH} {sy so : Nat} {r : Rc} {st : St} {q : Rs} {to jo lo : Nat} {xs : List Int} {p k : Nat} {Q : Mine.V → AH → Prop}

theorem Wd.func (W : Wd σ so r st q (syK k).1 (syK k).2) {k' : Nat} {σ'} (y : SyView σ' r.sy q (syK k').1 (syK k').2) (s : Same (syL q) σ σ') : Wd σ' so r st q (syK k').1 (syK k').2 := by
  have off : ∀ {i : Nat}, i ∉ [q.tx, q.fu] → i ≠ q.an → i ≠ q.fn → i ∉ syL q := fun h1 h2 h3 hm => by
    rcases List.mem_cons.mp hm with e | hm
    · exact h1 (e ▸ .head _)
    rcases List.mem_cons.mp hm with e | hm
    · exact h2 e
    rcases List.mem_cons.mp hm with e | hm
    · exact h1 (e ▸ .tail _ (.head _))
    · exact h3 (List.mem_singleton.mp hm)
  have two : ∀ {i : Nat}, i ≠ q.tx → i ≠ q.fu → i ∉ [q.tx, q.fu] := fun h1 h2 hm => by
    rcases List.mem_cons.mp hm with e | hm
    · exact h1 e
    · exact h2 (List.mem_singleton.mp hm)
  have lst : ∀ {i : Nat} {xs : List V}, σ[i]? = some (.list xs) → i ∉ [q.tx, q.fu] → i ∉ syL q := fun e h => off h (ne_of_get e W.y.an (fun h => nomatch h)) (ne_of_get e W.y.fn (fun h => nomatch h))
  exact ⟨W.v.same s (off (two (ne_of_get W.v.inst W.y.ltx (fun h => nomatch h)) (ne_of_get W.v.inst W.y.lfu (fun h => nomatch h))) (ne_of_get W.v.inst W.y.an (fun h => nomatch h)) (ne_of_get W.v.inst W.y.fn (fun h => nomatch h)))
    (off (two (ne_of_get W.v.ns W.y.ltx (fun h => nomatch h)) (ne_of_get W.v.ns W.y.lfu (fun h => nomatch h))) (ne_of_get W.v.ns W.y.an (fun h => nomatch h)) (ne_of_get W.v.ns W.y.fn (fun h => nomatch h)))
    (lst W.v.h (W.dj _ (.head _))) (lst W.v.s (W.dj _ (.tail _ (.head _)))) (lst W.v.t (W.dj _ (.tail _ (.tail _ (.head _))))), y, W.dj⟩
end

end Mine
end

/-! C22 -/
noncomputable section
set_option maxHeartbeats 200000
open PySem
namespace Mine

section
variable {m : Nat} {σ σ' : AH} {sy so : Nat} {r : Rc} {st : St} {q : Rs} {to jo lo : Nat} {xs : List Int} {p k : Nat} {Q : Mine.V → AH → Prop}

/-- what a scene holds beside the store -/
structure Sc (σ : AH) (so : Nat) (r : Rc) (st : St) (q : Rs) (k : Nat) (jo lo to : Nat) (xs : List Int) (p : Nat) : Prop where
  W : Wd σ so r st q (syK k).1 (syK k).2
  J : JarV σ jo lo xs p
  t : σ[to]? = some tabD
  j1 : jo ∉ keptL so r q
  l1 : lo ∉ keptL so r q
  k2 : k ≤ 2
theorem Sc.to_jo (S : Sc σ so r st q k jo lo to xs p) : to ≠ jo := ne_of_get S.t S.J.j (fun h => nomatch h)
theorem Sc.dip (S : Sc σ so r st q k jo lo to xs p) {p' : Nat} (v : JarV σ' jo lo xs p') (s : Same [jo] σ σ') : Sc σ' so r st q k jo lo to xs p' :=
  ⟨S.W.same s (fun i hi => by simp only [List.mem_cons, List.not_mem_nil, or_false] at hi; subst hi; exact S.j1), v, s.get _ _ (by simp [S.to_jo]) S.t, S.j1, S.l1, S.k2⟩
theorem Sc.to_h (S : Sc σ so r st q k jo lo to xs p) : to ≠ r.h := ne_of_get S.t S.W.v.h (fun h => nomatch h)
theorem Sc.heap (S : Sc σ so r st q k jo lo to xs p) {st' : St} (W : Wd σ' so r st' q (syK k).1 (syK k).2) (s : Same [r.h, r.s, r.t] σ σ') : Sc σ' so r st' q k jo lo to xs p := by
  have hj : ∀ i, i ∉ keptL so r q → i ∉ [r.h, r.s, r.t] := fun i h hm => h (by
    simp only [keptL, List.mem_cons, List.not_mem_nil, or_false] at hm ⊢
    rcases hm with h | h | h <;> simp [h])
  refine ⟨W, S.J.same s (hj _ S.j1) (hj _ S.l1), s.get _ _ ?_ S.t, S.j1, S.l1, S.k2⟩
  simp only [List.mem_cons, List.not_mem_nil, or_false, not_or]
  exact ⟨ne_of_get S.t S.W.v.h (fun h => nomatch h), ne_of_get S.t S.W.v.s (fun h => nomatch h), ne_of_get S.t S.W.v.t (fun h => nomatch h)⟩
theorem Sc.func (S : Sc σ so r st q k jo lo to xs p) {k' : Nat} (hk : k' ≤ 2) (y : SyView σ' r.sy q (syK k').1 (syK k').2) (s : Same (syL q) σ σ') : Sc σ' so r st q k' jo lo to xs p := by
  have hj : ∀ i, i ∉ keptL so r q → i ∉ syL q := fun i h hm => h (by
    simp only [syL, keptL, List.mem_cons, List.not_mem_nil, or_false] at hm ⊢
    rcases hm with h | h | h | h <;> simp [h])
  refine ⟨S.W.func y s, S.J.same s (hj _ S.j1) (hj _ S.l1), s.get _ _ ?_ S.t, S.j1, S.l1, hk⟩
  simp only [syL, List.mem_cons, List.not_mem_nil, or_false, not_or]
  exact ⟨ne_of_get S.t S.W.y.ltx (fun h => nomatch h), ne_of_get S.t S.W.y.an (fun h => nomatch h), ne_of_get S.t S.W.y.lfu (fun h => nomatch h), ne_of_get S.t S.W.y.fn (fun h => nomatch h)⟩

/-- what a side turns -/
noncomputable def turnL (r : Rc) (q : Rs) (jo : Nat) : List Nat := [jo, r.h, q.tx, q.an, q.fu, q.fn]

theorem g_ok (S : Sc σ so r st q k jo lo to xs p) (h : ∀ σ', Sc σ' so r st q (max k 1) jo lo to xs p → Same (syL q) σ σ' → Q (.int 32) σ') : callN P1 fns (m + 2) 6 [.obj r.sy, .str sG, .int 1] σ Q := by
  obtain ⟨e, _, l1, l2⟩ := syK_g k S.k2
  refine func_ok S.W.y (by omega) (by omega) fun σ' y s _ => ?_
  rw [e] at y ⊢
  exact h σ' (S.func (by have := S.k2; omega) y s) s
theorem h_ok (S : Sc σ so r st q k jo lo to xs p) (hk : 1 ≤ k) (h : ∀ σ', Sc σ' so r st q 2 jo lo to xs p → Same (syL q) σ σ' → Q (.int 33) σ') : callN P1 fns (m + 2) 6 [.obj r.sy, .str sH, .int 2] σ Q := by
  obtain ⟨_, _, l1, l2⟩ := syK_g k S.k2
  obtain ⟨e, _, _⟩ := syK_h k S.k2 hk
  refine func_ok S.W.y (by omega) (by omega) fun σ' y s _ => ?_
  rw [e] at y ⊢
  exact h σ' (S.func (by omega) y s) s

theorem side_ok (S : Sc σ so r st q k jo lo to xs p) (hl : st.H.length + 5 < 60)
    (h : ∀ σ', Sc σ' so r (sideP xs p st k).2.1 q (sideP xs p st k).2.2.2 jo lo to xs (sideP xs p st k).2.2.1 → Same (turnL r q jo) σ σ' → Q (cV (sideP xs p st k).1) σ') : callN P1 fns (m + 5) 40 [.obj jo, .obj r.sy, .obj so, .obj to] σ Q := by
  refine call_of (fn := f__law_side) rfl rfl ?_
  have hr := dip_range (xs := xs) (p := p) (lim := 5) (by decide)
  have wk : ∀ {τ τ' : AH} {X : List Nat}, Same X τ τ' → (∀ i ∈ X, i ∈ turnL r q jo) → Same (turnL r q jo) τ τ' := fun s w => s.weak w
  have wj : ∀ i ∈ [jo], i ∈ turnL r q jo := by simp [turnL]
  have wy : ∀ i ∈ syL q, i ∈ turnL r q jo := by intro i hi; simp only [syL, turnL, List.mem_cons, List.not_mem_nil, or_false] at hi ⊢; omega
  have wh : ∀ i ∈ [r.h], i ∈ turnL r q jo := by simp [turnL]
  unfold f__law_side
  simp [↓qq_nil, ↓qq_cons, ↓qs_assign, ↓qs_augLoc, ↓qs_augSub, ↓qs_expr, ↓qs_ite, ↓qs_while, ↓qs_range, ↓qs_for2, ↓qs_forL, ↓qs_forF, ↓qs_ret, ↓qs_retN, ↓qs_cont, ↓qs_pass, ↓qe_loc, ↓qe_kint, ↓qe_kstr, ↓qe_kbool, ↓qe_knone, ↓qe_glob, ↓qe_tup, ↓qe_list, ↓qe_dict0, ↓qe_attr, ↓qe_sub, ↓qe_slTo, ↓qe_cmp, ↓qe_boolop, ↓qe_not, ↓qe_neg, ↓qe_bin, ↓qe_ife, ↓qe_callF, ↓qe_callM, ↓qe_new, ↓qe_blt, ↓qe_meth, ↓qt_loc, ↓qt_tup, ↓qt_attr, ↓qt_sub, ↓ql_nil, ↓ql_cons, ↓qb_one, ↓qb_cons, cmpV, En.put, bindE, g0, g1, g2, g3, g4, g5, g6, g7, g8, eq_int, eq_cell, tup0, tup1, me7, me8, me9, me10, me11, me12, me13, me14, me15, me16, me17, me18, me19, me20, me21, me22, me23, ms0, ms2, ms3, ms5, -List.map_set, -List.map_append, -List.map_reverse]
  refine dip_ok S.J (by decide) (by decide) fun σ₁ v1 s1 l1 => ?_
  have S1 := S.dip v1 s1
  unfold sideP at h
  by_cases c0 : dipP xs p 5 = 0
  · rw [if_pos c0] at h
    simp [↓qq_nil, ↓qq_cons, ↓qs_assign, ↓qs_augLoc, ↓qs_augSub, ↓qs_expr, ↓qs_ite, ↓qs_while, ↓qs_range, ↓qs_for2, ↓qs_forL, ↓qs_forF, ↓qs_ret, ↓qs_retN, ↓qs_cont, ↓qs_pass, ↓qe_loc, ↓qe_kint, ↓qe_kstr, ↓qe_kbool, ↓qe_knone, ↓qe_glob, ↓qe_tup, ↓qe_list, ↓qe_dict0, ↓qe_attr, ↓qe_sub, ↓qe_slTo, ↓qe_cmp, ↓qe_boolop, ↓qe_not, ↓qe_neg, ↓qe_bin, ↓qe_ife, ↓qe_callF, ↓qe_callM, ↓qe_new, ↓qe_blt, ↓qe_meth, ↓qt_loc, ↓qt_tup, ↓qt_attr, ↓qt_sub, ↓ql_nil, ↓ql_cons, ↓qb_one, ↓qb_cons, cmpV, En.put, bindE, g0, g1, g2, g3, g4, g5, g6, g7, g8, eq_int, eq_cell, tup0, tup1, me7, me8, me9, me10, me11, me12, me13, me14, me15, me16, me17, me18, me19, me20, me21, me22, me23, ms0, ms2, ms3, ms5, -List.map_set, -List.map_append, -List.map_reverse, c0]
    refine dip_ok S1.J (by decide) (by decide) fun σ₂ v2 s2 l2 => ?_
    exact h σ₂ (S1.dip v2 s2) ((s1.trans s2).weak wj)
  rw [if_neg c0] at h
  by_cases c1 : dipP xs p 5 = 1
  · rw [if_pos c1] at h
    simp [↓qq_nil, ↓qq_cons, ↓qs_assign, ↓qs_augLoc, ↓qs_augSub, ↓qs_expr, ↓qs_ite, ↓qs_while, ↓qs_range, ↓qs_for2, ↓qs_forL, ↓qs_forF, ↓qs_ret, ↓qs_retN, ↓qs_cont, ↓qs_pass, ↓qe_loc, ↓qe_kint, ↓qe_kstr, ↓qe_kbool, ↓qe_knone, ↓qe_glob, ↓qe_tup, ↓qe_list, ↓qe_dict0, ↓qe_attr, ↓qe_sub, ↓qe_slTo, ↓qe_cmp, ↓qe_boolop, ↓qe_not, ↓qe_neg, ↓qe_bin, ↓qe_ife, ↓qe_callF, ↓qe_callM, ↓qe_new, ↓qe_blt, ↓qe_meth, ↓qt_loc, ↓qt_tup, ↓qt_attr, ↓qt_sub, ↓ql_nil, ↓ql_cons, ↓qb_one, ↓qb_cons, cmpV, En.put, bindE, g0, g1, g2, g3, g4, g5, g6, g7, g8, eq_int, eq_cell, tup0, tup1, me7, me8, me9, me10, me11, me12, me13, me14, me15, me16, me17, me18, me19, me20, me21, me22, me23, ms0, ms2, ms3, ms5, -List.map_set, -List.map_append, -List.map_reverse, c1]
    refine dip_ok S1.J (by decide) (by decide) fun σ₂ v2 s2 l2 => ?_
    exact h σ₂ (S1.dip v2 s2) ((s1.trans s2).weak wj)
  rw [if_neg c1] at h
  by_cases c2 : dipP xs p 5 = 2
  · rw [if_pos c2] at h
    simp [↓qq_nil, ↓qq_cons, ↓qs_assign, ↓qs_augLoc, ↓qs_augSub, ↓qs_expr, ↓qs_ite, ↓qs_while, ↓qs_range, ↓qs_for2, ↓qs_forL, ↓qs_forF, ↓qs_ret, ↓qs_retN, ↓qs_cont, ↓qs_pass, ↓qe_loc, ↓qe_kint, ↓qe_kstr, ↓qe_kbool, ↓qe_knone, ↓qe_glob, ↓qe_tup, ↓qe_list, ↓qe_dict0, ↓qe_attr, ↓qe_sub, ↓qe_slTo, ↓qe_cmp, ↓qe_boolop, ↓qe_not, ↓qe_neg, ↓qe_bin, ↓qe_ife, ↓qe_callF, ↓qe_callM, ↓qe_new, ↓qe_blt, ↓qe_meth, ↓qt_loc, ↓qt_tup, ↓qt_attr, ↓qt_sub, ↓ql_nil, ↓ql_cons, ↓qb_one, ↓qb_cons, cmpV, En.put, bindE, g0, g1, g2, g3, g4, g5, g6, g7, g8, eq_int, eq_cell, tup0, tup1, me7, me8, me9, me10, me11, me12, me13, me14, me15, me16, me17, me18, me19, me20, me21, me22, me23, ms0, ms2, ms3, ms5, -List.map_set, -List.map_append, -List.map_reverse, c2, S1.W.v.cl, S1.W.y.cl, show PySem.Str.ofString "g" = sG from rfl, show PySem.Str.ofString "s" = sS from rfl]
    refine g_ok S1 fun σ₂ S2 s2 => ?_
    refine part_ok S2.J fun σ₃ v3 s3 l3 => ?_
    have S3 := S2.dip v3 s3
    refine put_g (m := m + 1) (g := 32) (pt := partP xs (p + 1)) S3.W S3.t partP_ok (by decide) (syK_g k S.k2).2.1 (by omega) fun σ₄ W4 s4 => ?_
    exact h σ₄ (S3.heap W4 (s4.weak (by simp))) (((((s1.weak wj).trans (s2.weak wy)).trans (s3.weak wj))).trans (s4.weak wh))
  · rw [if_neg c2] at h
    simp [↓qq_nil, ↓qq_cons, ↓qs_assign, ↓qs_augLoc, ↓qs_augSub, ↓qs_expr, ↓qs_ite, ↓qs_while, ↓qs_range, ↓qs_for2, ↓qs_forL, ↓qs_forF, ↓qs_ret, ↓qs_retN, ↓qs_cont, ↓qs_pass, ↓qe_loc, ↓qe_kint, ↓qe_kstr, ↓qe_kbool, ↓qe_knone, ↓qe_glob, ↓qe_tup, ↓qe_list, ↓qe_dict0, ↓qe_attr, ↓qe_sub, ↓qe_slTo, ↓qe_cmp, ↓qe_boolop, ↓qe_not, ↓qe_neg, ↓qe_bin, ↓qe_ife, ↓qe_callF, ↓qe_callM, ↓qe_new, ↓qe_blt, ↓qe_meth, ↓qt_loc, ↓qt_tup, ↓qt_attr, ↓qt_sub, ↓ql_nil, ↓ql_cons, ↓qb_one, ↓qb_cons, cmpV, En.put, bindE, g0, g1, g2, g3, g4, g5, g6, g7, g8, eq_int, eq_cell, tup0, tup1, me7, me8, me9, me10, me11, me12, me13, me14, me15, me16, me17, me18, me19, me20, me21, me22, me23, ms0, ms2, ms3, ms5, -List.map_set, -List.map_append, -List.map_reverse, c0, c1, c2, S1.W.v.cl, S1.W.y.cl, show PySem.Str.ofString "g" = sG from rfl, show PySem.Str.ofString "s" = sS from rfl, show PySem.Str.ofString "h" = sH from rfl]
    refine g_ok S1 fun σ₂ S2 s2 => ?_
    refine part_ok S2.J fun σ₃ v3 s3 l3 => ?_
    have S3 := S2.dip v3 s3
    simp [↓qq_nil, ↓qq_cons, ↓qs_assign, ↓qs_augLoc, ↓qs_augSub, ↓qs_expr, ↓qs_ite, ↓qs_while, ↓qs_range, ↓qs_for2, ↓qs_forL, ↓qs_forF, ↓qs_ret, ↓qs_retN, ↓qs_cont, ↓qs_pass, ↓qe_loc, ↓qe_kint, ↓qe_kstr, ↓qe_kbool, ↓qe_knone, ↓qe_glob, ↓qe_tup, ↓qe_list, ↓qe_dict0, ↓qe_attr, ↓qe_sub, ↓qe_slTo, ↓qe_cmp, ↓qe_boolop, ↓qe_not, ↓qe_neg, ↓qe_bin, ↓qe_ife, ↓qe_callF, ↓qe_callM, ↓qe_new, ↓qe_blt, ↓qe_meth, ↓qt_loc, ↓qt_tup, ↓qt_attr, ↓qt_sub, ↓ql_nil, ↓ql_cons, ↓qb_one, ↓qb_cons, cmpV, En.put, bindE, g0, g1, g2, g3, g4, g5, g6, g7, g8, eq_int, eq_cell, tup0, tup1, me7, me8, me9, me10, me11, me12, me13, me14, me15, me16, me17, me18, me19, me20, me21, me22, me23, ms0, ms2, ms3, ms5, -List.map_set, -List.map_append, -List.map_reverse, S3.W.v.cl, S3.W.y.cl]
    refine h_ok S3 (by omega) fun σ₄ S4 s4 => ?_
    refine part_ok S4.J fun σ₅ v5 s5 l5 => ?_
    have S5 := S4.dip v5 s5
    have hm : max k 1 ≤ 2 := by have := S.k2; omega
    refine put_h (m := m) (g := 32) (gh := 33) (p1 := partP xs (p + 1)) (p2 := partP xs (p + 2)) S5.W S5.t partP_ok partP_ok (by decide) (syK_h _ hm (by omega)).2.2 (by decide) (syK_h _ hm (by omega)).2.1 (by omega) fun σ₆ W6 s6 => ?_
    exact h σ₆ (S5.heap W6 (s6.weak (by simp))) ((((((s1.weak wj).trans (s2.weak wy)).trans (s3.weak wj)).trans (s4.weak wy)).trans (s5.weak wj)).trans (s6.weak wh))
end

end Mine
end

/-! C23 -/
noncomputable section
set_option maxHeartbeats 200000
open PySem
namespace Mine

noncomputable def lapP (xs : List Int) (p : Nat) (lap : Int) (st : St) : St :=
  let h1 := der st (0, dipP xs (p + 1) 4)
  let s1 := der st (1, dipP xs (p + 2) 3)
  if dipP xs p 3 = 0 ∧ nextC st h1 = some h1 then bindP st h1 (5, 5 + lap)
  else if dipP xs p 3 = 1 ∧ nextC st s1 = some s1 then bindP st s1 (5, 5)
  else if dipP xs p 3 = 2 ∧ nextC st h1 = some h1 ∧ nextC st s1 = some s1 then pairP st s1 h1
  else st
noncomputable def bdBody : SL := (.cons (.assign (.loc 3) (.callF 37 (.cons (.loc 0) (.cons (.kint 3) .nil)))) (.cons (.assign (.loc 4) (.callM 10 (.loc 1) (.cons (.tup (.cons (.glob 0) (.cons (.callF 37 (.cons (.loc 0) (.cons (.kint 4) .nil))) .nil))) .nil))) (.cons (.assign (.loc 5) (.callM 10 (.loc 1) (.cons (.tup (.cons (.glob 1) (.cons (.callF 37 (.cons (.loc 0) (.cons (.kint 3) .nil))) .nil))) .nil))) (.cons (.ite (.boolop true (.cons (.cmp .eq (.loc 3) (.kint 0)) (.cons (.callM 11 (.loc 1) (.cons (.loc 4) .nil)) .nil))) (.cons (.expr (.callM 12 (.loc 1) (.cons (.loc 4) (.cons (.tup (.cons (.glob 5) (.cons (.bin .add (.kint 5) (.loc 2)) .nil))) .nil)))) .nil) (.cons (.ite (.boolop true (.cons (.cmp .eq (.loc 3) (.kint 1)) (.cons (.callM 11 (.loc 1) (.cons (.loc 5) .nil)) .nil))) (.cons (.expr (.callM 12 (.loc 1) (.cons (.loc 5) (.cons (.tup (.cons (.glob 5) (.cons (.kint 5) .nil))) .nil)))) .nil) (.cons (.ite (.boolop true (.cons (.cmp .eq (.loc 3) (.kint 2)) (.cons (.callM 11 (.loc 1) (.cons (.loc 4) .nil)) (.cons (.callM 11 (.loc 1) (.cons (.loc 5) .nil)) .nil)))) (.cons (.expr (.callM 13 (.loc 1) (.cons (.loc 5) (.cons (.loc 4) .nil)))) .nil) .nil) .nil)) .nil)) .nil))))
theorem bd_split : f__law_bound.body = .cons (.for_ (.loc 2) (.blt 1 (.cons (.bin .add (.kint 1) (.callF 37 (.cons (.loc 0) (.cons (.kint 4) .nil)))) .nil)) bdBody) .nil := rfl

section
variable {m : Nat} {σ σ' : AH} {sy so : Nat} {r : Rc} {st : St} {q : Rs} {to jo lo : Nat} {xs : List Int} {p k : Nat}

structure BdInv (st : St) (fu : List (Int × Int)) : Prop where
  F : WF2 st fu
  h4 : st.H.length = 4
  s3 : st.S.length = 3
  te : ∀ e ∈ st.T, EntryOk 4 3 e

theorem lap_body (S : Sc σ so r st q k jo lo to xs p) (B : BdInv st (syK k).2) (tl : st.T.length < 1000) {lap : Int} {ρ : En} {Q : Fl → En → AH → Prop} (h0 : ρ 0 = some (.obj jo)) (h1 : ρ 1 = some (.obj so)) (h2 : ρ 2 = some (.int lap))
    (h : ∀ σ' ρ', Sc σ' so r (lapP xs p lap st) q k jo lo to xs (p + 3) → Same [jo, r.h, r.s, r.t] σ σ' → ρ' 0 = some (.obj jo) → ρ' 1 = some (.obj so) → Q .next ρ' σ') : wSL P1 (callN P1 fns (m + 3)) bdBody ρ σ Q := by
  have hr := dip_range (xs := xs) (p := p) (lim := 3) (by decide)
  have hr1 := dip_range (xs := xs) (p := p + 1) (lim := 4) (by decide)
  have hr2 := dip_range (xs := xs) (p := p + 2) (lim := 3) (by decide)
  have vh : CellOk st (syK k).2 (0, dipP xs (p + 1) 4) := ⟨⟨fun _ => ⟨hr1.1, by rw [B.h4]; simp; omega⟩, fun z => absurd (show (0 : Int) = 1 from z) (by decide)⟩, fun z => absurd (show (0 : Int) = 2 from z) (by decide), fun z => absurd (show (0 : Int) = 3 from z) (by decide)⟩
  have vs : CellOk st (syK k).2 (1, dipP xs (p + 2) 3) := ⟨⟨fun z => absurd (show (1 : Int) = 0 from z) (by decide), fun _ => ⟨hr2.1, by rw [B.s3]; simp; omega⟩⟩, fun z => absurd (show (1 : Int) = 2 from z) (by decide), fun z => absurd (show (1 : Int) = 3 from z) (by decide)⟩
  have kh := (der_end B.F.wf vh.1).1
  have ks := (der_end B.F.wf vs.1).1
  (try delta bdBody); (try with_reducible refine qq_step ?_); simp [bdBody, ↓qq_nil, ↓qs_assign, ↓qs_augLoc, ↓qs_augSub, ↓qs_expr, ↓qs_ite, ↓qs_while, ↓qs_range, ↓qs_for2, ↓qs_forL, ↓qs_forF, ↓qs_ret, ↓qs_retN, ↓qs_cont, ↓qs_pass, ↓qe_loc, ↓qe_kint, ↓qe_kstr, ↓qe_kbool, ↓qe_knone, ↓qe_glob, ↓qe_tup, ↓qe_list, ↓qe_dict0, ↓qe_attr, ↓qe_sub, ↓qe_slTo, ↓qe_cmp, ↓qe_boolop, ↓qe_not, ↓qe_neg, ↓qe_bin, ↓qe_ife, ↓qe_callF, ↓qe_callM, ↓qe_new, ↓qe_blt, ↓qe_meth, ↓qt_loc, ↓qt_tup, ↓qt_attr, ↓qt_sub, ↓ql_nil, ↓ql_cons, ↓qb_one, ↓qb_cons, cmpV, En.put, bindE, g0, g1, g2, g3, g4, g5, g6, g7, g8, eq_int, eq_cell, tup0, tup1, me7, me8, me9, me10, me11, me12, me13, me14, me15, me16, me17, me18, me19, me20, me21, me22, me23, ms0, ms2, ms3, ms5, -List.map_set, -List.map_append, -List.map_reverse, h0, h1]; (repeat (with_reducible refine qq_step ?_; try simp [bdBody, ↓qq_nil, ↓qs_assign, ↓qs_augLoc, ↓qs_augSub, ↓qs_expr, ↓qs_ite, ↓qs_while, ↓qs_range, ↓qs_for2, ↓qs_forL, ↓qs_forF, ↓qs_ret, ↓qs_retN, ↓qs_cont, ↓qs_pass, ↓qe_loc, ↓qe_kint, ↓qe_kstr, ↓qe_kbool, ↓qe_knone, ↓qe_glob, ↓qe_tup, ↓qe_list, ↓qe_dict0, ↓qe_attr, ↓qe_sub, ↓qe_slTo, ↓qe_cmp, ↓qe_boolop, ↓qe_not, ↓qe_neg, ↓qe_bin, ↓qe_ife, ↓qe_callF, ↓qe_callM, ↓qe_new, ↓qe_blt, ↓qe_meth, ↓qt_loc, ↓qt_tup, ↓qt_attr, ↓qt_sub, ↓ql_nil, ↓ql_cons, ↓qb_one, ↓qb_cons, cmpV, En.put, bindE, g0, g1, g2, g3, g4, g5, g6, g7, g8, eq_int, eq_cell, tup0, tup1, me7, me8, me9, me10, me11, me12, me13, me14, me15, me16, me17, me18, me19, me20, me21, me22, me23, ms0, ms2, ms3, ms5, -List.map_set, -List.map_append, -List.map_reverse, h0, h1])); (try (first | with_reducible refine hold_call ?_ | simp [bdBody, ↓qq_nil, ↓qq_cons, ↓qs_assign, ↓qs_augLoc, ↓qs_augSub, ↓qs_expr, ↓qs_ite, ↓qs_while, ↓qs_range, ↓qs_for2, ↓qs_forL, ↓qs_forF, ↓qs_ret, ↓qs_retN, ↓qs_cont, ↓qs_pass, ↓qe_loc, ↓qe_kint, ↓qe_kstr, ↓qe_kbool, ↓qe_knone, ↓qe_glob, ↓qe_tup, ↓qe_list, ↓qe_dict0, ↓qe_attr, ↓qe_sub, ↓qe_slTo, ↓qe_cmp, ↓qe_boolop, ↓qe_not, ↓qe_neg, ↓qe_bin, ↓qe_ife, ↓qe_callF, ↓qe_callM, ↓qe_new, ↓qe_blt, ↓qe_meth, ↓qt_loc, ↓qt_tup, ↓qt_attr, ↓qt_sub, ↓ql_nil, ↓ql_cons, ↓qb_one, ↓qb_cons, cmpV, En.put, bindE, g0, g1, g2, g3, g4, g5, g6, g7, g8, eq_int, eq_cell, tup0, tup1, me7, me8, me9, me10, me11, me12, me13, me14, me15, me16, me17, me18, me19, me20, me21, me22, me23, ms0, ms2, ms3, ms5, -List.map_set, -List.map_append, -List.map_reverse, h0, h1]))
  refine dip_ok S.J (by decide) (by decide) fun σ₁ v1 s1 l1 => ?_
  have S1 := S.dip v1 s1
  (try with_reducible refine qq_step ?_); simp [↓qq_nil, ↓qs_assign, ↓qs_augLoc, ↓qs_augSub, ↓qs_expr, ↓qs_ite, ↓qs_while, ↓qs_range, ↓qs_for2, ↓qs_forL, ↓qs_forF, ↓qs_ret, ↓qs_retN, ↓qs_cont, ↓qs_pass, ↓qe_loc, ↓qe_kint, ↓qe_kstr, ↓qe_kbool, ↓qe_knone, ↓qe_glob, ↓qe_tup, ↓qe_list, ↓qe_dict0, ↓qe_attr, ↓qe_sub, ↓qe_slTo, ↓qe_cmp, ↓qe_boolop, ↓qe_not, ↓qe_neg, ↓qe_bin, ↓qe_ife, ↓qe_callF, ↓qe_callM, ↓qe_new, ↓qe_blt, ↓qe_meth, ↓qt_loc, ↓qt_tup, ↓qt_attr, ↓qt_sub, ↓ql_nil, ↓ql_cons, ↓qb_one, ↓qb_cons, cmpV, En.put, bindE, g0, g1, g2, g3, g4, g5, g6, g7, g8, eq_int, eq_cell, tup0, tup1, me7, me8, me9, me10, me11, me12, me13, me14, me15, me16, me17, me18, me19, me20, me21, me22, me23, ms0, ms2, ms3, ms5, -List.map_set, -List.map_append, -List.map_reverse, h0, h1, S1.W.v.cl]; (repeat (with_reducible refine qq_step ?_; try simp [↓qq_nil, ↓qs_assign, ↓qs_augLoc, ↓qs_augSub, ↓qs_expr, ↓qs_ite, ↓qs_while, ↓qs_range, ↓qs_for2, ↓qs_forL, ↓qs_forF, ↓qs_ret, ↓qs_retN, ↓qs_cont, ↓qs_pass, ↓qe_loc, ↓qe_kint, ↓qe_kstr, ↓qe_kbool, ↓qe_knone, ↓qe_glob, ↓qe_tup, ↓qe_list, ↓qe_dict0, ↓qe_attr, ↓qe_sub, ↓qe_slTo, ↓qe_cmp, ↓qe_boolop, ↓qe_not, ↓qe_neg, ↓qe_bin, ↓qe_ife, ↓qe_callF, ↓qe_callM, ↓qe_new, ↓qe_blt, ↓qe_meth, ↓qt_loc, ↓qt_tup, ↓qt_attr, ↓qt_sub, ↓ql_nil, ↓ql_cons, ↓qb_one, ↓qb_cons, cmpV, En.put, bindE, g0, g1, g2, g3, g4, g5, g6, g7, g8, eq_int, eq_cell, tup0, tup1, me7, me8, me9, me10, me11, me12, me13, me14, me15, me16, me17, me18, me19, me20, me21, me22, me23, ms0, ms2, ms3, ms5, -List.map_set, -List.map_append, -List.map_reverse, h0, h1, S1.W.v.cl])); (try (first | with_reducible refine hold_call ?_ | simp [↓qq_nil, ↓qq_cons, ↓qs_assign, ↓qs_augLoc, ↓qs_augSub, ↓qs_expr, ↓qs_ite, ↓qs_while, ↓qs_range, ↓qs_for2, ↓qs_forL, ↓qs_forF, ↓qs_ret, ↓qs_retN, ↓qs_cont, ↓qs_pass, ↓qe_loc, ↓qe_kint, ↓qe_kstr, ↓qe_kbool, ↓qe_knone, ↓qe_glob, ↓qe_tup, ↓qe_list, ↓qe_dict0, ↓qe_attr, ↓qe_sub, ↓qe_slTo, ↓qe_cmp, ↓qe_boolop, ↓qe_not, ↓qe_neg, ↓qe_bin, ↓qe_ife, ↓qe_callF, ↓qe_callM, ↓qe_new, ↓qe_blt, ↓qe_meth, ↓qt_loc, ↓qt_tup, ↓qt_attr, ↓qt_sub, ↓ql_nil, ↓ql_cons, ↓qb_one, ↓qb_cons, cmpV, En.put, bindE, g0, g1, g2, g3, g4, g5, g6, g7, g8, eq_int, eq_cell, tup0, tup1, me7, me8, me9, me10, me11, me12, me13, me14, me15, me16, me17, me18, me19, me20, me21, me22, me23, ms0, ms2, ms3, ms5, -List.map_set, -List.map_append, -List.map_reverse, h0, h1, S1.W.v.cl]))
  refine dip_ok S1.J (by decide) (by decide) fun σ₂ v2 s2 l2 => ?_
  have S2 := S1.dip v2 s2
  (try with_reducible refine qq_step ?_); simp [↓qq_nil, ↓qs_assign, ↓qs_augLoc, ↓qs_augSub, ↓qs_expr, ↓qs_ite, ↓qs_while, ↓qs_range, ↓qs_for2, ↓qs_forL, ↓qs_forF, ↓qs_ret, ↓qs_retN, ↓qs_cont, ↓qs_pass, ↓qe_loc, ↓qe_kint, ↓qe_kstr, ↓qe_kbool, ↓qe_knone, ↓qe_glob, ↓qe_tup, ↓qe_list, ↓qe_dict0, ↓qe_attr, ↓qe_sub, ↓qe_slTo, ↓qe_cmp, ↓qe_boolop, ↓qe_not, ↓qe_neg, ↓qe_bin, ↓qe_ife, ↓qe_callF, ↓qe_callM, ↓qe_new, ↓qe_blt, ↓qe_meth, ↓qt_loc, ↓qt_tup, ↓qt_attr, ↓qt_sub, ↓ql_nil, ↓ql_cons, ↓qb_one, ↓qb_cons, cmpV, En.put, bindE, g0, g1, g2, g3, g4, g5, g6, g7, g8, eq_int, eq_cell, tup0, tup1, me7, me8, me9, me10, me11, me12, me13, me14, me15, me16, me17, me18, me19, me20, me21, me22, me23, ms0, ms2, ms3, ms5, -List.map_set, -List.map_append, -List.map_reverse, h0, h1, S2.W.v.cl, cV_eq]; (repeat (with_reducible refine qq_step ?_; try simp [↓qq_nil, ↓qs_assign, ↓qs_augLoc, ↓qs_augSub, ↓qs_expr, ↓qs_ite, ↓qs_while, ↓qs_range, ↓qs_for2, ↓qs_forL, ↓qs_forF, ↓qs_ret, ↓qs_retN, ↓qs_cont, ↓qs_pass, ↓qe_loc, ↓qe_kint, ↓qe_kstr, ↓qe_kbool, ↓qe_knone, ↓qe_glob, ↓qe_tup, ↓qe_list, ↓qe_dict0, ↓qe_attr, ↓qe_sub, ↓qe_slTo, ↓qe_cmp, ↓qe_boolop, ↓qe_not, ↓qe_neg, ↓qe_bin, ↓qe_ife, ↓qe_callF, ↓qe_callM, ↓qe_new, ↓qe_blt, ↓qe_meth, ↓qt_loc, ↓qt_tup, ↓qt_attr, ↓qt_sub, ↓ql_nil, ↓ql_cons, ↓qb_one, ↓qb_cons, cmpV, En.put, bindE, g0, g1, g2, g3, g4, g5, g6, g7, g8, eq_int, eq_cell, tup0, tup1, me7, me8, me9, me10, me11, me12, me13, me14, me15, me16, me17, me18, me19, me20, me21, me22, me23, ms0, ms2, ms3, ms5, -List.map_set, -List.map_append, -List.map_reverse, h0, h1, S2.W.v.cl, cV_eq])); (try (first | with_reducible refine hold_call ?_ | simp [↓qq_nil, ↓qq_cons, ↓qs_assign, ↓qs_augLoc, ↓qs_augSub, ↓qs_expr, ↓qs_ite, ↓qs_while, ↓qs_range, ↓qs_for2, ↓qs_forL, ↓qs_forF, ↓qs_ret, ↓qs_retN, ↓qs_cont, ↓qs_pass, ↓qe_loc, ↓qe_kint, ↓qe_kstr, ↓qe_kbool, ↓qe_knone, ↓qe_glob, ↓qe_tup, ↓qe_list, ↓qe_dict0, ↓qe_attr, ↓qe_sub, ↓qe_slTo, ↓qe_cmp, ↓qe_boolop, ↓qe_not, ↓qe_neg, ↓qe_bin, ↓qe_ife, ↓qe_callF, ↓qe_callM, ↓qe_new, ↓qe_blt, ↓qe_meth, ↓qt_loc, ↓qt_tup, ↓qt_attr, ↓qt_sub, ↓ql_nil, ↓ql_cons, ↓qb_one, ↓qb_cons, cmpV, En.put, bindE, g0, g1, g2, g3, g4, g5, g6, g7, g8, eq_int, eq_cell, tup0, tup1, me7, me8, me9, me10, me11, me12, me13, me14, me15, me16, me17, me18, me19, me20, me21, me22, me23, ms0, ms2, ms3, ms5, -List.map_set, -List.map_append, -List.map_reverse, h0, h1, S2.W.v.cl, cV_eq]))
  refine deref_ok S2.W.v B.F.wf vh.1 ?_
  (try with_reducible refine qq_step ?_); simp [↓qq_nil, ↓qs_assign, ↓qs_augLoc, ↓qs_augSub, ↓qs_expr, ↓qs_ite, ↓qs_while, ↓qs_range, ↓qs_for2, ↓qs_forL, ↓qs_forF, ↓qs_ret, ↓qs_retN, ↓qs_cont, ↓qs_pass, ↓qe_loc, ↓qe_kint, ↓qe_kstr, ↓qe_kbool, ↓qe_knone, ↓qe_glob, ↓qe_tup, ↓qe_list, ↓qe_dict0, ↓qe_attr, ↓qe_sub, ↓qe_slTo, ↓qe_cmp, ↓qe_boolop, ↓qe_not, ↓qe_neg, ↓qe_bin, ↓qe_ife, ↓qe_callF, ↓qe_callM, ↓qe_new, ↓qe_blt, ↓qe_meth, ↓qt_loc, ↓qt_tup, ↓qt_attr, ↓qt_sub, ↓ql_nil, ↓ql_cons, ↓qb_one, ↓qb_cons, cmpV, En.put, bindE, g0, g1, g2, g3, g4, g5, g6, g7, g8, eq_int, eq_cell, tup0, tup1, me7, me8, me9, me10, me11, me12, me13, me14, me15, me16, me17, me18, me19, me20, me21, me22, me23, ms0, ms2, ms3, ms5, -List.map_set, -List.map_append, -List.map_reverse, h0, h1, S2.W.v.cl]; (repeat (with_reducible refine qq_step ?_; try simp [↓qq_nil, ↓qs_assign, ↓qs_augLoc, ↓qs_augSub, ↓qs_expr, ↓qs_ite, ↓qs_while, ↓qs_range, ↓qs_for2, ↓qs_forL, ↓qs_forF, ↓qs_ret, ↓qs_retN, ↓qs_cont, ↓qs_pass, ↓qe_loc, ↓qe_kint, ↓qe_kstr, ↓qe_kbool, ↓qe_knone, ↓qe_glob, ↓qe_tup, ↓qe_list, ↓qe_dict0, ↓qe_attr, ↓qe_sub, ↓qe_slTo, ↓qe_cmp, ↓qe_boolop, ↓qe_not, ↓qe_neg, ↓qe_bin, ↓qe_ife, ↓qe_callF, ↓qe_callM, ↓qe_new, ↓qe_blt, ↓qe_meth, ↓qt_loc, ↓qt_tup, ↓qt_attr, ↓qt_sub, ↓ql_nil, ↓ql_cons, ↓qb_one, ↓qb_cons, cmpV, En.put, bindE, g0, g1, g2, g3, g4, g5, g6, g7, g8, eq_int, eq_cell, tup0, tup1, me7, me8, me9, me10, me11, me12, me13, me14, me15, me16, me17, me18, me19, me20, me21, me22, me23, ms0, ms2, ms3, ms5, -List.map_set, -List.map_append, -List.map_reverse, h0, h1, S2.W.v.cl])); (try (first | with_reducible refine hold_call ?_ | simp [↓qq_nil, ↓qq_cons, ↓qs_assign, ↓qs_augLoc, ↓qs_augSub, ↓qs_expr, ↓qs_ite, ↓qs_while, ↓qs_range, ↓qs_for2, ↓qs_forL, ↓qs_forF, ↓qs_ret, ↓qs_retN, ↓qs_cont, ↓qs_pass, ↓qe_loc, ↓qe_kint, ↓qe_kstr, ↓qe_kbool, ↓qe_knone, ↓qe_glob, ↓qe_tup, ↓qe_list, ↓qe_dict0, ↓qe_attr, ↓qe_sub, ↓qe_slTo, ↓qe_cmp, ↓qe_boolop, ↓qe_not, ↓qe_neg, ↓qe_bin, ↓qe_ife, ↓qe_callF, ↓qe_callM, ↓qe_new, ↓qe_blt, ↓qe_meth, ↓qt_loc, ↓qt_tup, ↓qt_attr, ↓qt_sub, ↓ql_nil, ↓ql_cons, ↓qb_one, ↓qb_cons, cmpV, En.put, bindE, g0, g1, g2, g3, g4, g5, g6, g7, g8, eq_int, eq_cell, tup0, tup1, me7, me8, me9, me10, me11, me12, me13, me14, me15, me16, me17, me18, me19, me20, me21, me22, me23, ms0, ms2, ms3, ms5, -List.map_set, -List.map_append, -List.map_reverse, h0, h1, S2.W.v.cl]))
  refine dip_ok S2.J (by decide) (by decide) fun σ₃ v3 s3 l3 => ?_
  have S3 := S2.dip v3 s3
  (try with_reducible refine qq_step ?_); simp [↓qq_nil, ↓qs_assign, ↓qs_augLoc, ↓qs_augSub, ↓qs_expr, ↓qs_ite, ↓qs_while, ↓qs_range, ↓qs_for2, ↓qs_forL, ↓qs_forF, ↓qs_ret, ↓qs_retN, ↓qs_cont, ↓qs_pass, ↓qe_loc, ↓qe_kint, ↓qe_kstr, ↓qe_kbool, ↓qe_knone, ↓qe_glob, ↓qe_tup, ↓qe_list, ↓qe_dict0, ↓qe_attr, ↓qe_sub, ↓qe_slTo, ↓qe_cmp, ↓qe_boolop, ↓qe_not, ↓qe_neg, ↓qe_bin, ↓qe_ife, ↓qe_callF, ↓qe_callM, ↓qe_new, ↓qe_blt, ↓qe_meth, ↓qt_loc, ↓qt_tup, ↓qt_attr, ↓qt_sub, ↓ql_nil, ↓ql_cons, ↓qb_one, ↓qb_cons, cmpV, En.put, bindE, g0, g1, g2, g3, g4, g5, g6, g7, g8, eq_int, eq_cell, tup0, tup1, me7, me8, me9, me10, me11, me12, me13, me14, me15, me16, me17, me18, me19, me20, me21, me22, me23, ms0, ms2, ms3, ms5, -List.map_set, -List.map_append, -List.map_reverse, h0, h1, S3.W.v.cl, cV_eq]; (repeat (with_reducible refine qq_step ?_; try simp [↓qq_nil, ↓qs_assign, ↓qs_augLoc, ↓qs_augSub, ↓qs_expr, ↓qs_ite, ↓qs_while, ↓qs_range, ↓qs_for2, ↓qs_forL, ↓qs_forF, ↓qs_ret, ↓qs_retN, ↓qs_cont, ↓qs_pass, ↓qe_loc, ↓qe_kint, ↓qe_kstr, ↓qe_kbool, ↓qe_knone, ↓qe_glob, ↓qe_tup, ↓qe_list, ↓qe_dict0, ↓qe_attr, ↓qe_sub, ↓qe_slTo, ↓qe_cmp, ↓qe_boolop, ↓qe_not, ↓qe_neg, ↓qe_bin, ↓qe_ife, ↓qe_callF, ↓qe_callM, ↓qe_new, ↓qe_blt, ↓qe_meth, ↓qt_loc, ↓qt_tup, ↓qt_attr, ↓qt_sub, ↓ql_nil, ↓ql_cons, ↓qb_one, ↓qb_cons, cmpV, En.put, bindE, g0, g1, g2, g3, g4, g5, g6, g7, g8, eq_int, eq_cell, tup0, tup1, me7, me8, me9, me10, me11, me12, me13, me14, me15, me16, me17, me18, me19, me20, me21, me22, me23, ms0, ms2, ms3, ms5, -List.map_set, -List.map_append, -List.map_reverse, h0, h1, S3.W.v.cl, cV_eq])); (try (first | with_reducible refine hold_call ?_ | simp [↓qq_nil, ↓qq_cons, ↓qs_assign, ↓qs_augLoc, ↓qs_augSub, ↓qs_expr, ↓qs_ite, ↓qs_while, ↓qs_range, ↓qs_for2, ↓qs_forL, ↓qs_forF, ↓qs_ret, ↓qs_retN, ↓qs_cont, ↓qs_pass, ↓qe_loc, ↓qe_kint, ↓qe_kstr, ↓qe_kbool, ↓qe_knone, ↓qe_glob, ↓qe_tup, ↓qe_list, ↓qe_dict0, ↓qe_attr, ↓qe_sub, ↓qe_slTo, ↓qe_cmp, ↓qe_boolop, ↓qe_not, ↓qe_neg, ↓qe_bin, ↓qe_ife, ↓qe_callF, ↓qe_callM, ↓qe_new, ↓qe_blt, ↓qe_meth, ↓qt_loc, ↓qt_tup, ↓qt_attr, ↓qt_sub, ↓ql_nil, ↓ql_cons, ↓qb_one, ↓qb_cons, cmpV, En.put, bindE, g0, g1, g2, g3, g4, g5, g6, g7, g8, eq_int, eq_cell, tup0, tup1, me7, me8, me9, me10, me11, me12, me13, me14, me15, me16, me17, me18, me19, me20, me21, me22, me23, ms0, ms2, ms3, ms5, -List.map_set, -List.map_append, -List.map_reverse, h0, h1, S3.W.v.cl, cV_eq]))
  refine deref_ok S3.W.v B.F.wf vs.1 ?_
  have sj : Same [jo, r.h, r.s, r.t] σ σ₃ := ((s1.trans s2).trans s3).weak (by simp)
  have uv : ∀ c : Cell, nextC st c = some c → c.1 = 0 ∨ c.1 = 1 := by
    intro c e
    unfold nextC at e
    split at e
    · exact Or.inl ‹_›
    · split at e
      · exact Or.inr ‹_›
      · cases e
  have wh : ∀ i ∈ [r.h, r.s, r.t], i ∈ [jo, r.h, r.s, r.t] := fun i hi => List.mem_cons_of_mem _ hi
  unfold lapP at h
  dsimp only at h
  generalize der st (0, dipP xs (p + 1) 4) = c1 at *
  generalize der st (1, dipP xs (p + 2) 3) = c2 at *
  by_cases w0 : dipP xs p 3 = 0
  · (try with_reducible refine qq_step ?_); simp [↓qq_nil, ↓qs_assign, ↓qs_augLoc, ↓qs_augSub, ↓qs_expr, ↓qs_ite, ↓qs_while, ↓qs_range, ↓qs_for2, ↓qs_forL, ↓qs_forF, ↓qs_ret, ↓qs_retN, ↓qs_cont, ↓qs_pass, ↓qe_loc, ↓qe_kint, ↓qe_kstr, ↓qe_kbool, ↓qe_knone, ↓qe_glob, ↓qe_tup, ↓qe_list, ↓qe_dict0, ↓qe_attr, ↓qe_sub, ↓qe_slTo, ↓qe_cmp, ↓qe_boolop, ↓qe_not, ↓qe_neg, ↓qe_bin, ↓qe_ife, ↓qe_callF, ↓qe_callM, ↓qe_new, ↓qe_blt, ↓qe_meth, ↓qt_loc, ↓qt_tup, ↓qt_attr, ↓qt_sub, ↓ql_nil, ↓ql_cons, ↓qb_one, ↓qb_cons, cmpV, En.put, bindE, g0, g1, g2, g3, g4, g5, g6, g7, g8, eq_int, eq_cell, tup0, tup1, me7, me8, me9, me10, me11, me12, me13, me14, me15, me16, me17, me18, me19, me20, me21, me22, me23, ms0, ms2, ms3, ms5, -List.map_set, -List.map_append, -List.map_reverse, w0, h1, S3.W.v.cl]; (repeat (with_reducible refine qq_step ?_; try simp [↓qq_nil, ↓qs_assign, ↓qs_augLoc, ↓qs_augSub, ↓qs_expr, ↓qs_ite, ↓qs_while, ↓qs_range, ↓qs_for2, ↓qs_forL, ↓qs_forF, ↓qs_ret, ↓qs_retN, ↓qs_cont, ↓qs_pass, ↓qe_loc, ↓qe_kint, ↓qe_kstr, ↓qe_kbool, ↓qe_knone, ↓qe_glob, ↓qe_tup, ↓qe_list, ↓qe_dict0, ↓qe_attr, ↓qe_sub, ↓qe_slTo, ↓qe_cmp, ↓qe_boolop, ↓qe_not, ↓qe_neg, ↓qe_bin, ↓qe_ife, ↓qe_callF, ↓qe_callM, ↓qe_new, ↓qe_blt, ↓qe_meth, ↓qt_loc, ↓qt_tup, ↓qt_attr, ↓qt_sub, ↓ql_nil, ↓ql_cons, ↓qb_one, ↓qb_cons, cmpV, En.put, bindE, g0, g1, g2, g3, g4, g5, g6, g7, g8, eq_int, eq_cell, tup0, tup1, me7, me8, me9, me10, me11, me12, me13, me14, me15, me16, me17, me18, me19, me20, me21, me22, me23, ms0, ms2, ms3, ms5, -List.map_set, -List.map_append, -List.map_reverse, w0, h1, S3.W.v.cl])); (try (first | with_reducible refine hold_call ?_ | simp [↓qq_nil, ↓qq_cons, ↓qs_assign, ↓qs_augLoc, ↓qs_augSub, ↓qs_expr, ↓qs_ite, ↓qs_while, ↓qs_range, ↓qs_for2, ↓qs_forL, ↓qs_forF, ↓qs_ret, ↓qs_retN, ↓qs_cont, ↓qs_pass, ↓qe_loc, ↓qe_kint, ↓qe_kstr, ↓qe_kbool, ↓qe_knone, ↓qe_glob, ↓qe_tup, ↓qe_list, ↓qe_dict0, ↓qe_attr, ↓qe_sub, ↓qe_slTo, ↓qe_cmp, ↓qe_boolop, ↓qe_not, ↓qe_neg, ↓qe_bin, ↓qe_ife, ↓qe_callF, ↓qe_callM, ↓qe_new, ↓qe_blt, ↓qe_meth, ↓qt_loc, ↓qt_tup, ↓qt_attr, ↓qt_sub, ↓ql_nil, ↓ql_cons, ↓qb_one, ↓qb_cons, cmpV, En.put, bindE, g0, g1, g2, g3, g4, g5, g6, g7, g8, eq_int, eq_cell, tup0, tup1, me7, me8, me9, me10, me11, me12, me13, me14, me15, me16, me17, me18, me19, me20, me21, me22, me23, ms0, ms2, ms3, ms5, -List.map_set, -List.map_append, -List.map_reverse, w0, h1, S3.W.v.cl]))
    refine unbound_ok S3.W.v kh ?_
    by_cases u1 : nextC st c1 = some c1
    · rw [if_pos ⟨w0, u1⟩] at h
      (try with_reducible refine qq_step ?_); simp [↓qq_nil, ↓qs_assign, ↓qs_augLoc, ↓qs_augSub, ↓qs_expr, ↓qs_ite, ↓qs_while, ↓qs_range, ↓qs_for2, ↓qs_forL, ↓qs_forF, ↓qs_ret, ↓qs_retN, ↓qs_cont, ↓qs_pass, ↓qe_loc, ↓qe_kint, ↓qe_kstr, ↓qe_kbool, ↓qe_knone, ↓qe_glob, ↓qe_tup, ↓qe_list, ↓qe_dict0, ↓qe_attr, ↓qe_sub, ↓qe_slTo, ↓qe_cmp, ↓qe_boolop, ↓qe_not, ↓qe_neg, ↓qe_bin, ↓qe_ife, ↓qe_callF, ↓qe_callM, ↓qe_new, ↓qe_blt, ↓qe_meth, ↓qt_loc, ↓qt_tup, ↓qt_attr, ↓qt_sub, ↓ql_nil, ↓ql_cons, ↓qb_one, ↓qb_cons, cmpV, En.put, bindE, g0, g1, g2, g3, g4, g5, g6, g7, g8, eq_int, eq_cell, tup0, tup1, me7, me8, me9, me10, me11, me12, me13, me14, me15, me16, me17, me18, me19, me20, me21, me22, me23, ms0, ms2, ms3, ms5, -List.map_set, -List.map_append, -List.map_reverse, u1, h1, h2, S3.W.v.cl, binV, cV_eq]; (repeat (with_reducible refine qq_step ?_; try simp [↓qq_nil, ↓qs_assign, ↓qs_augLoc, ↓qs_augSub, ↓qs_expr, ↓qs_ite, ↓qs_while, ↓qs_range, ↓qs_for2, ↓qs_forL, ↓qs_forF, ↓qs_ret, ↓qs_retN, ↓qs_cont, ↓qs_pass, ↓qe_loc, ↓qe_kint, ↓qe_kstr, ↓qe_kbool, ↓qe_knone, ↓qe_glob, ↓qe_tup, ↓qe_list, ↓qe_dict0, ↓qe_attr, ↓qe_sub, ↓qe_slTo, ↓qe_cmp, ↓qe_boolop, ↓qe_not, ↓qe_neg, ↓qe_bin, ↓qe_ife, ↓qe_callF, ↓qe_callM, ↓qe_new, ↓qe_blt, ↓qe_meth, ↓qt_loc, ↓qt_tup, ↓qt_attr, ↓qt_sub, ↓ql_nil, ↓ql_cons, ↓qb_one, ↓qb_cons, cmpV, En.put, bindE, g0, g1, g2, g3, g4, g5, g6, g7, g8, eq_int, eq_cell, tup0, tup1, me7, me8, me9, me10, me11, me12, me13, me14, me15, me16, me17, me18, me19, me20, me21, me22, me23, ms0, ms2, ms3, ms5, -List.map_set, -List.map_append, -List.map_reverse, u1, h1, h2, S3.W.v.cl, binV, cV_eq])); (try (first | with_reducible refine hold_call ?_ | simp [↓qq_nil, ↓qq_cons, ↓qs_assign, ↓qs_augLoc, ↓qs_augSub, ↓qs_expr, ↓qs_ite, ↓qs_while, ↓qs_range, ↓qs_for2, ↓qs_forL, ↓qs_forF, ↓qs_ret, ↓qs_retN, ↓qs_cont, ↓qs_pass, ↓qe_loc, ↓qe_kint, ↓qe_kstr, ↓qe_kbool, ↓qe_knone, ↓qe_glob, ↓qe_tup, ↓qe_list, ↓qe_dict0, ↓qe_attr, ↓qe_sub, ↓qe_slTo, ↓qe_cmp, ↓qe_boolop, ↓qe_not, ↓qe_neg, ↓qe_bin, ↓qe_ife, ↓qe_callF, ↓qe_callM, ↓qe_new, ↓qe_blt, ↓qe_meth, ↓qt_loc, ↓qt_tup, ↓qt_attr, ↓qt_sub, ↓ql_nil, ↓ql_cons, ↓qb_one, ↓qb_cons, cmpV, En.put, bindE, g0, g1, g2, g3, g4, g5, g6, g7, g8, eq_int, eq_cell, tup0, tup1, me7, me8, me9, me10, me11, me12, me13, me14, me15, me16, me17, me18, me19, me20, me21, me22, me23, ms0, ms2, ms3, ms5, -List.map_set, -List.map_append, -List.map_reverse, u1, h1, h2, S3.W.v.cl, binV, cV_eq]))
      refine bind_ok S3.W.v (uv _ u1) kh (by omega) fun σ₄ v4 s4 l4 => ?_
      exact h _ _ (S3.heap (S3.W.turn v4 s4) s4) (sj.trans (s4.weak wh)) (by simp [En.put, h0]) (by simp [En.put, h1])
    · rw [if_neg (fun z => u1 z.2), if_neg (fun z => by omega), if_neg (fun z => by omega)] at h
      (try with_reducible refine qq_step ?_); simp [↓qq_nil, ↓qs_assign, ↓qs_augLoc, ↓qs_augSub, ↓qs_expr, ↓qs_ite, ↓qs_while, ↓qs_range, ↓qs_for2, ↓qs_forL, ↓qs_forF, ↓qs_ret, ↓qs_retN, ↓qs_cont, ↓qs_pass, ↓qe_loc, ↓qe_kint, ↓qe_kstr, ↓qe_kbool, ↓qe_knone, ↓qe_glob, ↓qe_tup, ↓qe_list, ↓qe_dict0, ↓qe_attr, ↓qe_sub, ↓qe_slTo, ↓qe_cmp, ↓qe_boolop, ↓qe_not, ↓qe_neg, ↓qe_bin, ↓qe_ife, ↓qe_callF, ↓qe_callM, ↓qe_new, ↓qe_blt, ↓qe_meth, ↓qt_loc, ↓qt_tup, ↓qt_attr, ↓qt_sub, ↓ql_nil, ↓ql_cons, ↓qb_one, ↓qb_cons, cmpV, En.put, bindE, g0, g1, g2, g3, g4, g5, g6, g7, g8, eq_int, eq_cell, tup0, tup1, me7, me8, me9, me10, me11, me12, me13, me14, me15, me16, me17, me18, me19, me20, me21, me22, me23, ms0, ms2, ms3, ms5, -List.map_set, -List.map_append, -List.map_reverse, u1, w0]; (repeat (with_reducible refine qq_step ?_; try simp [↓qq_nil, ↓qs_assign, ↓qs_augLoc, ↓qs_augSub, ↓qs_expr, ↓qs_ite, ↓qs_while, ↓qs_range, ↓qs_for2, ↓qs_forL, ↓qs_forF, ↓qs_ret, ↓qs_retN, ↓qs_cont, ↓qs_pass, ↓qe_loc, ↓qe_kint, ↓qe_kstr, ↓qe_kbool, ↓qe_knone, ↓qe_glob, ↓qe_tup, ↓qe_list, ↓qe_dict0, ↓qe_attr, ↓qe_sub, ↓qe_slTo, ↓qe_cmp, ↓qe_boolop, ↓qe_not, ↓qe_neg, ↓qe_bin, ↓qe_ife, ↓qe_callF, ↓qe_callM, ↓qe_new, ↓qe_blt, ↓qe_meth, ↓qt_loc, ↓qt_tup, ↓qt_attr, ↓qt_sub, ↓ql_nil, ↓ql_cons, ↓qb_one, ↓qb_cons, cmpV, En.put, bindE, g0, g1, g2, g3, g4, g5, g6, g7, g8, eq_int, eq_cell, tup0, tup1, me7, me8, me9, me10, me11, me12, me13, me14, me15, me16, me17, me18, me19, me20, me21, me22, me23, ms0, ms2, ms3, ms5, -List.map_set, -List.map_append, -List.map_reverse, u1, w0])); (try (first | with_reducible refine hold_call ?_ | simp [↓qq_nil, ↓qq_cons, ↓qs_assign, ↓qs_augLoc, ↓qs_augSub, ↓qs_expr, ↓qs_ite, ↓qs_while, ↓qs_range, ↓qs_for2, ↓qs_forL, ↓qs_forF, ↓qs_ret, ↓qs_retN, ↓qs_cont, ↓qs_pass, ↓qe_loc, ↓qe_kint, ↓qe_kstr, ↓qe_kbool, ↓qe_knone, ↓qe_glob, ↓qe_tup, ↓qe_list, ↓qe_dict0, ↓qe_attr, ↓qe_sub, ↓qe_slTo, ↓qe_cmp, ↓qe_boolop, ↓qe_not, ↓qe_neg, ↓qe_bin, ↓qe_ife, ↓qe_callF, ↓qe_callM, ↓qe_new, ↓qe_blt, ↓qe_meth, ↓qt_loc, ↓qt_tup, ↓qt_attr, ↓qt_sub, ↓ql_nil, ↓ql_cons, ↓qb_one, ↓qb_cons, cmpV, En.put, bindE, g0, g1, g2, g3, g4, g5, g6, g7, g8, eq_int, eq_cell, tup0, tup1, me7, me8, me9, me10, me11, me12, me13, me14, me15, me16, me17, me18, me19, me20, me21, me22, me23, ms0, ms2, ms3, ms5, -List.map_set, -List.map_append, -List.map_reverse, u1, w0]))
      exact h _ _ S3 sj (by simp [En.put, h0]) (by simp [En.put, h1])
  by_cases w1 : dipP xs p 3 = 1
  · (try with_reducible refine qq_step ?_); simp [↓qq_nil, ↓qs_assign, ↓qs_augLoc, ↓qs_augSub, ↓qs_expr, ↓qs_ite, ↓qs_while, ↓qs_range, ↓qs_for2, ↓qs_forL, ↓qs_forF, ↓qs_ret, ↓qs_retN, ↓qs_cont, ↓qs_pass, ↓qe_loc, ↓qe_kint, ↓qe_kstr, ↓qe_kbool, ↓qe_knone, ↓qe_glob, ↓qe_tup, ↓qe_list, ↓qe_dict0, ↓qe_attr, ↓qe_sub, ↓qe_slTo, ↓qe_cmp, ↓qe_boolop, ↓qe_not, ↓qe_neg, ↓qe_bin, ↓qe_ife, ↓qe_callF, ↓qe_callM, ↓qe_new, ↓qe_blt, ↓qe_meth, ↓qt_loc, ↓qt_tup, ↓qt_attr, ↓qt_sub, ↓ql_nil, ↓ql_cons, ↓qb_one, ↓qb_cons, cmpV, En.put, bindE, g0, g1, g2, g3, g4, g5, g6, g7, g8, eq_int, eq_cell, tup0, tup1, me7, me8, me9, me10, me11, me12, me13, me14, me15, me16, me17, me18, me19, me20, me21, me22, me23, ms0, ms2, ms3, ms5, -List.map_set, -List.map_append, -List.map_reverse, w1, h1, S3.W.v.cl]; (repeat (with_reducible refine qq_step ?_; try simp [↓qq_nil, ↓qs_assign, ↓qs_augLoc, ↓qs_augSub, ↓qs_expr, ↓qs_ite, ↓qs_while, ↓qs_range, ↓qs_for2, ↓qs_forL, ↓qs_forF, ↓qs_ret, ↓qs_retN, ↓qs_cont, ↓qs_pass, ↓qe_loc, ↓qe_kint, ↓qe_kstr, ↓qe_kbool, ↓qe_knone, ↓qe_glob, ↓qe_tup, ↓qe_list, ↓qe_dict0, ↓qe_attr, ↓qe_sub, ↓qe_slTo, ↓qe_cmp, ↓qe_boolop, ↓qe_not, ↓qe_neg, ↓qe_bin, ↓qe_ife, ↓qe_callF, ↓qe_callM, ↓qe_new, ↓qe_blt, ↓qe_meth, ↓qt_loc, ↓qt_tup, ↓qt_attr, ↓qt_sub, ↓ql_nil, ↓ql_cons, ↓qb_one, ↓qb_cons, cmpV, En.put, bindE, g0, g1, g2, g3, g4, g5, g6, g7, g8, eq_int, eq_cell, tup0, tup1, me7, me8, me9, me10, me11, me12, me13, me14, me15, me16, me17, me18, me19, me20, me21, me22, me23, ms0, ms2, ms3, ms5, -List.map_set, -List.map_append, -List.map_reverse, w1, h1, S3.W.v.cl])); (try (first | with_reducible refine hold_call ?_ | simp [↓qq_nil, ↓qq_cons, ↓qs_assign, ↓qs_augLoc, ↓qs_augSub, ↓qs_expr, ↓qs_ite, ↓qs_while, ↓qs_range, ↓qs_for2, ↓qs_forL, ↓qs_forF, ↓qs_ret, ↓qs_retN, ↓qs_cont, ↓qs_pass, ↓qe_loc, ↓qe_kint, ↓qe_kstr, ↓qe_kbool, ↓qe_knone, ↓qe_glob, ↓qe_tup, ↓qe_list, ↓qe_dict0, ↓qe_attr, ↓qe_sub, ↓qe_slTo, ↓qe_cmp, ↓qe_boolop, ↓qe_not, ↓qe_neg, ↓qe_bin, ↓qe_ife, ↓qe_callF, ↓qe_callM, ↓qe_new, ↓qe_blt, ↓qe_meth, ↓qt_loc, ↓qt_tup, ↓qt_attr, ↓qt_sub, ↓ql_nil, ↓ql_cons, ↓qb_one, ↓qb_cons, cmpV, En.put, bindE, g0, g1, g2, g3, g4, g5, g6, g7, g8, eq_int, eq_cell, tup0, tup1, me7, me8, me9, me10, me11, me12, me13, me14, me15, me16, me17, me18, me19, me20, me21, me22, me23, ms0, ms2, ms3, ms5, -List.map_set, -List.map_append, -List.map_reverse, w1, h1, S3.W.v.cl]))
    refine unbound_ok S3.W.v ks ?_
    by_cases u2 : nextC st c2 = some c2
    · rw [if_neg (fun z => w0 z.1), if_pos ⟨w1, u2⟩] at h
      (try with_reducible refine qq_step ?_); simp [↓qq_nil, ↓qs_assign, ↓qs_augLoc, ↓qs_augSub, ↓qs_expr, ↓qs_ite, ↓qs_while, ↓qs_range, ↓qs_for2, ↓qs_forL, ↓qs_forF, ↓qs_ret, ↓qs_retN, ↓qs_cont, ↓qs_pass, ↓qe_loc, ↓qe_kint, ↓qe_kstr, ↓qe_kbool, ↓qe_knone, ↓qe_glob, ↓qe_tup, ↓qe_list, ↓qe_dict0, ↓qe_attr, ↓qe_sub, ↓qe_slTo, ↓qe_cmp, ↓qe_boolop, ↓qe_not, ↓qe_neg, ↓qe_bin, ↓qe_ife, ↓qe_callF, ↓qe_callM, ↓qe_new, ↓qe_blt, ↓qe_meth, ↓qt_loc, ↓qt_tup, ↓qt_attr, ↓qt_sub, ↓ql_nil, ↓ql_cons, ↓qb_one, ↓qb_cons, cmpV, En.put, bindE, g0, g1, g2, g3, g4, g5, g6, g7, g8, eq_int, eq_cell, tup0, tup1, me7, me8, me9, me10, me11, me12, me13, me14, me15, me16, me17, me18, me19, me20, me21, me22, me23, ms0, ms2, ms3, ms5, -List.map_set, -List.map_append, -List.map_reverse, u2, h1, h2, S3.W.v.cl, cV_eq]; (repeat (with_reducible refine qq_step ?_; try simp [↓qq_nil, ↓qs_assign, ↓qs_augLoc, ↓qs_augSub, ↓qs_expr, ↓qs_ite, ↓qs_while, ↓qs_range, ↓qs_for2, ↓qs_forL, ↓qs_forF, ↓qs_ret, ↓qs_retN, ↓qs_cont, ↓qs_pass, ↓qe_loc, ↓qe_kint, ↓qe_kstr, ↓qe_kbool, ↓qe_knone, ↓qe_glob, ↓qe_tup, ↓qe_list, ↓qe_dict0, ↓qe_attr, ↓qe_sub, ↓qe_slTo, ↓qe_cmp, ↓qe_boolop, ↓qe_not, ↓qe_neg, ↓qe_bin, ↓qe_ife, ↓qe_callF, ↓qe_callM, ↓qe_new, ↓qe_blt, ↓qe_meth, ↓qt_loc, ↓qt_tup, ↓qt_attr, ↓qt_sub, ↓ql_nil, ↓ql_cons, ↓qb_one, ↓qb_cons, cmpV, En.put, bindE, g0, g1, g2, g3, g4, g5, g6, g7, g8, eq_int, eq_cell, tup0, tup1, me7, me8, me9, me10, me11, me12, me13, me14, me15, me16, me17, me18, me19, me20, me21, me22, me23, ms0, ms2, ms3, ms5, -List.map_set, -List.map_append, -List.map_reverse, u2, h1, h2, S3.W.v.cl, cV_eq])); (try (first | with_reducible refine hold_call ?_ | simp [↓qq_nil, ↓qq_cons, ↓qs_assign, ↓qs_augLoc, ↓qs_augSub, ↓qs_expr, ↓qs_ite, ↓qs_while, ↓qs_range, ↓qs_for2, ↓qs_forL, ↓qs_forF, ↓qs_ret, ↓qs_retN, ↓qs_cont, ↓qs_pass, ↓qe_loc, ↓qe_kint, ↓qe_kstr, ↓qe_kbool, ↓qe_knone, ↓qe_glob, ↓qe_tup, ↓qe_list, ↓qe_dict0, ↓qe_attr, ↓qe_sub, ↓qe_slTo, ↓qe_cmp, ↓qe_boolop, ↓qe_not, ↓qe_neg, ↓qe_bin, ↓qe_ife, ↓qe_callF, ↓qe_callM, ↓qe_new, ↓qe_blt, ↓qe_meth, ↓qt_loc, ↓qt_tup, ↓qt_attr, ↓qt_sub, ↓ql_nil, ↓ql_cons, ↓qb_one, ↓qb_cons, cmpV, En.put, bindE, g0, g1, g2, g3, g4, g5, g6, g7, g8, eq_int, eq_cell, tup0, tup1, me7, me8, me9, me10, me11, me12, me13, me14, me15, me16, me17, me18, me19, me20, me21, me22, me23, ms0, ms2, ms3, ms5, -List.map_set, -List.map_append, -List.map_reverse, u2, h1, h2, S3.W.v.cl, cV_eq]))
      refine bind_ok S3.W.v (uv _ u2) ks (by omega) fun σ₄ v4 s4 l4 => ?_
      exact h _ _ (S3.heap (S3.W.turn v4 s4) s4) (sj.trans (s4.weak wh)) (by simp [En.put, h0]) (by simp [En.put, h1])
    · rw [if_neg (fun z => w0 z.1), if_neg (fun z => u2 z.2), if_neg (fun z => by omega)] at h
      (try with_reducible refine qq_step ?_); simp [↓qq_nil, ↓qs_assign, ↓qs_augLoc, ↓qs_augSub, ↓qs_expr, ↓qs_ite, ↓qs_while, ↓qs_range, ↓qs_for2, ↓qs_forL, ↓qs_forF, ↓qs_ret, ↓qs_retN, ↓qs_cont, ↓qs_pass, ↓qe_loc, ↓qe_kint, ↓qe_kstr, ↓qe_kbool, ↓qe_knone, ↓qe_glob, ↓qe_tup, ↓qe_list, ↓qe_dict0, ↓qe_attr, ↓qe_sub, ↓qe_slTo, ↓qe_cmp, ↓qe_boolop, ↓qe_not, ↓qe_neg, ↓qe_bin, ↓qe_ife, ↓qe_callF, ↓qe_callM, ↓qe_new, ↓qe_blt, ↓qe_meth, ↓qt_loc, ↓qt_tup, ↓qt_attr, ↓qt_sub, ↓ql_nil, ↓ql_cons, ↓qb_one, ↓qb_cons, cmpV, En.put, bindE, g0, g1, g2, g3, g4, g5, g6, g7, g8, eq_int, eq_cell, tup0, tup1, me7, me8, me9, me10, me11, me12, me13, me14, me15, me16, me17, me18, me19, me20, me21, me22, me23, ms0, ms2, ms3, ms5, -List.map_set, -List.map_append, -List.map_reverse, u2, w1]; (repeat (with_reducible refine qq_step ?_; try simp [↓qq_nil, ↓qs_assign, ↓qs_augLoc, ↓qs_augSub, ↓qs_expr, ↓qs_ite, ↓qs_while, ↓qs_range, ↓qs_for2, ↓qs_forL, ↓qs_forF, ↓qs_ret, ↓qs_retN, ↓qs_cont, ↓qs_pass, ↓qe_loc, ↓qe_kint, ↓qe_kstr, ↓qe_kbool, ↓qe_knone, ↓qe_glob, ↓qe_tup, ↓qe_list, ↓qe_dict0, ↓qe_attr, ↓qe_sub, ↓qe_slTo, ↓qe_cmp, ↓qe_boolop, ↓qe_not, ↓qe_neg, ↓qe_bin, ↓qe_ife, ↓qe_callF, ↓qe_callM, ↓qe_new, ↓qe_blt, ↓qe_meth, ↓qt_loc, ↓qt_tup, ↓qt_attr, ↓qt_sub, ↓ql_nil, ↓ql_cons, ↓qb_one, ↓qb_cons, cmpV, En.put, bindE, g0, g1, g2, g3, g4, g5, g6, g7, g8, eq_int, eq_cell, tup0, tup1, me7, me8, me9, me10, me11, me12, me13, me14, me15, me16, me17, me18, me19, me20, me21, me22, me23, ms0, ms2, ms3, ms5, -List.map_set, -List.map_append, -List.map_reverse, u2, w1])); (try (first | with_reducible refine hold_call ?_ | simp [↓qq_nil, ↓qq_cons, ↓qs_assign, ↓qs_augLoc, ↓qs_augSub, ↓qs_expr, ↓qs_ite, ↓qs_while, ↓qs_range, ↓qs_for2, ↓qs_forL, ↓qs_forF, ↓qs_ret, ↓qs_retN, ↓qs_cont, ↓qs_pass, ↓qe_loc, ↓qe_kint, ↓qe_kstr, ↓qe_kbool, ↓qe_knone, ↓qe_glob, ↓qe_tup, ↓qe_list, ↓qe_dict0, ↓qe_attr, ↓qe_sub, ↓qe_slTo, ↓qe_cmp, ↓qe_boolop, ↓qe_not, ↓qe_neg, ↓qe_bin, ↓qe_ife, ↓qe_callF, ↓qe_callM, ↓qe_new, ↓qe_blt, ↓qe_meth, ↓qt_loc, ↓qt_tup, ↓qt_attr, ↓qt_sub, ↓ql_nil, ↓ql_cons, ↓qb_one, ↓qb_cons, cmpV, En.put, bindE, g0, g1, g2, g3, g4, g5, g6, g7, g8, eq_int, eq_cell, tup0, tup1, me7, me8, me9, me10, me11, me12, me13, me14, me15, me16, me17, me18, me19, me20, me21, me22, me23, ms0, ms2, ms3, ms5, -List.map_set, -List.map_append, -List.map_reverse, u2, w1]))
      exact h _ _ S3 sj (by simp [En.put, h0]) (by simp [En.put, h1])
  have w2 : dipP xs p 3 = 2 := by omega
  rw [if_neg (fun z => w0 z.1), if_neg (fun z => w1 z.1)] at h
  (try with_reducible refine qq_step ?_); simp [↓qq_nil, ↓qs_assign, ↓qs_augLoc, ↓qs_augSub, ↓qs_expr, ↓qs_ite, ↓qs_while, ↓qs_range, ↓qs_for2, ↓qs_forL, ↓qs_forF, ↓qs_ret, ↓qs_retN, ↓qs_cont, ↓qs_pass, ↓qe_loc, ↓qe_kint, ↓qe_kstr, ↓qe_kbool, ↓qe_knone, ↓qe_glob, ↓qe_tup, ↓qe_list, ↓qe_dict0, ↓qe_attr, ↓qe_sub, ↓qe_slTo, ↓qe_cmp, ↓qe_boolop, ↓qe_not, ↓qe_neg, ↓qe_bin, ↓qe_ife, ↓qe_callF, ↓qe_callM, ↓qe_new, ↓qe_blt, ↓qe_meth, ↓qt_loc, ↓qt_tup, ↓qt_attr, ↓qt_sub, ↓ql_nil, ↓ql_cons, ↓qb_one, ↓qb_cons, cmpV, En.put, bindE, g0, g1, g2, g3, g4, g5, g6, g7, g8, eq_int, eq_cell, tup0, tup1, me7, me8, me9, me10, me11, me12, me13, me14, me15, me16, me17, me18, me19, me20, me21, me22, me23, ms0, ms2, ms3, ms5, -List.map_set, -List.map_append, -List.map_reverse, w2, h1, S3.W.v.cl]; (repeat (with_reducible refine qq_step ?_; try simp [↓qq_nil, ↓qs_assign, ↓qs_augLoc, ↓qs_augSub, ↓qs_expr, ↓qs_ite, ↓qs_while, ↓qs_range, ↓qs_for2, ↓qs_forL, ↓qs_forF, ↓qs_ret, ↓qs_retN, ↓qs_cont, ↓qs_pass, ↓qe_loc, ↓qe_kint, ↓qe_kstr, ↓qe_kbool, ↓qe_knone, ↓qe_glob, ↓qe_tup, ↓qe_list, ↓qe_dict0, ↓qe_attr, ↓qe_sub, ↓qe_slTo, ↓qe_cmp, ↓qe_boolop, ↓qe_not, ↓qe_neg, ↓qe_bin, ↓qe_ife, ↓qe_callF, ↓qe_callM, ↓qe_new, ↓qe_blt, ↓qe_meth, ↓qt_loc, ↓qt_tup, ↓qt_attr, ↓qt_sub, ↓ql_nil, ↓ql_cons, ↓qb_one, ↓qb_cons, cmpV, En.put, bindE, g0, g1, g2, g3, g4, g5, g6, g7, g8, eq_int, eq_cell, tup0, tup1, me7, me8, me9, me10, me11, me12, me13, me14, me15, me16, me17, me18, me19, me20, me21, me22, me23, ms0, ms2, ms3, ms5, -List.map_set, -List.map_append, -List.map_reverse, w2, h1, S3.W.v.cl])); (try (first | with_reducible refine hold_call ?_ | simp [↓qq_nil, ↓qq_cons, ↓qs_assign, ↓qs_augLoc, ↓qs_augSub, ↓qs_expr, ↓qs_ite, ↓qs_while, ↓qs_range, ↓qs_for2, ↓qs_forL, ↓qs_forF, ↓qs_ret, ↓qs_retN, ↓qs_cont, ↓qs_pass, ↓qe_loc, ↓qe_kint, ↓qe_kstr, ↓qe_kbool, ↓qe_knone, ↓qe_glob, ↓qe_tup, ↓qe_list, ↓qe_dict0, ↓qe_attr, ↓qe_sub, ↓qe_slTo, ↓qe_cmp, ↓qe_boolop, ↓qe_not, ↓qe_neg, ↓qe_bin, ↓qe_ife, ↓qe_callF, ↓qe_callM, ↓qe_new, ↓qe_blt, ↓qe_meth, ↓qt_loc, ↓qt_tup, ↓qt_attr, ↓qt_sub, ↓ql_nil, ↓ql_cons, ↓qb_one, ↓qb_cons, cmpV, En.put, bindE, g0, g1, g2, g3, g4, g5, g6, g7, g8, eq_int, eq_cell, tup0, tup1, me7, me8, me9, me10, me11, me12, me13, me14, me15, me16, me17, me18, me19, me20, me21, me22, me23, ms0, ms2, ms3, ms5, -List.map_set, -List.map_append, -List.map_reverse, w2, h1, S3.W.v.cl]))
  refine unbound_ok S3.W.v kh ?_
  by_cases u1 : nextC st c1 = some c1
  · (try with_reducible refine qq_step ?_); simp [↓qq_nil, ↓qs_assign, ↓qs_augLoc, ↓qs_augSub, ↓qs_expr, ↓qs_ite, ↓qs_while, ↓qs_range, ↓qs_for2, ↓qs_forL, ↓qs_forF, ↓qs_ret, ↓qs_retN, ↓qs_cont, ↓qs_pass, ↓qe_loc, ↓qe_kint, ↓qe_kstr, ↓qe_kbool, ↓qe_knone, ↓qe_glob, ↓qe_tup, ↓qe_list, ↓qe_dict0, ↓qe_attr, ↓qe_sub, ↓qe_slTo, ↓qe_cmp, ↓qe_boolop, ↓qe_not, ↓qe_neg, ↓qe_bin, ↓qe_ife, ↓qe_callF, ↓qe_callM, ↓qe_new, ↓qe_blt, ↓qe_meth, ↓qt_loc, ↓qt_tup, ↓qt_attr, ↓qt_sub, ↓ql_nil, ↓ql_cons, ↓qb_one, ↓qb_cons, cmpV, En.put, bindE, g0, g1, g2, g3, g4, g5, g6, g7, g8, eq_int, eq_cell, tup0, tup1, me7, me8, me9, me10, me11, me12, me13, me14, me15, me16, me17, me18, me19, me20, me21, me22, me23, ms0, ms2, ms3, ms5, -List.map_set, -List.map_append, -List.map_reverse, u1, h1, S3.W.v.cl]; (repeat (with_reducible refine qq_step ?_; try simp [↓qq_nil, ↓qs_assign, ↓qs_augLoc, ↓qs_augSub, ↓qs_expr, ↓qs_ite, ↓qs_while, ↓qs_range, ↓qs_for2, ↓qs_forL, ↓qs_forF, ↓qs_ret, ↓qs_retN, ↓qs_cont, ↓qs_pass, ↓qe_loc, ↓qe_kint, ↓qe_kstr, ↓qe_kbool, ↓qe_knone, ↓qe_glob, ↓qe_tup, ↓qe_list, ↓qe_dict0, ↓qe_attr, ↓qe_sub, ↓qe_slTo, ↓qe_cmp, ↓qe_boolop, ↓qe_not, ↓qe_neg, ↓qe_bin, ↓qe_ife, ↓qe_callF, ↓qe_callM, ↓qe_new, ↓qe_blt, ↓qe_meth, ↓qt_loc, ↓qt_tup, ↓qt_attr, ↓qt_sub, ↓ql_nil, ↓ql_cons, ↓qb_one, ↓qb_cons, cmpV, En.put, bindE, g0, g1, g2, g3, g4, g5, g6, g7, g8, eq_int, eq_cell, tup0, tup1, me7, me8, me9, me10, me11, me12, me13, me14, me15, me16, me17, me18, me19, me20, me21, me22, me23, ms0, ms2, ms3, ms5, -List.map_set, -List.map_append, -List.map_reverse, u1, h1, S3.W.v.cl])); (try (first | with_reducible refine hold_call ?_ | simp [↓qq_nil, ↓qq_cons, ↓qs_assign, ↓qs_augLoc, ↓qs_augSub, ↓qs_expr, ↓qs_ite, ↓qs_while, ↓qs_range, ↓qs_for2, ↓qs_forL, ↓qs_forF, ↓qs_ret, ↓qs_retN, ↓qs_cont, ↓qs_pass, ↓qe_loc, ↓qe_kint, ↓qe_kstr, ↓qe_kbool, ↓qe_knone, ↓qe_glob, ↓qe_tup, ↓qe_list, ↓qe_dict0, ↓qe_attr, ↓qe_sub, ↓qe_slTo, ↓qe_cmp, ↓qe_boolop, ↓qe_not, ↓qe_neg, ↓qe_bin, ↓qe_ife, ↓qe_callF, ↓qe_callM, ↓qe_new, ↓qe_blt, ↓qe_meth, ↓qt_loc, ↓qt_tup, ↓qt_attr, ↓qt_sub, ↓ql_nil, ↓ql_cons, ↓qb_one, ↓qb_cons, cmpV, En.put, bindE, g0, g1, g2, g3, g4, g5, g6, g7, g8, eq_int, eq_cell, tup0, tup1, me7, me8, me9, me10, me11, me12, me13, me14, me15, me16, me17, me18, me19, me20, me21, me22, me23, ms0, ms2, ms3, ms5, -List.map_set, -List.map_append, -List.map_reverse, u1, h1, S3.W.v.cl]))
    refine unbound_ok S3.W.v ks ?_
    by_cases u2 : nextC st c2 = some c2
    · rw [if_pos ⟨w2, u1, u2⟩] at h
      (try with_reducible refine qq_step ?_); simp [↓qq_nil, ↓qs_assign, ↓qs_augLoc, ↓qs_augSub, ↓qs_expr, ↓qs_ite, ↓qs_while, ↓qs_range, ↓qs_for2, ↓qs_forL, ↓qs_forF, ↓qs_ret, ↓qs_retN, ↓qs_cont, ↓qs_pass, ↓qe_loc, ↓qe_kint, ↓qe_kstr, ↓qe_kbool, ↓qe_knone, ↓qe_glob, ↓qe_tup, ↓qe_list, ↓qe_dict0, ↓qe_attr, ↓qe_sub, ↓qe_slTo, ↓qe_cmp, ↓qe_boolop, ↓qe_not, ↓qe_neg, ↓qe_bin, ↓qe_ife, ↓qe_callF, ↓qe_callM, ↓qe_new, ↓qe_blt, ↓qe_meth, ↓qt_loc, ↓qt_tup, ↓qt_attr, ↓qt_sub, ↓ql_nil, ↓ql_cons, ↓qb_one, ↓qb_cons, cmpV, En.put, bindE, g0, g1, g2, g3, g4, g5, g6, g7, g8, eq_int, eq_cell, tup0, tup1, me7, me8, me9, me10, me11, me12, me13, me14, me15, me16, me17, me18, me19, me20, me21, me22, me23, ms0, ms2, ms3, ms5, -List.map_set, -List.map_append, -List.map_reverse, u2, h1, S3.W.v.cl]; (repeat (with_reducible refine qq_step ?_; try simp [↓qq_nil, ↓qs_assign, ↓qs_augLoc, ↓qs_augSub, ↓qs_expr, ↓qs_ite, ↓qs_while, ↓qs_range, ↓qs_for2, ↓qs_forL, ↓qs_forF, ↓qs_ret, ↓qs_retN, ↓qs_cont, ↓qs_pass, ↓qe_loc, ↓qe_kint, ↓qe_kstr, ↓qe_kbool, ↓qe_knone, ↓qe_glob, ↓qe_tup, ↓qe_list, ↓qe_dict0, ↓qe_attr, ↓qe_sub, ↓qe_slTo, ↓qe_cmp, ↓qe_boolop, ↓qe_not, ↓qe_neg, ↓qe_bin, ↓qe_ife, ↓qe_callF, ↓qe_callM, ↓qe_new, ↓qe_blt, ↓qe_meth, ↓qt_loc, ↓qt_tup, ↓qt_attr, ↓qt_sub, ↓ql_nil, ↓ql_cons, ↓qb_one, ↓qb_cons, cmpV, En.put, bindE, g0, g1, g2, g3, g4, g5, g6, g7, g8, eq_int, eq_cell, tup0, tup1, me7, me8, me9, me10, me11, me12, me13, me14, me15, me16, me17, me18, me19, me20, me21, me22, me23, ms0, ms2, ms3, ms5, -List.map_set, -List.map_append, -List.map_reverse, u2, h1, S3.W.v.cl])); (try (first | with_reducible refine hold_call ?_ | simp [↓qq_nil, ↓qq_cons, ↓qs_assign, ↓qs_augLoc, ↓qs_augSub, ↓qs_expr, ↓qs_ite, ↓qs_while, ↓qs_range, ↓qs_for2, ↓qs_forL, ↓qs_forF, ↓qs_ret, ↓qs_retN, ↓qs_cont, ↓qs_pass, ↓qe_loc, ↓qe_kint, ↓qe_kstr, ↓qe_kbool, ↓qe_knone, ↓qe_glob, ↓qe_tup, ↓qe_list, ↓qe_dict0, ↓qe_attr, ↓qe_sub, ↓qe_slTo, ↓qe_cmp, ↓qe_boolop, ↓qe_not, ↓qe_neg, ↓qe_bin, ↓qe_ife, ↓qe_callF, ↓qe_callM, ↓qe_new, ↓qe_blt, ↓qe_meth, ↓qt_loc, ↓qt_tup, ↓qt_attr, ↓qt_sub, ↓ql_nil, ↓ql_cons, ↓qb_one, ↓qb_cons, cmpV, En.put, bindE, g0, g1, g2, g3, g4, g5, g6, g7, g8, eq_int, eq_cell, tup0, tup1, me7, me8, me9, me10, me11, me12, me13, me14, me15, me16, me17, me18, me19, me20, me21, me22, me23, ms0, ms2, ms3, ms5, -List.map_set, -List.map_append, -List.map_reverse, u2, h1, S3.W.v.cl]))
      refine pair_ok S3.W.v (uv _ u2) (uv _ u1) ks kh (by omega) fun σ₄ v4 s4 l4 => ?_
      exact h _ _ (S3.heap (S3.W.turn v4 s4) s4) (sj.trans (s4.weak wh)) (by simp [En.put, h0]) (by simp [En.put, h1])
    · rw [if_neg (fun z => u2 z.2.2)] at h
      (try with_reducible refine qq_step ?_); simp [↓qq_nil, ↓qs_assign, ↓qs_augLoc, ↓qs_augSub, ↓qs_expr, ↓qs_ite, ↓qs_while, ↓qs_range, ↓qs_for2, ↓qs_forL, ↓qs_forF, ↓qs_ret, ↓qs_retN, ↓qs_cont, ↓qs_pass, ↓qe_loc, ↓qe_kint, ↓qe_kstr, ↓qe_kbool, ↓qe_knone, ↓qe_glob, ↓qe_tup, ↓qe_list, ↓qe_dict0, ↓qe_attr, ↓qe_sub, ↓qe_slTo, ↓qe_cmp, ↓qe_boolop, ↓qe_not, ↓qe_neg, ↓qe_bin, ↓qe_ife, ↓qe_callF, ↓qe_callM, ↓qe_new, ↓qe_blt, ↓qe_meth, ↓qt_loc, ↓qt_tup, ↓qt_attr, ↓qt_sub, ↓ql_nil, ↓ql_cons, ↓qb_one, ↓qb_cons, cmpV, En.put, bindE, g0, g1, g2, g3, g4, g5, g6, g7, g8, eq_int, eq_cell, tup0, tup1, me7, me8, me9, me10, me11, me12, me13, me14, me15, me16, me17, me18, me19, me20, me21, me22, me23, ms0, ms2, ms3, ms5, -List.map_set, -List.map_append, -List.map_reverse, u2]; (repeat (with_reducible refine qq_step ?_; try simp [↓qq_nil, ↓qs_assign, ↓qs_augLoc, ↓qs_augSub, ↓qs_expr, ↓qs_ite, ↓qs_while, ↓qs_range, ↓qs_for2, ↓qs_forL, ↓qs_forF, ↓qs_ret, ↓qs_retN, ↓qs_cont, ↓qs_pass, ↓qe_loc, ↓qe_kint, ↓qe_kstr, ↓qe_kbool, ↓qe_knone, ↓qe_glob, ↓qe_tup, ↓qe_list, ↓qe_dict0, ↓qe_attr, ↓qe_sub, ↓qe_slTo, ↓qe_cmp, ↓qe_boolop, ↓qe_not, ↓qe_neg, ↓qe_bin, ↓qe_ife, ↓qe_callF, ↓qe_callM, ↓qe_new, ↓qe_blt, ↓qe_meth, ↓qt_loc, ↓qt_tup, ↓qt_attr, ↓qt_sub, ↓ql_nil, ↓ql_cons, ↓qb_one, ↓qb_cons, cmpV, En.put, bindE, g0, g1, g2, g3, g4, g5, g6, g7, g8, eq_int, eq_cell, tup0, tup1, me7, me8, me9, me10, me11, me12, me13, me14, me15, me16, me17, me18, me19, me20, me21, me22, me23, ms0, ms2, ms3, ms5, -List.map_set, -List.map_append, -List.map_reverse, u2])); (try (first | with_reducible refine hold_call ?_ | simp [↓qq_nil, ↓qq_cons, ↓qs_assign, ↓qs_augLoc, ↓qs_augSub, ↓qs_expr, ↓qs_ite, ↓qs_while, ↓qs_range, ↓qs_for2, ↓qs_forL, ↓qs_forF, ↓qs_ret, ↓qs_retN, ↓qs_cont, ↓qs_pass, ↓qe_loc, ↓qe_kint, ↓qe_kstr, ↓qe_kbool, ↓qe_knone, ↓qe_glob, ↓qe_tup, ↓qe_list, ↓qe_dict0, ↓qe_attr, ↓qe_sub, ↓qe_slTo, ↓qe_cmp, ↓qe_boolop, ↓qe_not, ↓qe_neg, ↓qe_bin, ↓qe_ife, ↓qe_callF, ↓qe_callM, ↓qe_new, ↓qe_blt, ↓qe_meth, ↓qt_loc, ↓qt_tup, ↓qt_attr, ↓qt_sub, ↓ql_nil, ↓ql_cons, ↓qb_one, ↓qb_cons, cmpV, En.put, bindE, g0, g1, g2, g3, g4, g5, g6, g7, g8, eq_int, eq_cell, tup0, tup1, me7, me8, me9, me10, me11, me12, me13, me14, me15, me16, me17, me18, me19, me20, me21, me22, me23, ms0, ms2, ms3, ms5, -List.map_set, -List.map_append, -List.map_reverse, u2]))
      exact h _ _ S3 sj (by simp [En.put, h0]) (by simp [En.put, h1])
  · rw [if_neg (fun z => u1 z.2.1)] at h
    (try with_reducible refine qq_step ?_); simp [↓qq_nil, ↓qs_assign, ↓qs_augLoc, ↓qs_augSub, ↓qs_expr, ↓qs_ite, ↓qs_while, ↓qs_range, ↓qs_for2, ↓qs_forL, ↓qs_forF, ↓qs_ret, ↓qs_retN, ↓qs_cont, ↓qs_pass, ↓qe_loc, ↓qe_kint, ↓qe_kstr, ↓qe_kbool, ↓qe_knone, ↓qe_glob, ↓qe_tup, ↓qe_list, ↓qe_dict0, ↓qe_attr, ↓qe_sub, ↓qe_slTo, ↓qe_cmp, ↓qe_boolop, ↓qe_not, ↓qe_neg, ↓qe_bin, ↓qe_ife, ↓qe_callF, ↓qe_callM, ↓qe_new, ↓qe_blt, ↓qe_meth, ↓qt_loc, ↓qt_tup, ↓qt_attr, ↓qt_sub, ↓ql_nil, ↓ql_cons, ↓qb_one, ↓qb_cons, cmpV, En.put, bindE, g0, g1, g2, g3, g4, g5, g6, g7, g8, eq_int, eq_cell, tup0, tup1, me7, me8, me9, me10, me11, me12, me13, me14, me15, me16, me17, me18, me19, me20, me21, me22, me23, ms0, ms2, ms3, ms5, -List.map_set, -List.map_append, -List.map_reverse, u1]; (repeat (with_reducible refine qq_step ?_; try simp [↓qq_nil, ↓qs_assign, ↓qs_augLoc, ↓qs_augSub, ↓qs_expr, ↓qs_ite, ↓qs_while, ↓qs_range, ↓qs_for2, ↓qs_forL, ↓qs_forF, ↓qs_ret, ↓qs_retN, ↓qs_cont, ↓qs_pass, ↓qe_loc, ↓qe_kint, ↓qe_kstr, ↓qe_kbool, ↓qe_knone, ↓qe_glob, ↓qe_tup, ↓qe_list, ↓qe_dict0, ↓qe_attr, ↓qe_sub, ↓qe_slTo, ↓qe_cmp, ↓qe_boolop, ↓qe_not, ↓qe_neg, ↓qe_bin, ↓qe_ife, ↓qe_callF, ↓qe_callM, ↓qe_new, ↓qe_blt, ↓qe_meth, ↓qt_loc, ↓qt_tup, ↓qt_attr, ↓qt_sub, ↓ql_nil, ↓ql_cons, ↓qb_one, ↓qb_cons, cmpV, En.put, bindE, g0, g1, g2, g3, g4, g5, g6, g7, g8, eq_int, eq_cell, tup0, tup1, me7, me8, me9, me10, me11, me12, me13, me14, me15, me16, me17, me18, me19, me20, me21, me22, me23, ms0, ms2, ms3, ms5, -List.map_set, -List.map_append, -List.map_reverse, u1])); (try (first | with_reducible refine hold_call ?_ | simp [↓qq_nil, ↓qq_cons, ↓qs_assign, ↓qs_augLoc, ↓qs_augSub, ↓qs_expr, ↓qs_ite, ↓qs_while, ↓qs_range, ↓qs_for2, ↓qs_forL, ↓qs_forF, ↓qs_ret, ↓qs_retN, ↓qs_cont, ↓qs_pass, ↓qe_loc, ↓qe_kint, ↓qe_kstr, ↓qe_kbool, ↓qe_knone, ↓qe_glob, ↓qe_tup, ↓qe_list, ↓qe_dict0, ↓qe_attr, ↓qe_sub, ↓qe_slTo, ↓qe_cmp, ↓qe_boolop, ↓qe_not, ↓qe_neg, ↓qe_bin, ↓qe_ife, ↓qe_callF, ↓qe_callM, ↓qe_new, ↓qe_blt, ↓qe_meth, ↓qt_loc, ↓qt_tup, ↓qt_attr, ↓qt_sub, ↓ql_nil, ↓ql_cons, ↓qb_one, ↓qb_cons, cmpV, En.put, bindE, g0, g1, g2, g3, g4, g5, g6, g7, g8, eq_int, eq_cell, tup0, tup1, me7, me8, me9, me10, me11, me12, me13, me14, me15, me16, me17, me18, me19, me20, me21, me22, me23, ms0, ms2, ms3, ms5, -List.map_set, -List.map_append, -List.map_reverse, u1]))
    exact h _ _ S3 sj (by simp [En.put, h0]) (by simp [En.put, h1])
end

end Mine
end

/-! C24 -/
noncomputable section
set_option maxHeartbeats 200000
open PySem
namespace Mine

section
variable {m : Nat} {σ σ' : AH} {sy so : Nat} {r : Rc} {st : St} {q : Rs} {to jo lo : Nat} {xs : List Int} {p k : Nat} {fu : List (Int × Int)}

theorem BdInv.bind (B : BdInv st fu) {x v : Cell} (hx : isV x) (hu : nextC st x = some x) (vx : Valid st x) (hv : CellOk st fu v) (h0 : x.1 = 0 → v.1 ≠ 1 ∧ (v.1 = 0 → v.2 ≤ x.2)) (h1 : x.1 = 1 → v.1 = 1 → v.2 ≤ x.2) : BdInv (bindP st x v) fu := by
  refine ⟨bind_wf B.F hx hu vx hv h0 h1, by rw [bind_HL]; exact B.h4, by rw [bind_SL]; exact B.s3, fun e he => ?_⟩
  have : e ∈ st.T ∨ e = entry x := by
    have he : e ∈ (if (if x.1 = 0 then x.2 < st.hb else x.2 < st.bb) then st.T ++ [entry x] else st.T) := he
    split at he <;> split at he <;> first | exact Or.inl he | simpa using he
  rcases this with h | h
  · exact B.te e h
  · subst h
    unfold entry EntryOk
    rcases hx with t | t
    · obtain ⟨a, b⟩ := vx.1 t
      rw [B.h4] at b
      rw [if_pos t, if_pos a]
      exact b
    · obtain ⟨a, b⟩ := vx.2 t
      rw [B.s3] at b
      rw [if_neg (by omega), if_neg (by omega)]
      omega
theorem isV_of {c f : Cell} (e : nextC st c = some f) : isV c := by
  unfold nextC at e
  split at e
  · exact Or.inl ‹_›
  · split at e
    · exact Or.inr ‹_›
    · cases e
theorem int_cell (n : Int) : CellOk st fu (5, n) := ⟨⟨fun z => absurd (show (5 : Int) = 0 from z) (by decide), fun z => absurd (show (5 : Int) = 1 from z) (by decide)⟩, fun z => absurd (show (5 : Int) = 2 from z) (by decide), fun z => absurd (show (5 : Int) = 3 from z) (by decide)⟩
theorem BdInv.href (B : BdInv st fu) {a : Int} (h : 0 ≤ a ∧ a < 4) : CellOk st fu (0, a) := ⟨⟨fun _ => ⟨h.1, by rw [B.h4]; simp; omega⟩, fun z => absurd (show (0 : Int) = 1 from z) (by decide)⟩, fun z => absurd (show (0 : Int) = 2 from z) (by decide), fun z => absurd (show (0 : Int) = 3 from z) (by decide)⟩
theorem BdInv.sref (B : BdInv st fu) {a : Int} (h : 0 ≤ a ∧ a < 3) : CellOk st fu (1, a) := ⟨⟨fun z => absurd (show (1 : Int) = 0 from z) (by decide), fun _ => ⟨h.1, by rw [B.s3]; simp; omega⟩⟩, fun z => absurd (show (1 : Int) = 2 from z) (by decide), fun z => absurd (show (1 : Int) = 3 from z) (by decide)⟩
theorem lap_inv (B : BdInv st fu) (lap : Int) : BdInv (lapP xs p lap st) fu ∧ (lapP xs p lap st).T.length ≤ st.T.length + 1 ∧ (lapP xs p lap st).hb = st.hb ∧ (lapP xs p lap st).bb = st.bb := by
  have ch := B.href (dip_range (xs := xs) (p := p + 1) (lim := 4) (by decide))
  have cs := B.sref (dip_range (xs := xs) (p := p + 2) (lim := 3) (by decide))
  have rh := der_res B.F ch
  have rs := der_res B.F cs
  have kh := (der_end B.F.wf ch.1).1
  have ks := (der_end B.F.wf cs.1).1
  unfold lapP
  dsimp only
  split
  · rename_i h
    refine ⟨B.bind (isV_of h.2) h.2 kh (int_cell _) (fun _ => ⟨fun z => absurd (show (5 : Int) = 1 from z) (by decide), fun z => absurd (show (5 : Int) = 0 from z) (by decide)⟩) (fun _ z => absurd (show (5 : Int) = 1 from z) (by decide)), bind_TL _ _ _, rfl, rfl⟩
  split
  · rename_i h
    refine ⟨B.bind (isV_of h.2) h.2 ks (int_cell _) (fun _ => ⟨fun z => absurd (show (5 : Int) = 1 from z) (by decide), fun z => absurd (show (5 : Int) = 0 from z) (by decide)⟩) (fun _ z => absurd (show (5 : Int) = 1 from z) (by decide)), bind_TL _ _ _, rfl, rfl⟩
  split
  · rename_i h
    by_cases e : der st (1, dipP xs (p + 2) 3) = der st (0, dipP xs (p + 1) 4)
    · unfold pairP
      rw [if_pos e]
      exact ⟨B, by omega, rfl, rfl⟩
    · obtain ⟨x, v, e1, hx, hu, vx, hv, g0, g1⟩ := pairP_cases B.F e (isV_of h.2.2) (isV_of h.2.1) rs rh
      rw [e1]
      exact ⟨B.bind hx hu vx hv g0 g1, bind_TL _ _ _, rfl, rfl⟩
  · exact ⟨B, by omega, rfl, rfl⟩

noncomputable def boundP (xs : List Int) : Nat → Nat → Nat → St → St
  | 0, _, _, st => st
  | n + 1, j, p, st => boundP xs n (j + 1) (p + 3) (lapP xs p j st)
theorem bd_loop {cf : Cf} (hcf : cf = callN P1 fns (m + 3)) {all : List Mine.V} : ∀ (n j p : Nat) (st : St) (σ : AH) (ρ : En) (Q : Fl → En → AH → Prop), Sc σ so r st q k jo lo to xs p → BdInv st (syK k).2 → st.T.length + n < 900 → ρ 0 = some (.obj jo) → ρ 1 = some (.obj so) →
    (∀ σ' ρ', Sc σ' so r (boundP xs n j p st) q k jo lo to xs (p + 3 * n) → BdInv (boundP xs n j p st) (syK k).2 → (boundP xs n j p st).T.length ≤ st.T.length + n → Same [jo, r.h, r.s, r.t] σ σ' → Q .next ρ' σ') →
    forGo all .range (wT P1 cf (.loc 2)) (wSL P1 cf bdBody) (upFrom (j : Int) 1 n) ρ σ Q
  | 0, j, p, st, σ, ρ, Q, S, B, tl, h0, h1, h => ⟨trivial, h σ ρ S B (Nat.le_refl _) (.refl _ _)⟩
  | n + 1, j, p, st, σ, ρ, Q, S, B, tl, h0, h1, h => by
    rw [upFrom_up]
    refine ⟨trivial, ?_⟩
    show wSL P1 cf bdBody (ρ.put 2 (.int j)) σ _
    subst hcf
    obtain ⟨B', t', _, _⟩ := lap_inv (xs := xs) (p := p) B (j : Int)
    refine lap_body S B (by omega) (lap := j) (by simp [En.put, h0]) (by simp [En.put, h1]) (by simp [En.put]) fun σ₁ ρ₁ S1 s1 a0 a1 => ?_
    exact bd_loop rfl n (j + 1) (p + 3) _ σ₁ ρ₁ Q S1 B' (by omega) a0 a1 fun σ₂ ρ₂ S2 B2 t2 s2 => h σ₂ ρ₂ (by rw [show p + 3 * (n + 1) = p + 3 + 3 * n by omega]; exact S2) B2 (by show (boundP xs n (j + 1) (p + 3) (lapP xs p j st)).T.length ≤ _; omega) (s1.trans s2)
theorem bound_keep : ∀ (n j p : Nat) (st : St), BdInv st fu → (boundP xs n j p st).hb = st.hb ∧ (boundP xs n j p st).bb = st.bb
  | 0, j, p, st, B => ⟨rfl, rfl⟩
  | n + 1, j, p, st, B => by
    obtain ⟨B', t', e1, e2⟩ := lap_inv (xs := xs) (p := p) B (j : Int)
    obtain ⟨a, b⟩ := bound_keep n (j + 1) (p + 3) _ B'
    exact ⟨a.trans e1, b.trans e2⟩
noncomputable def lapsP (xs : List Int) (p : Nat) : Nat := (1 + dipP xs p 4).toNat
theorem bound_ok (S : Sc σ so r st q k jo lo to xs p) (B : BdInv st (syK k).2) (tl : st.T.length < 800) {Q : Mine.V → AH → Prop}
    (h : ∀ σ', Sc σ' so r (boundP xs (lapsP xs p) 0 (p + 1) st) q k jo lo to xs (p + 1 + 3 * lapsP xs p) → BdInv (boundP xs (lapsP xs p) 0 (p + 1) st) (syK k).2 → (boundP xs (lapsP xs p) 0 (p + 1) st).T.length ≤ st.T.length + 4 → Same [jo, r.h, r.s, r.t] σ σ' → Q .none σ') : callN P1 fns (m + 4) 38 [.obj jo, .obj so] σ Q := by
  refine call_of (fn := f__law_bound) rfl rfl ?_
  rw [bd_split]
  have hr := dip_range (xs := xs) (p := p) (lim := 4) (by decide)
  show wL P1 _ (.cons _ .nil) _ σ (fun vs σ' => match rangeV vs with | some items => forGo items .range (wT P1 _ (.loc 2)) (wSL P1 _ bdBody) items _ σ' _ | none => False)
  simp only [↓ql_nil, ↓ql_cons, ↓qe_loc, ↓qe_kint, ↓qe_kstr, ↓qe_kbool, ↓qe_knone, ↓qe_glob, ↓qe_tup, ↓qe_list, ↓qe_dict0, ↓qe_attr, ↓qe_sub, ↓qe_slTo, ↓qe_cmp, ↓qe_boolop, ↓qe_not, ↓qe_neg, ↓qe_bin, ↓qe_ife, ↓qe_callF, ↓qe_callM, ↓qe_new, ↓qe_blt, ↓qe_meth, bindE, List.append_eq, List.cons_append, if_true]
  refine dip_ok S.J (by decide) (by decide) fun σ₁ v1 s1 l1 => ?_
  have S1 := S.dip v1 s1
  have e : (1 : Int) + dipP xs p 4 = (lapsP xs p : Int) := by unfold lapsP; omega
  have l4 : lapsP xs p ≤ 4 := by unfold lapsP; omega
  simp only [binV, e]
  rw [range1 (by omega)]
  refine bd_loop rfl (lapsP xs p) 0 (p + 1) st σ₁ _ _ S1 B (by omega) rfl rfl fun σ₂ ρ₂ S2 B2 t2 s2 => ?_
  exact h σ₂ S2 B2 (by omega) ((s1.weak (by simp)).trans s2)
end

end Mine
end

/-! C25 -/
noncomputable section
set_option maxHeartbeats 200000
open PySem
namespace Mine

noncomputable def scTail : SL := (.cons (.assign (.attr (.loc 3) 9) (.bin .add (.kint 1) (.callF 37 (.cons (.loc 2) (.cons (.kint 4) .nil))))) (.cons (.assign (.attr (.loc 3) 10) (.bin .add (.kint 1) (.callF 37 (.cons (.loc 2) (.cons (.kint 3) .nil))))) (.cons (.expr (.callF 38 (.cons (.loc 2) (.cons (.loc 3) .nil)))) (.cons (.assign (.loc 7) (.callF 40 (.cons (.loc 2) (.cons (.loc 1) (.cons (.loc 3) (.cons (.loc 4) .nil)))))) (.cons (.assign (.loc 8) (.callF 40 (.cons (.loc 2) (.cons (.loc 1) (.cons (.loc 3) (.cons (.loc 4) .nil)))))) (.cons (.ret (.tup (.cons (.loc 3) (.cons (.loc 7) (.cons (.loc 8) (.cons (.cmp .eq (.callF 37 (.cons (.loc 2) (.cons (.kint 2) .nil))) (.kint 0)) .nil)))))) .nil))))))
noncomputable def scTab : S := (.for_ (.loc 5) (.blt 1 (.cons (.kint 4) .nil)) (.cons (.assign (.sub (.loc 4) (.loc 5)) (.callM 8 (.loc 3) .nil)) .nil))
noncomputable def scStk : S := (.for_ (.loc 6) (.blt 1 (.cons (.kint 3) .nil)) (.cons (.expr (.callM 17 (.loc 3) (.cons (.loc 6) (.cons (.tup (.cons (.glob 1) (.cons (.loc 6) .nil))) .nil)))) .nil))
noncomputable def scRest : SL := .cons scTab (.cons scStk scTail)
theorem sc_split : f__law_scene.body = (.cons (.assign (.loc 2) (.list (.cons (.slTo (.loc 0) 50) (.cons (.kint 0) .nil)))) (.cons (.assign (.loc 3) (.new 2 (.cons (.loc 1) .nil))) (.cons (.assign (.loc 4) (.dict0 0)) scRest))) := rfl

section
variable {m : Nat} {σ σ' : AH} {sy so : Nat} {r : Rc} {st : St} {q : Rs} {to jo lo : Nat} {xs : List Int} {p k : Nat}

/-- a scene with an empty store -/
structure Sc0 (σ : AH) (so : Nat) (r : Rc) (st : St) (q : Rs) (k : Nat) (jo lo : Nat) (xs : List Int) (p : Nat) : Prop where
  W : Wd σ so r st q (syK k).1 (syK k).2
  J : JarV σ jo lo xs p
  j1 : jo ∉ keptL so r q
  l1 : lo ∉ keptL so r q
  k2 : k ≤ 2

theorem sc_make (hk2 : k ≤ 2) (y : SyView σ sy q (syK k).1 (syK k).2) (e : σ[0]? = some (.list (xs.map .int))) (hx : xs.length < 1000000) {Q : Fl → En → AH → Prop} {L : SL}
    (h : ∀ σ' r so jo lo to, Sc0 σ' so r st0 q k jo lo (xs.take 50) 0 → r.sy = sy → (∀ i ∈ [so, r.d, r.h, r.s, r.t, jo, lo, to], σ.length ≤ i) → σ'[to]? = some (.dictI []) → Same [] σ σ' →
      wSL P1 (callN P1 fns (m + 1)) L ((((bindE 0 [.obj 0, .obj sy]).put 2 (.obj jo)).put 3 (.obj so)).put 4 (.obj to)) σ' Q) :
    wSL P1 (callN P1 fns (m + 1)) (.cons (.assign (.loc 2) (.list (.cons (.slTo (.loc 0) 50) (.cons (.kint 0) .nil)))) (.cons (.assign (.loc 3) (.new 2 (.cons (.loc 1) .nil))) (.cons (.assign (.loc 4) (.dict0 0)) L))) (bindE 0 [.obj 0, .obj sy]) σ Q := by
  have hl : listAt σ (.obj 0) = some (xs.map .int) := by simp only [listAt, e]
  have hinit : P1.init 2 = some 10 := rfl
  simp only [↓qq_nil, ↓qq_cons, ↓qs_assign, ↓qs_augLoc, ↓qs_augSub, ↓qs_expr, ↓qs_ite, ↓qs_while, ↓qs_range, ↓qs_for2, ↓qs_forL, ↓qs_forF, ↓qs_ret, ↓qs_retN, ↓qs_cont, ↓qs_pass, ↓qe_loc, ↓qe_kint, ↓qe_kstr, ↓qe_kbool, ↓qe_knone, ↓qe_glob, ↓qe_tup, ↓qe_list, ↓qe_dict0, ↓qe_attr, ↓qe_sub, ↓qe_slTo, ↓qe_cmp, ↓qe_boolop, ↓qe_not, ↓qe_neg, ↓qe_bin, ↓qe_ife, ↓qe_callF, ↓qe_callM, ↓qe_new, ↓qe_blt, ↓qe_meth, ↓ql_nil, ↓ql_cons, ↓qt_loc, ↓qt_tup, ↓qt_attr, ↓qt_sub, bindE, if_true, hl, List.length_map, hx, hinit]
  rw [← List.map_take]
  have la : (σ ++ [AObj.list (List.map Mine.V.int (List.take 50 xs))]).length = σ.length + 1 := by simp
  have lb : (σ ++ [AObj.list (List.map Mine.V.int (List.take 50 xs))] ++ [AObj.list [Mine.V.obj (List.length σ), Mine.V.int 0]]).length = σ.length + 2 := by simp
  have hv : (En.put (fun j => if j = 0 then some (Mine.V.obj 0) else if j = 0 + 1 then some (Mine.V.obj sy) else none) 2 (Mine.V.obj (σ.length + 1))) 1 = some (.obj sy) := rfl
  rw [la, lb]
  simp only [hv]
  have s0 : Same [] σ (σ ++ [AObj.list (List.map Mine.V.int (List.take 50 xs))] ++ [AObj.list [Mine.V.obj (List.length σ), Mine.V.int 0]] ++ [AObj.ns []] ++ [AObj.inst 2 (σ.length + 2)]) := (((Same.app _).trans (.app _)).trans (.app _)).trans (.app _)
  have g1 : (σ ++ [AObj.list (List.map Mine.V.int (List.take 50 xs))] ++ [AObj.list [Mine.V.obj (List.length σ), Mine.V.int 0]] ++ [AObj.ns []] ++ [AObj.inst 2 (σ.length + 2)])[σ.length]? = some (.list ((xs.take 50).map .int)) := by simp [-List.map_take]
  have g2 : (σ ++ [AObj.list (List.map Mine.V.int (List.take 50 xs))] ++ [AObj.list [Mine.V.obj (List.length σ), Mine.V.int 0]] ++ [AObj.ns []] ++ [AObj.inst 2 (σ.length + 2)])[σ.length + 1]? = some (.list [.obj σ.length, .int 0]) := by simp [-List.map_take]
  have g3 : (σ ++ [AObj.list (List.map Mine.V.int (List.take 50 xs))] ++ [AObj.list [Mine.V.obj (List.length σ), Mine.V.int 0]] ++ [AObj.ns []] ++ [AObj.inst 2 (σ.length + 2)])[σ.length + 2]? = some (.ns []) := by simp [-List.map_take]
  have g4 : (σ ++ [AObj.list (List.map Mine.V.int (List.take 50 xs))] ++ [AObj.list [Mine.V.obj (List.length σ), Mine.V.int 0]] ++ [AObj.ns []] ++ [AObj.inst 2 (σ.length + 2)])[σ.length + 3]? = some (.inst 2 (σ.length + 2)) := by simp [-List.map_take]
  have lc : (σ ++ [AObj.list (List.map Mine.V.int (List.take 50 xs))] ++ [AObj.list [Mine.V.obj (List.length σ), Mine.V.int 0]] ++ [AObj.ns []] ++ [AObj.inst 2 (σ.length + 2)]).length = σ.length + 4 := by simp
  generalize (σ ++ [AObj.list (List.map Mine.V.int (List.take 50 xs))] ++ [AObj.list [Mine.V.obj (List.length σ), Mine.V.int 0]] ++ [AObj.ns []] ++ [AObj.inst 2 (σ.length + 2)]) = τ at *
  refine cells_init (sy := sy) g4 g3 (by omega) fun σ₁ r v ed es far s1 => ⟨rfl, ?_⟩
  have s2 : Same [] σ₁ (σ₁ ++ [AObj.dictI []]) := .app _
  have s3 : Same [σ.length + 2] σ σ₁ := (s0.weak (by simp)).trans s1
  have s4 : Same [] σ σ₁ := s3.strong fun i hi => by
    simp only [List.mem_cons, List.not_mem_nil, or_false] at hi
    exact Or.inr (by omega)
  have sall : Same [] σ (σ₁ ++ [AObj.dictI []]) := s4.trans s2
  have y' := y.same sall (fun i hi => absurd hi (by simp))
  have f1 : σ₁[σ.length]? = _ := s1.get _ _ (fun m => absurd (List.mem_singleton.mp m) (by omega)) g1
  have f2 : σ₁[σ.length + 1]? = _ := s1.get _ _ (fun m => absurd (List.mem_singleton.mp m) (by omega)) g2
  have l4 : σ.length ≤ σ₁.length := Nat.le_trans s0.len s1.len
  subst es
  have yl := y.lt
  rw [lc] at far
  have hk : ∀ i ∈ keptL (σ.length + 3) r q, i = σ.length + 3 ∨ i = σ.length + 2 ∨ σ.length + 4 ≤ i ∨ i < σ.length :=
    List.forall_mem_cons.mpr ⟨.inl rfl, List.forall_mem_cons.mpr ⟨.inr (.inl ed), List.forall_mem_cons.mpr ⟨.inr (.inr (.inl (far r.h (.head _)).1)), List.forall_mem_cons.mpr ⟨.inr (.inr (.inl (far r.s (.tail _ (.head _))).1)), List.forall_mem_cons.mpr ⟨.inr (.inr (.inl (far r.t (.tail _ (.tail _ (.head _)))).1)), fun i hi => .inr (.inr (.inr (yl i hi)))⟩⟩⟩⟩⟩
  have far' : ∀ i ∈ [r.h, r.s, r.t], σ.length ≤ i := fun i hi => Nat.le_trans (Nat.le_add_right _ _) (far i hi).1
  refine h (σ₁ ++ [AObj.dictI []]) r (σ.length + 3) (σ.length + 1) σ.length σ₁.length ⟨⟨v.app _, y', ?_⟩, ⟨s2.get _ _ (fun m => nomatch m) f2, s2.get _ _ (fun m => nomatch m) f1, Nat.succ_ne_zero _, by rw [List.length_take]; omega⟩, fun hm => ?_, fun hm => ?_, hk2⟩ rfl ?_ (by simp) sall
  · exact fun i hi hm => Nat.lt_irrefl _ (Nat.lt_of_lt_of_le (yl i (by
      rcases List.mem_cons.mp hm with e | e
      · exact e ▸ .tail _ (.tail _ (.head _))
      · exact List.mem_singleton.mp e ▸ .tail _ (.tail _ (.tail _ (.tail _ (.head _)))))) (far' i hi))
  · rcases hk _ hm with z | z | z | z <;> clear far far' hk yl <;> omega
  · rcases hk _ hm with z | z | z | z <;> clear far far' hk yl <;> omega
  · exact List.forall_mem_cons.mpr ⟨Nat.le_add_right _ _, List.forall_mem_cons.mpr ⟨ed ▸ Nat.le_add_right _ _, List.forall_mem_cons.mpr ⟨far' _ (.head _), List.forall_mem_cons.mpr ⟨far' _ (.tail _ (.head _)), List.forall_mem_cons.mpr ⟨far' _ (.tail _ (.tail _ (.head _))), List.forall_mem_cons.mpr ⟨Nat.le_add_right _ _, List.forall_mem_cons.mpr ⟨Nat.le_refl _, List.forall_mem_cons.mpr ⟨l4, fun _ hm => nomatch hm⟩⟩⟩⟩⟩⟩⟩⟩
end

end Mine
end

/-! C26 -/
noncomputable section
set_option maxHeartbeats 200000
open PySem
namespace Mine

section
variable {m : Nat} {σ σ' : AH} {sy so : Nat} {r : Rc} {st : St} {q : Rs} {to jo lo : Nat} {xs : List Int} {p k : Nat}

theorem Sc0.heap (S : Sc0 σ so r st q k jo lo xs p) {st' : St} {X : List Nat} (v : View σ' so r st') (s : Same X σ σ') (hX : ∀ i ∈ X, i ∈ [r.h, r.s, r.t]) : Sc0 σ' so r st' q k jo lo xs p := by
  have hj : ∀ i, i ∉ keptL so r q → i ∉ X := fun i h hm => h (by
    have := hX i hm
    simp only [keptL, List.mem_cons, List.not_mem_nil, or_false] at this ⊢
    rcases this with h | h | h <;> simp [h])
  exact ⟨S.W.turn v (s.weak hX), S.J.same s (hj _ S.j1) (hj _ S.l1), S.j1, S.l1, S.k2⟩
theorem Sc0.off (S : Sc0 σ so r st q k jo lo xs p) {to : Nat} {o : AObj} (s : Same [to] σ σ') (h : to ∉ keptL so r q) (hj : to ≠ jo) (hl : to ≠ lo) : Sc0 σ' so r st q k jo lo xs p :=
  ⟨S.W.same s (fun i hi => by simp only [List.mem_cons, List.not_mem_nil, or_false] at hi; subst hi; exact h), S.J.same s (by simp [Ne.symm hj]) (by simp [Ne.symm hl]), S.j1, S.l1, S.k2⟩

noncomputable def tabE (j : Nat) : List (Int × Mine.V) := (List.range j).map fun (i : Nat) => ((i : Int), cV (0, (i : Int)))
noncomputable def newsH (j : Nat) : List Cell := (List.range j).map fun (i : Nat) => ((0 : Int), (i : Int))
theorem tabE_put {j : Nat} (h : j < 4) : vPut (tabE j) (j : Int) (cV (0, (j : Int))) = tabE (j + 1) := by
  have : j = 0 ∨ j = 1 ∨ j = 2 ∨ j = 3 := by omega
  rcases this with h | h | h | h <;> subst h <;> rfl
theorem newsH_succ (j : Nat) : newsH j ++ [(0, (j : Int))] = newsH (j + 1) := by unfold newsH; rw [List.range_succ, List.map_append]; rfl
theorem tab_loop {cf : Cf} (hcf : cf = callN P1 fns (m + 2)) {all : List Mine.V} : ∀ (n j : Nat) (σ : AH) (st : St) (ρ : En) (Q : Fl → En → AH → Prop), n + j = 4 → Sc0 σ so r st q k jo lo xs p → st.H = newsH j → to ∉ keptL so r q → to ≠ jo → to ≠ lo → σ[to]? = some (.dictI (tabE j)) → ρ 3 = some (.obj so) → ρ 4 = some (.obj to) →
    (∀ σ' ρ', Sc0 σ' so r { st with H := newsH 4 } q k jo lo xs p → σ'[to]? = some (.dictI (tabE 4)) → Same [to, r.h] σ σ' → (∀ i, i ≠ 5 → ρ' i = ρ i) → Q .next ρ' σ') →
    forGo all .range (wT P1 cf (.loc 5)) (wSL P1 cf (.cons (.assign (.sub (.loc 4) (.loc 5)) (.callM 8 (.loc 3) .nil)) .nil)) (upFrom (j : Int) 1 n) ρ σ Q
  | 0, j, σ, st, ρ, Q, hn, S, hH, t1, t2, t3, e, h3, h4, h => by
    have : j = 4 := by omega
    subst this
    refine ⟨trivial, h σ ρ ?_ e (.refl _ _) (fun _ _ => rfl)⟩
    rw [← hH]
    exact S
  | n + 1, j, σ, st, ρ, Q, hn, S, hH, t1, t2, t3, e, h3, h4, h => by
    rw [upFrom_up]
    refine ⟨trivial, ?_⟩
    have hl : st.H.length = j := by rw [hH]; simp [newsH]
    subst hcf
    simp [↓qq_nil, ↓qq_cons, ↓qs_assign, ↓qs_augLoc, ↓qs_augSub, ↓qs_expr, ↓qs_ite, ↓qs_while, ↓qs_range, ↓qs_for2, ↓qs_forL, ↓qs_forF, ↓qs_ret, ↓qs_retN, ↓qs_cont, ↓qs_pass, ↓qe_loc, ↓qe_kint, ↓qe_kstr, ↓qe_kbool, ↓qe_knone, ↓qe_glob, ↓qe_tup, ↓qe_list, ↓qe_dict0, ↓qe_attr, ↓qe_sub, ↓qe_slTo, ↓qe_cmp, ↓qe_boolop, ↓qe_not, ↓qe_neg, ↓qe_bin, ↓qe_ife, ↓qe_callF, ↓qe_callM, ↓qe_new, ↓qe_blt, ↓qe_meth, ↓qt_loc, ↓qt_tup, ↓qt_attr, ↓qt_sub, ↓ql_nil, ↓ql_cons, ↓qb_one, ↓qb_cons, cmpV, En.put, bindE, g0, g1, g2, g3, g4, g5, g6, g7, g8, eq_int, eq_cell, tup0, tup1, me7, me8, me9, me10, me11, me12, me13, me14, me15, me16, me17, me18, me19, me20, me21, me22, me23, ms0, ms2, ms3, ms5, -List.map_set, -List.map_append, -List.map_reverse, h3, h4, S.W.v.cl]
    refine newvar_ok S.W.v (by omega) fun σ₁ v1 s1 l1 => ?_
    have hth : to ≠ r.h := fun z => t1 (by simp [keptL, z])
    have e1 := s1.get _ _ (by simp [hth]) e
    have S1 := S.heap v1 s1 (by simp)
    have hp : itemPut σ₁ (.obj to) (.int j) (cV (0, (j : Int))) = some (σ₁.set to (.dictI (tabE (j + 1)))) := by
      simp only [itemPut, e1, dictPut]
      rw [if_pos (by simp [tabE]; omega), tabE_put (by omega)]
      rfl
    rw [hl] at S1 ⊢
    rw [hH, newsH_succ] at S1
    simp only [hp]
    have s2 : Same [to] σ₁ (σ₁.set to (.dictI (tabE (j + 1)))) := .set (by simp)
    refine tab_loop rfl n (j + 1) (σ₁.set to (.dictI (tabE (j + 1)))) { st with H := newsH (j + 1) } ((ρ.put 5 (.int j))) _ (by omega) (S1.off (o := .dictI []) s2 t1 t2 t3) rfl t1 t2 t3 (by rw [set_get, if_pos rfl, if_pos (lt_of_get e1)]) (by simp [En.put, h3]) (by simp [En.put, h4]) fun σ₂ ρ₂ S2 e2 s3 hρ => ?_
    exact h σ₂ ρ₂ S2 e2 (((s1.weak (by simp)).trans (s2.weak (by simp))).trans s3) fun i hi => by rw [hρ i hi]; simp [En.put, hi]
end

end Mine
end

/-! C27 -/
noncomputable section
set_option maxHeartbeats 200000
open PySem
namespace Mine

section
variable {m : Nat} {σ σ' : AH} {sy so : Nat} {r : Rc} {st : St} {q : Rs} {to jo lo : Nat} {xs : List Int} {p k : Nat}

noncomputable def newsS (j : Nat) : List Cell := (List.range j).map fun (i : Nat) => ((1 : Int), (i : Int))
theorem newsS_succ (j : Nat) : newsS j ++ [(1, (j : Int))] = newsS (j + 1) := by unfold newsS; rw [List.range_succ, List.map_append]; rfl
noncomputable def stkB : SL := (.cons (.expr (.callM 17 (.loc 3) (.cons (.loc 6) (.cons (.tup (.cons (.glob 1) (.cons (.loc 6) .nil))) .nil)))) .nil)
theorem stk_body (S : Sc0 σ so r st q k jo lo xs p) {j : Nat} (hl : st.S.length = j) (hj : j < 50) {ρ : En} {Q : Fl → En → AH → Prop} (h3 : ρ 3 = some (.obj so)) (h6 : ρ 6 = some (.int j))
    (h : ∀ σ', Sc0 σ' so r { st with S := st.S ++ [(1, (j : Int))] } q k jo lo xs p → Same [r.s] σ σ' → Q .next ρ σ') : wSL P1 (callN P1 fns (m + 2)) stkB ρ σ Q := by
  simp [stkB, ↓qq_nil, ↓qq_cons, ↓qs_assign, ↓qs_augLoc, ↓qs_augSub, ↓qs_expr, ↓qs_ite, ↓qs_while, ↓qs_range, ↓qs_for2, ↓qs_forL, ↓qs_forF, ↓qs_ret, ↓qs_retN, ↓qs_cont, ↓qs_pass, ↓qe_loc, ↓qe_kint, ↓qe_kstr, ↓qe_kbool, ↓qe_knone, ↓qe_glob, ↓qe_tup, ↓qe_list, ↓qe_dict0, ↓qe_attr, ↓qe_sub, ↓qe_slTo, ↓qe_cmp, ↓qe_boolop, ↓qe_not, ↓qe_neg, ↓qe_bin, ↓qe_ife, ↓qe_callF, ↓qe_callM, ↓qe_new, ↓qe_blt, ↓qe_meth, ↓qt_loc, ↓qt_tup, ↓qt_attr, ↓qt_sub, ↓ql_nil, ↓ql_cons, ↓qb_one, ↓qb_cons, cmpV, En.put, bindE, g0, g1, g2, g3, g4, g5, g6, g7, g8, eq_int, eq_cell, tup0, tup1, me7, me8, me9, me10, me11, me12, me13, me14, me15, me16, me17, me18, me19, me20, me21, me22, me23, ms0, ms2, ms3, ms5, -List.map_set, -List.map_append, -List.map_reverse, h3, h6, S.W.v.cl, cV_eq]
  subst hl
  refine stackput_ok (m := m + 1) (c := (1, (st.S.length : Int))) S.W.v (by omega) fun σ₁ v1 s1 l1 => ?_
  exact h σ₁ (S.heap v1 s1 (by simp)) s1
theorem stk_loop {cf : Cf} (hcf : cf = callN P1 fns (m + 2)) {all : List Mine.V} : ∀ (n j : Nat) (σ : AH) (st : St) (ρ : En) (Q : Fl → En → AH → Prop), n + j = 3 → Sc0 σ so r st q k jo lo xs p → st.S = newsS j → ρ 3 = some (.obj so) →
    (∀ σ' ρ', Sc0 σ' so r { st with S := newsS 3 } q k jo lo xs p → Same [r.s] σ σ' → (∀ i, i ≠ 6 → ρ' i = ρ i) → Q .next ρ' σ') →
    forGo all .range (wT P1 cf (.loc 6)) (wSL P1 cf stkB) (upFrom (j : Int) 1 n) ρ σ Q
  | 0, j, σ, st, ρ, Q, hn, S, hS, h3, h => by
    have : j = 3 := by omega
    subst this
    refine ⟨trivial, h σ ρ ?_ (.refl _ _) (fun _ _ => rfl)⟩
    rw [← hS]
    exact S
  | n + 1, j, σ, st, ρ, Q, hn, S, hS, h3, h => by
    rw [upFrom_up]
    refine ⟨trivial, ?_⟩
    have hl : st.S.length = j := by rw [hS]; simp [newsS]
    subst hcf
    show wSL P1 (callN P1 fns (m + 2)) stkB (ρ.put 6 (.int j)) σ _
    refine stk_body S hl (by omega) (by simp [En.put, h3]) (by simp [En.put]) fun σ₁ S1 s1 => ?_
    rw [hS, newsS_succ] at S1
    refine stk_loop rfl n (j + 1) σ₁ { st with S := newsS (j + 1) } (ρ.put 6 (.int j)) _ (by omega) S1 rfl (by simp [En.put, h3]) fun σ₂ ρ₂ S2 s3 hρ => ?_
    exact h σ₂ ρ₂ S2 (s1.trans s3) fun i hi => by rw [hρ i hi]; simp [En.put, hi]

/-- the store of a scene after its variables -/
noncomputable def st1 : St := ⟨newsH 4, newsS 3, [], 0, 0⟩
theorem tabE4 : AObj.dictI (tabE 4) = tabD := rfl
end

end Mine
end

/-! C28 -/
noncomputable section
set_option maxHeartbeats 200000
open PySem
namespace Mine

section
variable {m : Nat} {σ σ' : AH} {sy so : Nat} {r : Rc} {st : St} {q : Rs} {to jo lo : Nat} {xs : List Int} {p k : Nat}

theorem for_range {cf : Cf} {t : T} {n : Nat} (hn : n < 1000) {b : SL} {ρ : En} {Q : Fl → En → AH → Prop} (h : forGo (upFrom 0 1 n) .range (wT P1 cf t) (wSL P1 cf b) (upFrom 0 1 n) ρ σ Q) : wS P1 cf (.for_ t (.blt 1 (.cons (.kint (n : Int)) .nil)) b) ρ σ Q := by
  have r4 := range1 hn
  simp only [↓qs_assign, ↓qs_augLoc, ↓qs_augSub, ↓qs_expr, ↓qs_ite, ↓qs_while, ↓qs_range, ↓qs_for2, ↓qs_forL, ↓qs_forF, ↓qs_ret, ↓qs_retN, ↓qs_cont, ↓qs_pass, ↓ql_nil, ↓ql_cons, ↓qe_loc, ↓qe_kint, ↓qe_kstr, ↓qe_kbool, ↓qe_knone, ↓qe_glob, ↓qe_tup, ↓qe_list, ↓qe_dict0, ↓qe_attr, ↓qe_sub, ↓qe_slTo, ↓qe_cmp, ↓qe_boolop, ↓qe_not, ↓qe_neg, ↓qe_bin, ↓qe_ife, ↓qe_callF, ↓qe_callM, ↓qe_new, ↓qe_blt, ↓qe_meth]
  rw [r4]
  exact h
theorem sc_rest {cf : Cf} (hcf : cf = callN P1 fns (m + 2)) (S : Sc0 σ so r st0 q k jo lo xs 0) (t1 : to ∉ keptL so r q) (e : σ[to]? = some (.dictI [])) {ρ : En} {Q : Fl → En → AH → Prop} (h3 : ρ 3 = some (.obj so)) (h4 : ρ 4 = some (.obj to))
    (h : ∀ σ' ρ', Sc σ' so r st1 q k jo lo to xs 0 → Same [to, r.h, r.s] σ σ' → (∀ i, i < 5 → ρ' i = ρ i) → wSL P1 cf scTail ρ' σ' Q) : wSL P1 cf scRest ρ σ Q := by
  have t2 : to ≠ jo := ne_of_get e S.J.j (fun h => nomatch h)
  have t3 : to ≠ lo := ne_of_get e S.J.l (fun h => nomatch h)
  refine for_range (n := 4) (by omega) ?_
  refine tab_loop hcf 4 0 σ st0 ρ _ rfl S rfl t1 t2 t3 e h3 h4 fun σ₁ ρ₁ S1 e1 s1 hρ1 => ?_
  refine for_range (n := 3) (by omega) ?_
  refine stk_loop hcf 3 0 σ₁ _ ρ₁ _ rfl S1 rfl (by rw [hρ1 3 (by decide), h3]) fun σ₂ ρ₂ S2 s2 hρ2 => ?_
  have hts : to ≠ r.s := fun z => t1 (by simp [keptL, z])
  have e2 := s2.get _ _ (by simp [hts]) e1
  refine h σ₂ ρ₂ ⟨S2.W, S2.J, e2, S2.j1, S2.l1, S2.k2⟩ ((s1.weak (by intro i hi; simp at hi ⊢; omega)).trans (s2.weak (by simp))) fun i hi => ?_
  rw [hρ2 i (by omega), hρ1 i (by omega)]
end

end Mine
end

/-! C29 -/
noncomputable section
set_option maxHeartbeats 200000
open PySem
namespace Mine

structure Scn where
  st : St
  one : Cell
  two : Cell
  occ : Bool
  k : Nat
noncomputable def sceneP (xs : List Int) (k : Nat) : Scn :=
  let st2 : St := { st1 with hb := 1 + dipP xs 0 4, bb := 1 + dipP xs 1 3 }
  let n := lapsP xs 2
  let st3 := boundP xs n 0 3 st2
  let a := sideP xs (3 + 3 * n) st3 k
  let b := sideP xs a.2.2.1 a.2.1 a.2.2.2
  ⟨b.2.1, a.1, b.1, decide (dipP xs b.2.2.1 2 = 0), b.2.2.2⟩

section
variable {m : Nat} {σ σ' : AH} {sy so : Nat} {r : Rc} {st : St} {q : Rs} {to jo lo : Nat} {xs : List Int} {p k : Nat}
theorem Sc.put (S : Sc σ so r st q k jo lo to xs p) (st' : St) (e1 : st'.H = st.H) (e2 : st'.S = st.S) (e3 : st'.T = st.T) : Sc (σ.set r.d (.ns (nsL r st'))) so r st' q k jo lo to xs p := by
  have hd : r.d ∈ keptL so r q := by simp [keptL]
  have s : Same [r.d] σ (σ.set r.d (.ns (nsL r st'))) := .set (by simp)
  refine ⟨S.W.put st' e1 e2 e3, S.J.same s ?_ ?_, s.get _ _ ?_ S.t, S.j1, S.l1, S.k2⟩
  · simp only [List.mem_cons, List.not_mem_nil, or_false]; exact fun z => S.j1 (z ▸ hd)
  · simp only [List.mem_cons, List.not_mem_nil, or_false]; exact fun z => S.l1 (z ▸ hd)
  · simp only [List.mem_cons, List.not_mem_nil, or_false]; exact ne_of_get S.t S.W.v.ns (fun h => nomatch h)
theorem st1_inv (a b : Int) (fu : List (Int × Int)) : BdInv { st1 with hb := a, bb := b } fu := by
  have hH : ∀ (i : Nat) (c : Cell), (newsH 4)[i]? = some c → i < 4 ∧ c = (0, (i : Int)) := by
    intro i c h
    have hi := (List.getElem?_eq_some_iff.mp h).1
    have hi : i < 4 := by simpa [newsH] using hi
    refine ⟨hi, ?_⟩
    have : i = 0 ∨ i = 1 ∨ i = 2 ∨ i = 3 := by omega
    rcases this with z | z | z | z <;> subst z <;> exact (Option.some.inj h).symm
  have hS : ∀ (i : Nat) (c : Cell), (newsS 3)[i]? = some c → i < 3 ∧ c = (1, (i : Int)) := by
    intro i c h
    have hi := (List.getElem?_eq_some_iff.mp h).1
    have hi : i < 3 := by simpa [newsS] using hi
    refine ⟨hi, ?_⟩
    have : i = 0 ∨ i = 1 ∨ i = 2 := by omega
    rcases this with z | z | z <;> subst z <;> exact (Option.some.inj h).symm
  refine ⟨⟨⟨fun i c h => ?_, fun i c h => ?_⟩, fun i c h => ?_, fun i c h => ?_⟩, rfl, rfl, fun e h => by cases h⟩
  · obtain ⟨l, z⟩ := hH i c h
    subst z
    exact ⟨⟨fun _ => ⟨Int.natCast_nonneg _, by show (i : Int).toNat < 4; omega⟩, fun z => absurd (show (0 : Int) = 1 from z) (by decide)⟩, fun z => absurd (show (0 : Int) = 1 from z) (by decide), fun _ => Int.le_refl _⟩
  · obtain ⟨l, z⟩ := hS i c h
    subst z
    exact ⟨⟨fun z => absurd (show (1 : Int) = 0 from z) (by decide), fun _ => ⟨Int.natCast_nonneg _, by show (i : Int).toNat < 3; omega⟩⟩, fun _ => Int.le_refl _⟩
  · obtain ⟨l, z⟩ := hH i c h
    subst z
    exact ⟨fun z => absurd (show (0 : Int) = 2 from z) (by decide), fun z => absurd (show (0 : Int) = 3 from z) (by decide)⟩
  · obtain ⟨l, z⟩ := hS i c h
    subst z
    exact ⟨fun z => absurd (show (1 : Int) = 2 from z) (by decide), fun z => absurd (show (1 : Int) = 3 from z) (by decide)⟩
end

end Mine
end

/-! C30 -/
noncomputable section
set_option maxHeartbeats 200000
open PySem
namespace Mine

section
variable {m : Nat} {σ σ' : AH} {sy so : Nat} {r : Rc} {st : St} {q : Rs} {to jo lo : Nat} {xs : List Int} {p k : Nat}

theorem sideP_len (xs : List Int) (p : Nat) (st : St) (k : Nat) : (sideP xs p st k).2.1.H.length ≤ st.H.length + 5 ∧ (sideP xs p st k).2.1.S = st.S ∧ (sideP xs p st k).2.1.T = st.T ∧ (sideP xs p st k).2.1.hb = st.hb ∧ (sideP xs p st k).2.1.bb = st.bb := by
  unfold sideP
  split
  · exact ⟨by simp, rfl, rfl, rfl, rfl⟩
  split
  · exact ⟨by simp, rfl, rfl, rfl, rfl⟩
  split
  · exact ⟨by simp, rfl, rfl, rfl, rfl⟩
  · exact ⟨by simp, rfl, rfl, rfl, rfl⟩

theorem sc_tail (S : Sc σ so r st1 q k jo lo to xs 0) {ρ : En} {Q : Fl → En → AH → Prop} (h1 : ρ 1 = some (.obj r.sy)) (h2 : ρ 2 = some (.obj jo)) (h3 : ρ 3 = some (.obj so)) (h4 : ρ 4 = some (.obj to))
    (h : ∀ σ' ρ', Wd σ' so r (sceneP xs k).st q (syK (sceneP xs k).k).1 (syK (sceneP xs k).k).2 → (sceneP xs k).k ≤ 2 → Same [jo, r.h, r.s, r.t, r.d, q.tx, q.an, q.fu, q.fn] σ σ' → Q (.ret (.tup [.obj so, cV (sceneP xs k).one, cV (sceneP xs k).two, .bool (sceneP xs k).occ])) ρ' σ') : wSL P1 (callN P1 fns (m + 5)) scTail ρ σ Q := by
  have hq : ∀ {τ : AH} {st : St} (v : View τ so r st) (x : Int), attrPut τ (.obj so) 9 (.int x) = some (τ.set r.d (.ns (nsL r { st with hb := x }))) := fun v x => v.put9 x
  simp [scTail, ↓qq_nil, ↓qq_cons, ↓qs_assign, ↓qs_augLoc, ↓qs_augSub, ↓qs_expr, ↓qs_ite, ↓qs_while, ↓qs_range, ↓qs_for2, ↓qs_forL, ↓qs_forF, ↓qs_ret, ↓qs_retN, ↓qs_cont, ↓qs_pass, ↓qe_loc, ↓qe_kint, ↓qe_kstr, ↓qe_kbool, ↓qe_knone, ↓qe_glob, ↓qe_tup, ↓qe_list, ↓qe_dict0, ↓qe_attr, ↓qe_sub, ↓qe_slTo, ↓qe_cmp, ↓qe_boolop, ↓qe_not, ↓qe_neg, ↓qe_bin, ↓qe_ife, ↓qe_callF, ↓qe_callM, ↓qe_new, ↓qe_blt, ↓qe_meth, ↓qt_loc, ↓qt_tup, ↓qt_attr, ↓qt_sub, ↓ql_nil, ↓ql_cons, ↓qb_one, ↓qb_cons, cmpV, En.put, bindE, g0, g1, g2, g3, g4, g5, g6, g7, g8, eq_int, eq_cell, tup0, tup1, me7, me8, me9, me10, me11, me12, me13, me14, me15, me16, me17, me18, me19, me20, me21, me22, me23, ms0, ms2, ms3, ms5, -List.map_set, -List.map_append, -List.map_reverse, h1, h2, h3, h4]
  refine dip_ok S.J (by decide) (by decide) fun σ₁ v1 s1 l1 => ?_
  have S1 := S.dip v1 s1
  have wX : ∀ {τ τ' : AH} {X : List Nat}, Same X τ τ' → (∀ i ∈ X, i ∈ [jo, r.h, r.s, r.t, r.d, q.tx, q.an, q.fu, q.fn]) → Same [jo, r.h, r.s, r.t, r.d, q.tx, q.an, q.fu, q.fn] τ τ' := fun s w => s.weak w
  simp only [binV, S1.W.v.put9]
  have S2 := S1.put { st1 with hb := 1 + dipP xs 0 4 } rfl rfl rfl
  have s2 : Same [r.d] σ₁ (σ₁.set r.d (.ns (nsL r { st1 with hb := 1 + dipP xs 0 4 }))) := .set (by simp)
  generalize (σ₁.set r.d (.ns (nsL r { st1 with hb := 1 + dipP xs 0 4 }))) = σ₂ at *
  refine dip_ok S2.J (by decide) (by decide) fun σ₃ v3 s3 l3 => ?_
  have S3 := S2.dip v3 s3
  simp only [binV, S3.W.v.put10]
  have S4 := S3.put { st1 with hb := 1 + dipP xs 0 4, bb := 1 + dipP xs 1 3 } rfl rfl rfl
  have s4 : Same [r.d] σ₃ (σ₃.set r.d (.ns (nsL r { st1 with hb := 1 + dipP xs 0 4, bb := 1 + dipP xs 1 3 }))) := .set (by simp)
  generalize (σ₃.set r.d (.ns (nsL r { st1 with hb := 1 + dipP xs 0 4, bb := 1 + dipP xs 1 3 }))) = σ₄ at *
  refine bound_ok (m := m + 1) S4 (st1_inv _ _ _) (show (0 : Nat) < 800 by decide) fun σ₅ S5 B5 t5 s5 => ?_
  refine side_ok (m := m) S5 (by rw [B5.h4]; decide) fun σ₆ S6 s6 => ?_
  have l6 := (sideP_len xs (0 + 1 + 1 + 1 + 3 * lapsP xs (0 + 1 + 1)) (boundP xs (lapsP xs (0 + 1 + 1)) 0 (0 + 1 + 1 + 1) { st1 with hb := 1 + dipP xs 0 4, bb := 1 + dipP xs 1 3 }) k).1
  rw [B5.h4] at l6
  refine side_ok (m := m) S6 (by omega) fun σ₇ S7 s7 => ?_
  refine dip_ok S7.J (by decide) (by decide) fun σ₈ v8 s8 l8 => ?_
  have S8 := S7.dip v8 s8
  simp only [eq_int]
  refine h σ₈ _ S8.W S8.k2 ?_
  have a1 := (wX s1 (by simp)).trans (wX s2 (by simp))
  have a2 := (wX s3 (by simp)).trans (wX s4 (by simp))
  have a3 := (wX s5 (by simp)).trans (wX s6 (by simp [turnL]))
  have a4 := (wX s7 (by simp [turnL])).trans (wX s8 (by simp))
  exact (a1.trans a2).trans (a3.trans a4)
end

end Mine
end

/-! C31 -/
noncomputable section
set_option maxHeartbeats 200000
open PySem
namespace Mine

section
variable {m : Nat} {σ σ' : AH} {sy : Nat} {q : Rs} {xs : List Int} {k : Nat}

theorem to_off {so to : Nat} {r : Rc} {st : St} {es : List (Int × Mine.V)} (W : Wd σ so r st q (syK k).1 (syK k).2) (e1 : σ[to]? = some (.dictI es)) : to ∉ keptL so r q := by
  simp only [keptL, List.mem_cons, List.not_mem_nil, or_false, not_or]
  exact ⟨ne_of_get e1 W.v.inst (fun h => nomatch h), ne_of_get e1 W.v.ns (fun h => nomatch h), ne_of_get e1 W.v.h (fun h => nomatch h), ne_of_get e1 W.v.s (fun h => nomatch h), ne_of_get e1 W.v.t (fun h => nomatch h), ne_of_get e1 W.y.inst (fun h => nomatch h), ne_of_get e1 W.y.ns (fun h => nomatch h), ne_of_get e1 W.y.ltx (fun h => nomatch h), ne_of_get e1 W.y.an (fun h => nomatch h), ne_of_get e1 W.y.lfu (fun h => nomatch h), ne_of_get e1 W.y.fn (fun h => nomatch h)⟩
theorem same_join {σ₁ σ₂ σ₃ : AH} {r : Rc} {to jo so : Nat} {lo : Nat} (s1 : Same [] σ σ₁) (s2 : Same [to, r.h, r.s] σ₁ σ₂) (s3 : Same [jo, r.h, r.s, r.t, r.d, q.tx, q.an, q.fu, q.fn] σ₂ σ₃) (far : ∀ i ∈ [so, r.d, r.h, r.s, r.t, jo, lo, to], σ.length ≤ i) : Same [q.tx, q.an, q.fu, q.fn] σ σ₃ := by
  have b1 : Same [to, jo, r.h, r.s, r.t, r.d, q.tx, q.an, q.fu, q.fn] σ σ₁ := s1.weak (by simp)
  have b2 : Same [to, jo, r.h, r.s, r.t, r.d, q.tx, q.an, q.fu, q.fn] σ₁ σ₂ := s2.weak (by simp)
  have b3 : Same [to, jo, r.h, r.s, r.t, r.d, q.tx, q.an, q.fu, q.fn] σ₂ σ₃ := s3.weak fun i hi => List.mem_cons_of_mem _ hi
  refine ((b1.trans b2).trans b3).strong fun i hi => ?_
  have hf := far i
  simp only [List.mem_cons, List.not_mem_nil, or_false] at hi hf ⊢
  rcases hi with h | h | h | h | h | h | h | h | h | h
  · exact Or.inr (hf (by simp [h]))
  · exact Or.inr (hf (by simp [h]))
  · exact Or.inr (hf (by simp [h]))
  · exact Or.inr (hf (by simp [h]))
  · exact Or.inr (hf (by simp [h]))
  · exact Or.inr (hf (by simp [h]))
  · exact Or.inl (by simp [h])
  · exact Or.inl (by simp [h])
  · exact Or.inl (by simp [h])
  · exact Or.inl (by simp [h])
theorem scene_ok (hk : k ≤ 2) (y : SyView σ sy q (syK k).1 (syK k).2) (e : σ[0]? = some (.list (xs.map .int))) (hx : xs.length < 1000000) {Q : Mine.V → AH → Prop}
    (h : ∀ σ' so r, Wd σ' so r (sceneP (xs.take 50) k).st q (syK (sceneP (xs.take 50) k).k).1 (syK (sceneP (xs.take 50) k).k).2 → r.sy = sy → (sceneP (xs.take 50) k).k ≤ 2 → (∀ i ∈ [so, r.d, r.h, r.s, r.t], σ.length ≤ i) → Same [q.tx, q.an, q.fu, q.fn] σ σ' → Q (.tup [.obj so, cV (sceneP (xs.take 50) k).one, cV (sceneP (xs.take 50) k).two, .bool (sceneP (xs.take 50) k).occ]) σ') : callN P1 fns (m + 6) 41 [.obj 0, .obj sy] σ Q := by
  refine call_of (fn := f__law_scene) rfl rfl ?_
  rw [sc_split]
  refine sc_make (m := m + 4) hk y e hx fun σ₁ r so jo lo to S1 es far e1 s1 => ?_
  have y1 := y
  have kl : to ∉ keptL so r q :=  to_off S1.W e1
  refine sc_rest (m := m + 3) rfl S1 kl e1 rfl rfl fun σ₂ ρ₂ S2 s2 hρ => ?_
  subst es
  refine sc_tail (m := m) S2 (by rw [hρ 1 (by decide)]; rfl) (by rw [hρ 2 (by decide)]; rfl) (by rw [hρ 3 (by decide)]; rfl) (by rw [hρ 4 (by decide)]; rfl) fun σ₃ ρ₃ W3 k3 s3 => ?_
  refine h σ₃ so r W3 rfl k3 (fun i hi => far i (by simp at hi ⊢; omega)) ?_
  exact same_join s1 s2 s3 far
end

end Mine
end

/-! C32 -/
noncomputable section
set_option maxHeartbeats 200000
open PySem
namespace Mine

noncomputable def cD (c : Cell) : PyData := .tuple [.int c.1, .int c.2]
noncomputable def stD (st : St) : PyData := .tuple [.list (st.H.map cD), .list (st.S.map cD), .list (st.T.map .int), .int st.hb, .int st.bb]
theorem cells_lay : ∀ l : List Cell, PyData.canLayAll0 (l.map cD) = true ∧ PyData.depthAll (l.map cD) ≤ 1
  | [] => ⟨rfl, by decide⟩
  | c :: l => by
    obtain ⟨a, b⟩ := cells_lay l
    refine ⟨?_, ?_⟩
    · show (PyData.canLay0 (cD c) && PyData.canLayAll0 (l.map cD)) = true
      rw [a]; rfl
    · show max (PyData.depth (cD c)) (PyData.depthAll (l.map cD)) ≤ 1
      have : PyData.depth (cD c) = 1 := rfl
      omega
theorem ints_lay : ∀ l : List Int, PyData.canLayAll0 (l.map .int) = true ∧ PyData.depthAll (l.map .int) ≤ 0
  | [] => ⟨rfl, by decide⟩
  | c :: l => by
    obtain ⟨a, b⟩ := ints_lay l
    refine ⟨?_, ?_⟩
    · show (PyData.canLay0 (.int c) && PyData.canLayAll0 (l.map .int)) = true
      rw [a]; rfl
    · show max (PyData.depth (.int c)) (PyData.depthAll (l.map .int)) ≤ 0
      have : PyData.depth (.int c) = 0 := rfl
      omega
theorem stD_shaped (st : St) : SeqAt.shaped (stD st) = true := by
  obtain ⟨a1, a2⟩ := cells_lay st.H
  obtain ⟨b1, b2⟩ := cells_lay st.S
  obtain ⟨c1, c2⟩ := ints_lay st.T
  unfold SeqAt.shaped
  refine Bool.and_eq_true_iff.mpr ⟨?_, decide_eq_true ?_⟩
  · simp only [stD, PyData.canLay0, PyData.canLayAll0, a1, b1, c1, Bool.and_self]
  · simp only [stD, PyData.depth, PyData.depthAll]
    omega

theorem py_cells (σ : AH) (n : Nat) : ∀ l : List Cell, toPyL (toPy σ (n + 2)) (l.map cV) = some (l.map cD)
  | [] => rfl
  | c :: l => by
    have ih := py_cells σ n l
    have h1 : toPy σ (n + 2) (cV c) = some (cD c) := rfl
    show (match toPy σ _ _, toPyL (toPy σ _) (l.map _) with | some d, some ds => some (d :: ds) | _, _ => none) = _
    rw [ih]; rfl
theorem py_ints (σ : AH) (n : Nat) : ∀ l : List Int, toPyL (toPy σ (n + 1)) (l.map V.int) = some (l.map .int)
  | [] => rfl
  | c :: l => by
    have ih := py_ints σ n l
    have h1 : toPy σ (n + 1) (V.int c) = some (.int c) := rfl
    show (match toPy σ _ _, toPyL (toPy σ _) (l.map _) with | some d, some ds => some (d :: ds) | _, _ => none) = _
    rw [ih]; rfl

theorem py_obj {σ : AH} {n i : Nat} {xs : List V} (e : σ[i]? = some (.list xs)) : toPy σ (n + 1) (.obj i) = (toPyL (toPy σ n) xs).map .list := by
  show (match σ[i]? with | some (.list xs) => (toPyL (toPy σ n) xs).map PyData.list | _ => none) = _
  rw [e]
/-- what law_state gives -/
noncomputable def StV (σ : AH) (st : St) (v : V) : Prop := ∃ a b c : Nat, v = .tup [.obj a, .obj b, .obj c, .int st.hb, .int st.bb] ∧ σ[a]? = some (.list (st.H.map cV)) ∧ σ[b]? = some (.list (st.S.map cV)) ∧ σ[c]? = some (.list (st.T.map .int))
theorem StV.py {σ : AH} {st : St} {v : V} (h : StV σ st v) : toPy σ 6 v = some (stD st) := by
  obtain ⟨a, b, c, rfl, ha, hb, hc⟩ := h
  have h1 : toPy σ 5 (.obj a) = some (.list (st.H.map cD)) := by rw [py_obj ha, py_cells σ 2 st.H]; rfl
  have h2 : toPy σ 5 (.obj b) = some (.list (st.S.map cD)) := by rw [py_obj hb, py_cells σ 2 st.S]; rfl
  have h3 : toPy σ 5 (.obj c) = some (.list (st.T.map .int)) := by rw [py_obj hc, py_ints σ 3 st.T]; rfl
  have h4 : ∀ i, toPy σ 5 (.int i) = some (.int i) := fun _ => rfl
  have h0 : toPy σ 6 (.tup [.obj a, .obj b, .obj c, .int st.hb, .int st.bb]) = (toPyL (toPy σ 5) [.obj a, .obj b, .obj c, .int st.hb, .int st.bb]).map .tuple := rfl
  rw [h0]
  show ((match toPy σ 5 (.obj a), (match toPy σ 5 (.obj b), (match toPy σ 5 (.obj c), some [PyData.int st.hb, .int st.bb] with | some d, some ds => some (d :: ds) | _, _ => none) with | some d, some ds => some (d :: ds) | _, _ => none) with | some d, some ds => some (d :: ds) | _, _ => none) : Option (List PyData)).map PyData.tuple = _
  rw [h1, h2, h3]
  rfl
theorem StV.ne {σ : AH} {st : St} {v w : V} (h : StV σ st v) (k : StV σ st w) : cmpV σ .ne v w = some false := by
  have : eqV σ v w = some true := by
    unfold eqV
    rw [h.py, k.py]
    have hs := stD_shaped st
    simp only [hs, Bool.and_self, if_true]
    rw [SeqAt.eqv_refl _ (SeqAt.canLay_of_shaped hs)]
  show (eqV σ v w).map (!·) = _
  rw [this]; rfl
theorem StV.same {σ σ' : AH} {st : St} {v : V} (h : StV σ st v) {X : List Nat} (s : Same X σ σ') (hX : ∀ i, (∃ k, v = .tup k ∧ V.obj i ∈ k) → i ∉ X) : StV σ' st v := by
  obtain ⟨a, b, c, rfl, ha, hb, hc⟩ := h
  exact ⟨a, b, c, rfl, s.get _ _ (hX a ⟨_, rfl, by simp⟩) ha, s.get _ _ (hX b ⟨_, rfl, by simp⟩) hb, s.get _ _ (hX c ⟨_, rfl, by simp⟩) hc⟩

section
variable {m : Nat} {σ σ' : AH} {so : Nat} {r : Rc} {st : St} {Q : V → AH → Prop}
theorem list_copy {o : Nat} {xs : List V} (e : σ[o]? = some (.list xs)) (hl : xs.length < 1000000) : bltV σ 2 [.obj o] = some (.obj σ.length, σ ++ [.list xs]) := by
  simp only [bltV, e]
  rw [if_pos hl]
/-- the copies lie above -/
noncomputable def StN (σ : AH) (n : Nat) (st : St) (v : V) : Prop := ∃ a b c : Nat, n ≤ a ∧ n ≤ b ∧ n ≤ c ∧ v = .tup [.obj a, .obj b, .obj c, .int st.hb, .int st.bb] ∧ σ[a]? = some (.list (st.H.map cV)) ∧ σ[b]? = some (.list (st.S.map cV)) ∧ σ[c]? = some (.list (st.T.map .int))
theorem StN.v {n : Nat} {v : V} (h : StN σ n st v) : StV σ st v := let ⟨a, b, c, _, _, _, e, x, y, z⟩ := h; ⟨a, b, c, e, x, y, z⟩
theorem StN.same {n : Nat} {v : V} (h : StN σ n st v) {X : List Nat} (s : Same X σ σ') (hX : ∀ i ∈ X, i < n) : StN σ' n st v := by
  obtain ⟨a, b, c, h1, h2, h3, e, x, y, z⟩ := h
  exact ⟨a, b, c, h1, h2, h3, e, s.get _ _ (fun m => by have := hX _ m; omega) x, s.get _ _ (fun m => by have := hX _ m; omega) y, s.get _ _ (fun m => by have := hX _ m; omega) z⟩
theorem state_ok (v : View σ so r st) (h : ∀ σ' w, StN σ' σ.length st w → Same [] σ σ' → Q w σ') : callN P1 fns (m + 1) 42 [.obj so] σ Q := by
  refine call_of (fn := f__law_state) rfl rfl ?_
  have v1 := v.app [.list (st.H.map cV)]
  have v2 := v1.app [.list (st.S.map cV)]
  have v3 := v2.app [.list (st.T.map .int)]
  have c1 := list_copy v.h (by rw [List.length_map]; have := v.hl; omega)
  have c2 := list_copy v1.s (by rw [List.length_map]; have := v.sl; omega)
  have c3 := list_copy v2.t (by rw [List.length_map]; have := v.tl; omega)
  simp only [f__law_state, ↓qq_nil, ↓qq_cons, ↓qs_assign, ↓qs_augLoc, ↓qs_augSub, ↓qs_expr, ↓qs_ite, ↓qs_while, ↓qs_range, ↓qs_for2, ↓qs_forL, ↓qs_forF, ↓qs_ret, ↓qs_retN, ↓qs_cont, ↓qs_pass, ↓qe_loc, ↓qe_kint, ↓qe_kstr, ↓qe_kbool, ↓qe_knone, ↓qe_glob, ↓qe_tup, ↓qe_list, ↓qe_dict0, ↓qe_attr, ↓qe_sub, ↓qe_slTo, ↓qe_cmp, ↓qe_boolop, ↓qe_not, ↓qe_neg, ↓qe_bin, ↓qe_ife, ↓qe_callF, ↓qe_callM, ↓qe_new, ↓qe_blt, ↓qe_meth, ↓ql_nil, ↓ql_cons, bindE, List.append_nil, if_true, v.a6, c1, v1.a7, c2, v2.a8, c3, v3.a9, v3.a10]
  refine h _ _ ⟨σ.length, _, _, Nat.le_refl _, ?_, ?_, rfl, ?_, ?_, ?_⟩ (((Same.app _).trans (.app _)).trans (.app _))
  · simp
  · simp
  · rw [List.append_assoc, List.append_assoc]; simp
  · rw [List.append_assoc]; simp
  · simp
end

end Mine
end

/-! C33 -/
noncomputable section
set_option maxHeartbeats 200000
open PySem
namespace Mine

theorem syK_has : ∀ K ≤ 2, (1 ≤ K → ∃ a, (syK K).2[32]? = some (a, 1)) ∧ (2 ≤ K → ∃ a, (syK K).2[33]? = some (a, 2)) := by
  intro K hK
  have h1 := (syK_g 1 (by decide)).2.1
  have h2 := syK_h 1 (by decide) (by decide)
  have : K = 0 ∨ K = 1 ∨ K = 2 := by omega
  rcases this with h | h | h <;> subst h
  · exact ⟨fun h => by omega, fun h => by omega⟩
  · exact ⟨fun _ => ⟨_, h1⟩, fun h => by omega⟩
  · exact ⟨fun _ => ⟨_, h2.2.2⟩, fun _ => ⟨_, h2.2.1⟩⟩

section
variable {st st' : St} {fu : List (Int × Int)} {xs : List Int} {p k : Nat}

theorem valid_more {H' : List Cell} {c : Cell} (h : Valid st c) : Valid { st with H := st.H ++ H' } c := ⟨fun t => ⟨(h.1 t).1, by have := (h.1 t).2; simp; omega⟩, h.2⟩
theorem sound_more {H' : List Cell} {c : Cell} (h : Sound2 st fu c) : Sound2 { st with H := st.H ++ H' } fu c := by
  refine ⟨fun t => ?_, fun t => ?_⟩
  · obtain ⟨a, f, b, n, e, h0, e2, n0, n1, hl⟩ := h.1 t
    exact ⟨a, f, b, n, by rw [List.getElem?_append_left (List.getElem?_eq_some_iff.mp e).1]; exact e, h0, e2, n0, n1, by simp <;> omega⟩
  · obtain ⟨a, b⟩ := h.2 t
    exact ⟨a, by simp <;> omega⟩
theorem cell_more {H' : List Cell} {c : Cell} (h : CellOk st fu c) : CellOk { st with H := st.H ++ H' } fu c := ⟨valid_more h.1, sound_more h.2⟩
theorem wf_more (F : WF2 st fu) {H' : List Cell} (h : ∀ (i : Nat) (c : Cell), H'[i]? = some c → CellOk { st with H := st.H ++ H' } fu c ∧ c.1 ≠ 1 ∧ (c.1 = 0 → c.2 ≤ (st.H.length + i : Nat))) : WF2 { st with H := st.H ++ H' } fu := by
  have hh : ∀ (a : Nat) (c : Cell), (st.H ++ H')[a]? = some c → CellOk { st with H := st.H ++ H' } fu c ∧ c.1 ≠ 1 ∧ (c.1 = 0 → c.2 ≤ a) := by
    intro a c e
    by_cases l : a < st.H.length
    · rw [List.getElem?_append_left l] at e
      obtain ⟨a1, a2, a3⟩ := F.wf.heap a c e
      exact ⟨⟨valid_more a1, sound_more (F.hs a c e)⟩, a2, a3⟩
    · rw [List.getElem?_append_right (by omega)] at e
      obtain ⟨a1, a2, a3⟩ := h _ c e
      exact ⟨a1, a2, fun t => by have := a3 t; omega⟩
  exact ⟨⟨fun a c e => ⟨(hh a c e).1.1, (hh a c e).2⟩, fun a c e => ⟨valid_more (F.wf.stack a c e).1, (F.wf.stack a c e).2⟩⟩, fun a c e => (hh a c e).1.2, fun a c e => sound_more (F.ss a c e)⟩

theorem plain_cell {t n : Int} (h0 : t ≠ 0) (h1 : t ≠ 1) (h2 : t ≠ 2) (h3 : t ≠ 3) : CellOk st fu (t, n) := ⟨⟨fun z => absurd (show t = 0 from z) h0, fun z => absurd (show t = 1 from z) h1⟩, fun z => absurd (show t = 2 from z) h2, fun z => absurd (show t = 3 from z) h3⟩
theorem heap_cell {a : Int} (h0 : 0 ≤ a) (h1 : a.toNat < st.H.length) : CellOk st fu (0, a) := ⟨⟨fun _ => ⟨h0, h1⟩, fun z => absurd (show (0 : Int) = 1 from z) (by decide)⟩, fun z => absurd (show (0 : Int) = 2 from z) (by decide), fun z => absurd (show (0 : Int) = 3 from z) (by decide)⟩
theorem stack_cell {a : Int} (h0 : 0 ≤ a) (h1 : a.toNat < st.S.length) : CellOk st fu (1, a) := ⟨⟨fun z => absurd (show (1 : Int) = 0 from z) (by decide), fun _ => ⟨h0, h1⟩⟩, fun z => absurd (show (1 : Int) = 2 from z) (by decide), fun z => absurd (show (1 : Int) = 3 from z) (by decide)⟩
theorem str_cell {a f b n : Int} (h0 : 0 ≤ a) (e : st.H[a.toNat]? = some (6, f)) (f0 : 0 ≤ f) (e2 : fu[f.toNat]? = some (b, n)) (n0 : 0 ≤ n) (n1 : n < 100) (hl : a.toNat + n.toNat < st.H.length) : CellOk st fu (2, a) := ⟨⟨fun z => absurd (show (2 : Int) = 0 from z) (by decide), fun z => absurd (show (2 : Int) = 1 from z) (by decide)⟩, fun _ => ⟨h0, f, b, n, e, f0, e2, n0, n1, hl⟩, fun z => absurd (show (2 : Int) = 3 from z) (by decide)⟩
theorem pt_cell {pt : Pt} (h : pt.ok) (hl : 4 ≤ st.H.length) : CellOk st fu pt.cell := by
  cases pt with
  | v k => exact heap_cell (by omega) (by have : k < 4 := h; simp; omega)
  | i n => exact plain_cell (by decide) (by decide) (by decide) (by decide)
theorem pt_down {pt : Pt} (h : pt.ok) {a : Nat} (ha : 4 ≤ a) : pt.cell.1 ≠ 1 ∧ (pt.cell.1 = 0 → pt.cell.2 ≤ a) := by
  cases pt with
  | v k => exact ⟨fun z => absurd (show (0 : Int) = 1 from z) (by decide), fun _ => by have : k < 4 := h; show (k : Int) ≤ a; omega⟩
  | i n => exact ⟨fun z => absurd (show (5 : Int) = 1 from z) (by decide), fun z => absurd (show (5 : Int) = 0 from z) (by decide)⟩

theorem two_get {α : Type} {P : Nat → α → Prop} {a b : α} (h0 : P 0 a) (h1 : P 1 b) : ∀ (i : Nat) (c : α), [a, b][i]? = some c → P i c
  | 0, c, e => by cases e; exact h0
  | 1, c, e => by cases e; exact h1
  | n + 2, c, e => by simp at e
theorem five_get {α : Type} {P : Nat → α → Prop} {a b c d x : α} (h0 : P 0 a) (h1 : P 1 b) (h2 : P 2 c) (h3 : P 3 d) (h4 : P 4 x) : ∀ (i : Nat) (y : α), [a, b, c, d, x][i]? = some y → P i y
  | 0, c, e => by cases e; exact h0
  | 1, c, e => by cases e; exact h1
  | 2, c, e => by cases e; exact h2
  | 3, c, e => by cases e; exact h3
  | 4, c, e => by cases e; exact h4
  | n + 5, c, e => by simp at e

theorem side_inv (F : WF2 st fu) (hS : st.S.length = 3) (hH : 4 ≤ st.H.length) (hg : 2 ≤ dipP xs p 5 → ∃ a, fu[32]? = some (a, 1)) (hh : 3 ≤ dipP xs p 5 → ∃ a, fu[33]? = some (a, 2)) :
    WF2 (sideP xs p st k).2.1 fu ∧ CellOk (sideP xs p st k).2.1 fu (sideP xs p st k).1 ∧ ∀ c, CellOk st fu c → CellOk (sideP xs p st k).2.1 fu c := by
  have hr := dip_range (xs := xs) (p := p) (lim := 5) (by decide)
  have hr3 := dip_range (xs := xs) (p := p + 1) (lim := 3) (by decide)
  have hr4 := dip_range (xs := xs) (p := p + 1) (lim := 4) (by decide)
  have k1 : (partP xs (p + 1)).ok := partP_ok
  have k2 : (partP xs (p + 2)).ok := partP_ok
  unfold sideP
  by_cases c0 : dipP xs p 5 = 0
  · rw [if_pos c0]
    have hlt : (dipP xs (p + 1) 3).toNat < st.S.length := by rw [hS]; omega
    exact ⟨F, stack_cell hr3.1 hlt, fun _ h => h⟩
  rw [if_neg c0]
  by_cases c1 : dipP xs p 5 = 1
  · rw [if_pos c1]
    have hlt : (dipP xs (p + 1) 4).toNat < st.H.length := by omega
    exact ⟨F, heap_cell hr4.1 hlt, fun _ h => h⟩
  rw [if_neg c1]
  obtain ⟨a, ea⟩ := hg (by omega)
  by_cases c2 : dipP xs p 5 = 2
  · rw [if_pos c2]
    dsimp only
    refine ⟨wf_more F (two_get ⟨plain_cell (by decide) (by decide) (by decide) (by decide), by decide, fun z => absurd (show (6 : Int) = 0 from z) (by decide)⟩ ⟨pt_cell k1 (by simp <;> omega), pt_down k1 (by omega)⟩), ?_, fun c h => cell_more h⟩
    exact str_cell (f := 32) (b := a) (n := 1) (by omega) (by simp) (by decide) ea (by decide) (by decide) (by simp)
  rw [if_neg c2]
  obtain ⟨b, eb⟩ := hh (by omega)
  dsimp only
  have hstr : CellOk { st with H := st.H ++ [(6, 33), (2, (st.H.length : Int) + 3), (partP xs (p + 2)).cell, (6, 32), (partP xs (p + 1)).cell] } fu (2, (st.H.length : Int) + 3) :=
    str_cell (f := 32) (b := a) (n := 1) (by omega) (by
      have : ((st.H.length : Int) + 3).toNat = st.H.length + 3 := by omega
      rw [this, List.getElem?_append_right (by omega)]
      have : st.H.length + 3 - st.H.length = 3 := by omega
      rw [this]; rfl) (by decide) ea (by decide) (by decide) (by simp <;> omega)
  refine ⟨wf_more F (five_get ⟨plain_cell (by decide) (by decide) (by decide) (by decide), by decide, fun z => absurd (show (6 : Int) = 0 from z) (by decide)⟩ ⟨hstr, fun z => absurd (show (2 : Int) = 1 from z) (by decide), fun z => absurd (show (2 : Int) = 0 from z) (by decide)⟩ ⟨pt_cell k2 (by simp <;> omega), pt_down k2 (by omega)⟩
    ⟨plain_cell (by decide) (by decide) (by decide) (by decide), by decide, fun z => absurd (show (6 : Int) = 0 from z) (by decide)⟩ ⟨pt_cell k1 (by simp <;> omega), pt_down k1 (by omega)⟩), ?_, fun c h => cell_more h⟩
  exact str_cell (f := 33) (b := b) (n := 2) (by omega) (by simp) (by decide) eb (by decide) (by decide) (by simp)

theorem bound_inv : ∀ (n j p : Nat) (st : St), BdInv st fu → BdInv (boundP xs n j p st) fu ∧ (boundP xs n j p st).T.length ≤ st.T.length + n
  | 0, j, p, st, B => ⟨B, by show st.T.length ≤ _; omega⟩
  | n + 1, j, p, st, B => by
    obtain ⟨B', t', _, _⟩ := lap_inv (xs := xs) (p := p) B (j : Int)
    obtain ⟨a, b⟩ := bound_inv n (j + 1) (p + 3) _ B'
    exact ⟨a, by show (boundP xs n (j + 1) (p + 3) (lapP xs p j st)).T.length ≤ _; omega⟩

/-- what the names' number becomes -/
noncomputable def sideK (xs : List Int) (p k : Nat) : Nat := if dipP xs p 5 = 0 then k else if dipP xs p 5 = 1 then k else if dipP xs p 5 = 2 then max k 1 else 2
theorem side_k (xs : List Int) (p : Nat) (st : St) (k : Nat) : (sideP xs p st k).2.2.2 = sideK xs p k := by
  unfold sideP sideK
  split
  · rfl
  split
  · rfl
  split
  · rfl
  · rfl
theorem side_any (xs : List Int) (p : Nat) (st : St) (k k' : Nat) : (sideP xs p st k).1 = (sideP xs p st k').1 ∧ (sideP xs p st k).2.1 = (sideP xs p st k').2.1 ∧ (sideP xs p st k).2.2.1 = (sideP xs p st k').2.2.1 := by
  unfold sideP
  split
  · exact ⟨rfl, rfl, rfl⟩
  split
  · exact ⟨rfl, rfl, rfl⟩
  split
  · exact ⟨rfl, rfl, rfl⟩
  · exact ⟨rfl, rfl, rfl⟩
theorem sideK_le {k : Nat} (hk : k ≤ 2) : k ≤ sideK xs p k ∧ sideK xs p k ≤ 2 ∧ (2 ≤ dipP xs p 5 → 1 ≤ sideK xs p k) ∧ (3 ≤ dipP xs p 5 → 2 ≤ sideK xs p k) := by
  unfold sideK
  split
  · omega
  split
  · omega
  split
  · omega
  · omega
theorem sideK_stay {k : Nat} (hk : k ≤ 2) (h1 : 2 ≤ dipP xs p 5 → 1 ≤ k) (h2 : 3 ≤ dipP xs p 5 → 2 ≤ k) : sideK xs p k = k := by
  have hr := dip_range (xs := xs) (p := p) (lim := 5) (by decide)
  unfold sideK
  split
  · omega
  split
  · omega
  split
  · have := h1 (by omega); omega
  · have := h2 (by omega); omega

theorem scene_any (xs : List Int) (k : Nat) : (sceneP xs k).st = (sceneP xs 0).st ∧ (sceneP xs k).one = (sceneP xs 0).one ∧ (sceneP xs k).two = (sceneP xs 0).two ∧ (sceneP xs k).occ = (sceneP xs 0).occ := by
  unfold sceneP
  dsimp only
  generalize boundP xs (lapsP xs 2) 0 3 { st1 with hb := 1 + dipP xs 0 4, bb := 1 + dipP xs 1 3 } = st3
  obtain ⟨a1, a2, a3⟩ := side_any xs (3 + 3 * lapsP xs 2) st3 k 0
  rw [a1, a2, a3]
  obtain ⟨b1, b2, b3⟩ := side_any xs (sideP xs (3 + 3 * lapsP xs 2) st3 0).2.2.1 (sideP xs (3 + 3 * lapsP xs 2) st3 0).2.1 (sideP xs (3 + 3 * lapsP xs 2) st3 k).2.2.2 (sideP xs (3 + 3 * lapsP xs 2) st3 0).2.2.2
  rw [b1, b2, b3]
  exact ⟨rfl, rfl, rfl, rfl⟩

structure ScFacts (s : Scn) : Prop where
  F : WF2 s.st (syK s.k).2
  one : CellOk s.st (syK s.k).2 s.one
  two : CellOk s.st (syK s.k).2 s.two
  tl : s.st.T.length ≤ 4
  te : ∀ e ∈ s.st.T, EntryOk s.st.H.length s.st.S.length e
  k2 : s.k ≤ 2
theorem EntryOk.more {a b a' b' : Nat} {e : Int} (h : EntryOk a b e) (ha : a ≤ a') (hb : b ≤ b') : EntryOk a' b' e := by
  unfold EntryOk at h ⊢
  split at h <;> rename_i z
  · rw [if_pos z]; omega
  · rw [if_neg z]; omega
theorem scene_inv (xs : List Int) {k : Nat} (hk : k ≤ 2) : ScFacts (sceneP xs k) ∧ k ≤ (sceneP xs k).k ∧ (sceneP xs (sceneP xs k).k).k = (sceneP xs k).k := by
  have hr := dip_range (xs := xs) (p := 2) (lim := 4) (by decide)
  have ln : lapsP xs 2 ≤ 4 := by unfold lapsP; omega
  unfold sceneP
  dsimp only
  have key : ∀ fu, BdInv (boundP xs (lapsP xs 2) 0 3 { st1 with hb := 1 + dipP xs 0 4, bb := 1 + dipP xs 1 3 }) fu ∧ (boundP xs (lapsP xs 2) 0 3 { st1 with hb := 1 + dipP xs 0 4, bb := 1 + dipP xs 1 3 }).T.length ≤ 4 := fun fu => by
    obtain ⟨a, b⟩ := bound_inv (xs := xs) (fu := fu) (lapsP xs 2) 0 3 _ (st1_inv (1 + dipP xs 0 4) (1 + dipP xs 1 3) fu)
    exact ⟨a, by have : ({ st1 with hb := 1 + dipP xs 0 4, bb := 1 + dipP xs 1 3 } : St).T.length = 0 := rfl; omega⟩
  generalize boundP xs (lapsP xs 2) 0 3 { st1 with hb := 1 + dipP xs 0 4, bb := 1 + dipP xs 1 3 } = st3 at key ⊢
  generalize 3 + 3 * lapsP xs 2 = p1
  obtain ⟨a1, a2, a3⟩ := side_any xs p1 st3 (sideP xs (sideP xs p1 st3 k).2.2.1 (sideP xs p1 st3 k).2.1 (sideP xs p1 st3 k).2.2.2).2.2.2 k
  rw [a2, a3]
  rw [side_k xs p1 st3 k]
  have e1 := sideP_len xs p1 st3 k
  generalize hp2 : (sideP xs p1 st3 k).2.2.1 = p2 at *
  obtain ⟨i1, i2, i3, i4⟩ := sideK_le (xs := xs) (p := p1) hk
  obtain ⟨j1, j2, j3, j4⟩ := sideK_le (xs := xs) (p := p2) i2
  obtain ⟨s1, s2⟩ := syK_has (sideK xs p2 (sideK xs p1 k)) j2
  obtain ⟨B, tl⟩ := key (syK (sideK xs p2 (sideK xs p1 k))).2
  obtain ⟨F1, c1, m1⟩ := side_inv (k := k) (xs := xs) (p := p1) B.F B.s3 (by rw [B.h4]; decide) (fun h => s1 (by have := i3 h; omega)) (fun h => s2 (by have := i4 h; omega))
  obtain ⟨l1, l2, l3, l4, l5⟩ := sideP_len xs p1 st3 k
  have q4 : 4 ≤ (sideP xs p1 st3 k).2.1.H.length := by
    unfold sideP
    split
    · show 4 ≤ st3.H.length; rw [B.h4]; decide
    split
    · show 4 ≤ st3.H.length; rw [B.h4]; decide
    split
    · simp [B.h4]
    · simp [B.h4]
  generalize (sideP xs p1 st3 k).2.1 = st4 at *
  have hS4 : st4.S.length = 3 := by rw [l2, B.s3]
  obtain ⟨F2, c2, m2⟩ := side_inv (k := sideK xs p1 k) (xs := xs) (p := p2) F1 hS4 q4 (fun h => s1 (j3 h)) (fun h => s2 (j4 h))
  obtain ⟨n1, n2, n3, n4, n5⟩ := sideP_len xs p2 st4 (sideK xs p1 k)
  have q5 : 4 ≤ (sideP xs p2 st4 (sideK xs p1 k)).2.1.H.length := by
    unfold sideP
    split
    · exact q4
    split
    · exact q4
    split
    · simp <;> omega
    · simp <;> omega
  rw [side_k, side_k, side_k]
  refine ⟨⟨F2, m2 _ c1, c2, by rw [n3, l3]; exact tl, fun e he => ?_, j2⟩, by show k ≤ sideK xs p2 (sideK xs p1 k); omega, ?_⟩
  · dsimp only at he ⊢
    rw [n3, l3] at he
    exact (B.te e he).more q5 (by rw [n2, hS4]; decide)
  · rw [sideK_stay (xs := xs) (p := p1) j2 (fun h => by have := i3 h; omega) (fun h => by have := i4 h; omega), sideK_stay (xs := xs) (p := p2) j2 (fun h => j3 h) (fun h => j4 h)]
end

end Mine
end

/-! C34 -/
noncomputable section
set_option maxHeartbeats 200000
open PySem
namespace Mine

noncomputable def lawFor : SL := (.cons (.assign (.loc 14) (.ife (.cmp .ge (.loc 13) (.kint 0)) (.loc 13) (.bin .sub (.neg (.kint 1)) (.loc 13)))) (.cons (.assign (.loc 15) (.ife (.cmp .ge (.loc 13) (.kint 0)) (.attr (.loc 2) 6) (.attr (.loc 2) 7))) (.cons (.ite (.cmp .ne (.sub (.loc 15) (.loc 14)) (.ife (.cmp .ge (.loc 13) (.kint 0)) (.tup (.cons (.glob 0) (.cons (.loc 14) .nil))) (.tup (.cons (.glob 1) (.cons (.loc 14) .nil))))) (.cons (.ret (.kbool false)) .nil) .nil) .nil)))
noncomputable def lawE : SL := (.cons (.assign (.loc 12) (.blt 2 (.cons (.attr (.loc 2) 8) .nil))) (.cons (.expr (.callM 16 (.loc 2) (.cons (.kint 0) .nil))) (.cons (.for_ (.loc 13) (.loc 12) lawFor) (.cons (.ret (.cmp .eq (.attr (.loc 2) 8) (.list .nil))) .nil))))
noncomputable def lawD : SL := (.cons (.ite (.boolop false (.cons (.cmp .ne (.callF 33 (.cons (.loc 8) (.cons (.loc 9) (.cons (.loc 10) (.cons (.loc 11) .nil))))) (.loc 7)) (.cons (.cmp .ne (.callF 33 (.cons (.loc 2) (.cons (.loc 3) (.cons (.loc 4) (.cons (.loc 5) .nil))))) (.loc 7)) .nil))) (.cons (.ret (.kbool false)) .nil) .nil) (.cons (.ite (.cmp .ne (.callF 42 (.cons (.loc 2) .nil)) (.callF 42 (.cons (.loc 8) .nil))) (.cons (.ret (.kbool false)) .nil) .nil) lawE))
noncomputable def lawC : SL := (.cons (.assign (.tup [8, 9, 10, 11]) (.callF 41 (.cons (.loc 0) (.cons (.loc 1) .nil)))) lawD)
noncomputable def lawB : SL := (.cons (.assign (.loc 6) (.callF 42 (.cons (.loc 2) .nil))) (.cons (.assign (.loc 7) (.callF 35 (.cons (.loc 2) (.cons (.loc 3) (.cons (.loc 4) (.cons (.loc 5) .nil)))))) (.cons (.ite (.boolop false (.cons (.cmp .ne (.callF 42 (.cons (.loc 2) .nil)) (.loc 6)) (.cons (.cmp .ne (.callF 35 (.cons (.loc 2) (.cons (.loc 4) (.cons (.loc 3) (.cons (.loc 5) .nil))))) (.loc 7)) (.cons (.cmp .ne (.callF 42 (.cons (.loc 2) .nil)) (.loc 6)) .nil)))) (.cons (.ret (.kbool false)) .nil) .nil) lawC)))
theorem law_split : f_law.body = .cons (.assign (.loc 1) (.new 0 .nil)) (.cons (.assign (.tup [2, 3, 4, 5]) (.callF 41 (.cons (.loc 0) (.cons (.loc 1) .nil)))) lawB) := rfl

section
variable {m : Nat} {σ σ' : AH} {so : Nat} {r : Rc} {st : St} {q : Rs} {tx : List PySem.Str} {fu : List (Int × Int)} {cf : Cf}

theorem ne_bool (σ : AH) (b : Bool) : cmpV σ .ne (.bool b) (.bool b) = some false := by
  show (eqV σ (.bool b) (.bool b)).map (!·) = _
  rw [eq_bool]; simp
theorem ne_cell (σ : AH) (c : Cell) : cmpV σ .ne (cV c) (cV c) = some false := by
  show (eqV σ (cV c) (cV c)).map (!·) = _
  rw [eq_cell]; simp

theorem for_body (v : View σ so r st) {e : Int} (he : selfAt st e) {ρ : En} {R : Fl → En → AH → Prop} (h2 : ρ 2 = some (.obj so)) (h13 : ρ 13 = some (.int e)) (h : ∀ ρ', ρ' 2 = some (.obj so) → R .next ρ' σ) : wSL P1 cf lawFor ρ σ R := by
  unfold selfAt at he
  by_cases z : 0 ≤ e
  · rw [if_pos z] at he
    have hg := v.hget z he
    have hn := ne_cell σ (0, e)
    simp only [cmpV] at hn
    simp [lawFor, ↓qq_nil, ↓qq_cons, ↓qs_assign, ↓qs_augLoc, ↓qs_augSub, ↓qs_expr, ↓qs_ite, ↓qs_while, ↓qs_range, ↓qs_for2, ↓qs_forL, ↓qs_forF, ↓qs_ret, ↓qs_retN, ↓qs_cont, ↓qs_pass, ↓qe_loc, ↓qe_kint, ↓qe_kstr, ↓qe_kbool, ↓qe_knone, ↓qe_glob, ↓qe_tup, ↓qe_list, ↓qe_dict0, ↓qe_attr, ↓qe_sub, ↓qe_slTo, ↓qe_cmp, ↓qe_boolop, ↓qe_not, ↓qe_neg, ↓qe_bin, ↓qe_ife, ↓qe_callF, ↓qe_callM, ↓qe_new, ↓qe_blt, ↓qe_meth, ↓qt_loc, ↓qt_tup, ↓qt_attr, ↓qt_sub, ↓ql_nil, ↓ql_cons, ↓qb_one, ↓qb_cons, cmpV, En.put, bindE, g0, g1, g2, g3, g4, g5, g6, g7, g8, eq_int, eq_cell, tup0, tup1, me7, me8, me9, me10, me11, me12, me13, me14, me15, me16, me17, me18, me19, me20, me21, me22, me23, ms0, ms2, ms3, ms5, -List.map_set, -List.map_append, -List.map_reverse, h2, h13, z, v.a6, hg, cV_eq]
    exact h _ (by simp [En.put, h2])
  · rw [if_neg z] at he
    have hg := v.sget (k := -1 - e) (by omega) he
    simp [lawFor, ↓qq_nil, ↓qq_cons, ↓qs_assign, ↓qs_augLoc, ↓qs_augSub, ↓qs_expr, ↓qs_ite, ↓qs_while, ↓qs_range, ↓qs_for2, ↓qs_forL, ↓qs_forF, ↓qs_ret, ↓qs_retN, ↓qs_cont, ↓qs_pass, ↓qe_loc, ↓qe_kint, ↓qe_kstr, ↓qe_kbool, ↓qe_knone, ↓qe_glob, ↓qe_tup, ↓qe_list, ↓qe_dict0, ↓qe_attr, ↓qe_sub, ↓qe_slTo, ↓qe_cmp, ↓qe_boolop, ↓qe_not, ↓qe_neg, ↓qe_bin, ↓qe_ife, ↓qe_callF, ↓qe_callM, ↓qe_new, ↓qe_blt, ↓qe_meth, ↓qt_loc, ↓qt_tup, ↓qt_attr, ↓qt_sub, ↓ql_nil, ↓ql_cons, ↓qb_one, ↓qb_cons, cmpV, En.put, bindE, g0, g1, g2, g3, g4, g5, g6, g7, g8, eq_int, eq_cell, tup0, tup1, me7, me8, me9, me10, me11, me12, me13, me14, me15, me16, me17, me18, me19, me20, me21, me22, me23, ms0, ms2, ms3, ms5, -List.map_set, -List.map_append, -List.map_reverse, h2, h13, z, v.a7, binV, hg, cV_eq]
    exact h _ (by simp [En.put, h2])
/-- the loop over what was free -/
theorem law_for (v : View σ so r st) {all : List V} {fo : Nat} (ef : σ[fo]? = some (.list all)) : ∀ (l : List Int) (ρ : En) (Q : Fl → En → AH → Prop), (∀ e ∈ l, selfAt st e) → ρ 2 = some (.obj so) → (∀ ρ', ρ' 2 = some (.obj so) → Q .next ρ' σ) →
    forGo all (.list fo) (wT P1 cf (.loc 13)) (wSL P1 cf lawFor) (l.map .int) ρ σ Q
  | [], ρ, Q, _, h2, h => ⟨ef, h ρ h2⟩
  | e :: l, ρ, Q, hs, h2, h => by
    refine ⟨ef, ?_⟩
    show wSL P1 cf lawFor (ρ.put 13 (.int e)) σ _
    exact for_body v (hs e (.head _)) (by simp [En.put, h2]) (by simp [En.put]) fun ρ' h2' => law_for v ef l ρ' Q (fun x hx => hs x (.tail _ hx)) h2' h

theorem nil_eq {a b : Nat} (ha : σ[a]? = some (.list [])) (hb : σ[b]? = some (.list [])) : cmpV σ .eq (.obj a) (.obj b) = some true := by
  show eqV σ _ _ = _
  have h1 : toPy σ 6 (.obj a) = some (.list []) := by rw [py_obj ha]; rfl
  have h2 : toPy σ 6 (.obj b) = some (.list []) := by rw [py_obj hb]; rfl
  unfold eqV
  rw [h1, h2]
  rfl

theorem law_e (v : View σ so r st) (hl : ∀ e ∈ st.T, EntryOk st.H.length st.S.length e) {ρ : En} {Q : Fl → En → AH → Prop} (h2 : ρ 2 = some (.obj so)) (h : ∀ ρ' σ', Q (.ret (.bool true)) ρ' σ') : wSL P1 (callN P1 fns (m + 1)) lawE ρ σ Q := by
  have c3 := list_copy v.t (by rw [List.length_map]; have := v.tl; omega)
  have v1 := v.app [.list (st.T.map .int)]
  have ef : (σ ++ [AObj.list (st.T.map .int)])[σ.length]? = some (.list (st.T.map .int)) := by simp
  generalize hL : lawFor = L
  unfold lawE
  rw [hL]
  simp only [↓qq_nil, ↓qq_cons, ↓qs_assign, ↓qs_augLoc, ↓qs_augSub, ↓qs_expr, ↓qs_ite, ↓qs_while, ↓qs_range, ↓qs_for2, ↓qs_forL, ↓qs_forF, ↓qs_ret, ↓qs_retN, ↓qs_cont, ↓qs_pass, ↓qe_loc, ↓qe_kint, ↓qe_kstr, ↓qe_kbool, ↓qe_knone, ↓qe_glob, ↓qe_tup, ↓qe_list, ↓qe_dict0, ↓qe_attr, ↓qe_sub, ↓qe_slTo, ↓qe_cmp, ↓qe_boolop, ↓qe_not, ↓qe_neg, ↓qe_bin, ↓qe_ife, ↓qe_callF, ↓qe_callM, ↓qe_new, ↓qe_blt, ↓qe_meth, ↓ql_nil, ↓ql_cons, ↓qt_loc, ↓qt_tup, ↓qt_attr, ↓qt_sub, h2, v.a8, c3]
  have h2' : (ρ.put 12 (.obj σ.length)) 2 = some (.obj so) := by simp [En.put, h2]
  simp only [h2', v1.cl, me16]
  refine undo_ok (T0 := []) (l := st.T) v1 rfl hl fun σ₁ v2 s1 l1 => ?_
  have n1 : σ.length ∉ [r.h, r.s, r.t] := by
    have a := lt_of_get v.h
    have b := lt_of_get v.s
    have c := lt_of_get v.t
    simp only [List.mem_cons, List.not_mem_nil, or_false, not_or]
    omega
  have ef1 := s1.get _ _ n1 ef
  have h12 : (ρ.put 12 (.obj σ.length)) 12 = some (.obj σ.length) := by simp [En.put]
  have hi : iterV σ₁ (.obj σ.length) = some (st.T.map .int, .list σ.length) := by
    simp only [iterV, ef1]
    rw [if_pos (by rw [List.length_map]; have := v.tl; omega)]
  simp only [↓qe_loc, ↓qe_kint, ↓qe_kstr, ↓qe_kbool, ↓qe_knone, ↓qe_glob, ↓qe_tup, ↓qe_list, ↓qe_dict0, ↓qe_attr, ↓qe_sub, ↓qe_slTo, ↓qe_cmp, ↓qe_boolop, ↓qe_not, ↓qe_neg, ↓qe_bin, ↓qe_ife, ↓qe_callF, ↓qe_callM, ↓qe_new, ↓qe_blt, ↓qe_meth, h12, hi]
  subst hL
  obtain ⟨u1, u2⟩ := unsL_get st.T.reverse (st.H, st.S)
  refine law_for v2 ef1 st.T _ _ (fun e he => ?_) h2' fun ρ' h2'' => ?_
  · have ho := hl e he
    unfold EntryOk at ho
    unfold selfAt
    dsimp only
    by_cases z : 0 ≤ e
    · rw [if_pos z] at ho ⊢
      rw [u1 e.toNat]
      have e1 : ((e.toNat : Nat) : Int) = e := by omega
      rw [if_pos ⟨by rw [e1]; simpa using he, ho⟩, e1]
    · rw [if_neg z] at ho ⊢
      rw [u2 (-1 - e).toNat]
      have e1 : (((-1 - e).toNat : Nat) : Int) = -1 - e := by omega
      have e2 : -1 - (((-1 - e).toNat : Nat) : Int) = e := by omega
      rw [if_pos ⟨by rw [e2]; simpa using he, ho⟩, e1]
  · have v3 := v2.app [.list []]
    have q1 : (σ₁ ++ [AObj.list []])[r.t]? = some (.list []) := v3.t
    have q2 : (σ₁ ++ [AObj.list []])[σ₁.length]? = some (.list []) := by simp
    simp only [h2'', v2.a8, nil_eq q1 q2]
    exact h _ _
end

end Mine
end

/-! C35 -/
noncomputable section
set_option maxHeartbeats 200000
open PySem
namespace Mine

section
variable {m : Nat} {σ σ' : AH} {so : Nat} {r : Rc} {st : St} {q : Rs} {tx : List PySem.Str} {fu : List (Int × Int)} {occ : Bool}

theorem law_b (W : Wd σ so r st q tx fu) (F : WF2 st fu) {a b : Cell} (ha : CellOk st fu a) (hb : CellOk st fu b) (tl : st.T.length < 400000) {ρ : En} {Q : Fl → En → AH → Prop}
    (h2 : ρ 2 = some (.obj so)) (h3 : ρ 3 = some (cV a)) (h4 : ρ 4 = some (cV b)) (h5 : ρ 5 = some (.bool occ))
    (h : ∀ ρ' σ', Wd σ' so r st q tx fu → Same [] σ σ' → (∀ i, i ≤ 5 → ρ' i = ρ i) → ρ' 7 = some (.bool (uniP fu occ st a b).1) → wSL P1 (callN P1 fns (m + 7)) lawC ρ' σ' Q) : wSL P1 (callN P1 fns (m + 7)) lawB ρ σ Q := by
  generalize hL : lawC = L at h
  unfold lawB
  rw [hL]
  simp only [↓qq_nil, ↓qq_cons, ↓qs_assign, ↓qs_augLoc, ↓qs_augSub, ↓qs_expr, ↓qs_ite, ↓qs_while, ↓qs_range, ↓qs_for2, ↓qs_forL, ↓qs_forF, ↓qs_ret, ↓qs_retN, ↓qs_cont, ↓qs_pass, ↓qe_loc, ↓qe_kint, ↓qe_kstr, ↓qe_kbool, ↓qe_knone, ↓qe_glob, ↓qe_tup, ↓qe_list, ↓qe_dict0, ↓qe_attr, ↓qe_sub, ↓qe_slTo, ↓qe_cmp, ↓qe_boolop, ↓qe_not, ↓qe_neg, ↓qe_bin, ↓qe_ife, ↓qe_callF, ↓qe_callM, ↓qe_new, ↓qe_blt, ↓qe_meth, ↓ql_nil, ↓ql_cons, ↓qb_one, ↓qb_cons, ↓qt_loc, ↓qt_tup, ↓qt_attr, ↓qt_sub, h2]
  refine state_ok (m := m + 6) W.v fun σ₁ w n1 s1 => ?_
  have W1 := W.same s1 (by simp)
  have c2 : (ρ.put 6 w) 2 = some (.obj so) := by simp [En.put, h2]
  have c3 : (ρ.put 6 w) 3 = some (cV a) := by simp [En.put, h3]
  have c4 : (ρ.put 6 w) 4 = some (cV b) := by simp [En.put, h4]
  have c5 : (ρ.put 6 w) 5 = some (.bool occ) := by simp [En.put, h5]
  simp only [c2, c3, c4, c5]
  refine trial_ok (m := m) W1 F ha hb tl fun σ₂ W2 s2 => ?_
  have d2 : ((ρ.put 6 w).put 7 (.bool (uniP fu occ st a b).1)) 2 = some (.obj so) := by simp [En.put, h2]
  have d3 : ((ρ.put 6 w).put 7 (.bool (uniP fu occ st a b).1)) 3 = some (cV a) := by simp [En.put, h3]
  have d4 : ((ρ.put 6 w).put 7 (.bool (uniP fu occ st a b).1)) 4 = some (cV b) := by simp [En.put, h4]
  have d5 : ((ρ.put 6 w).put 7 (.bool (uniP fu occ st a b).1)) 5 = some (.bool occ) := by simp [En.put, h5]
  have d6 : ((ρ.put 6 w).put 7 (.bool (uniP fu occ st a b).1)) 6 = some w := by simp [En.put]
  have d7 : ((ρ.put 6 w).put 7 (.bool (uniP fu occ st a b).1)) 7 = some (.bool (uniP fu occ st a b).1) := by simp [En.put]
  have keep : ∀ i, i ≤ 5 → ((ρ.put 6 w).put 7 (.bool (uniP fu occ st a b).1)) i = ρ i := fun i hi => by
    have e6 : i ≠ 6 := by omega
    have e7 : i ≠ 7 := by omega
    simp [En.put, e6, e7]
  generalize (ρ.put 6 w).put 7 (.bool (uniP fu occ st a b).1) = ρ' at *
  simp only [d2]
  refine state_ok (m := m + 6) W2.v fun σ₃ w3 n3 s3 => ?_
  have W3 := W2.same s3 (by simp)
  have nw3 := (n1.same s2 (by simp)).same s3 (by simp)
  simp only [d6, n3.v.ne nw3.v, Bool.false_eq_true, if_false, d3, d4, d5]
  refine trial_ok (m := m) W3 F hb ha tl fun σ₄ W4 s4 => ?_
  rw [uniP_mirror]
  simp only [d7, ne_bool, Bool.false_eq_true, if_false, d2]
  refine state_ok (m := m + 6) W4.v fun σ₅ w5 n5 s5 => ?_
  have W5 := W4.same s5 (by simp)
  have nw5 := (nw3.same s4 (by simp)).same s5 (by simp)
  simp only [d6, n5.v.ne nw5.v, Bool.false_eq_true, if_false, ↓qq_nil, ↓qq_cons]
  exact h ρ' σ₅ W5 ((((s1.trans s2).trans s3).trans s4).trans s5) keep d7

/-- the other store -/
theorem law_d (W : Wd σ so r st q tx fu) {so' : Nat} {r' : Rc} (W' : Wd σ so' r' st q tx fu) (o1 : ∀ i ∈ [r.h, r.s, r.t], i ∉ keptL so' r' q) (o2 : ∀ i ∈ [r'.h, r'.s, r'.t], i ∉ keptL so r q) (F : WF2 st fu) {a b : Cell} (ha : CellOk st fu a) (hb : CellOk st fu b) (tl : st.T.length < 400000)
    (te : ∀ e ∈ st.T, EntryOk st.H.length st.S.length e) {ρ : En} {Q : Fl → En → AH → Prop}
    (h2 : ρ 2 = some (.obj so)) (h3 : ρ 3 = some (cV a)) (h4 : ρ 4 = some (cV b)) (h5 : ρ 5 = some (.bool occ)) (h7 : ρ 7 = some (.bool (uniP fu occ st a b).1))
    (h8 : ρ 8 = some (.obj so')) (h9 : ρ 9 = some (cV a)) (h10 : ρ 10 = some (cV b)) (h11 : ρ 11 = some (.bool occ))
    (h : ∀ ρ' σ', Q (.ret (.bool true)) ρ' σ') : wSL P1 (callN P1 fns (m + 7)) lawD ρ σ Q := by
  generalize hL : lawE = L
  unfold lawD
  rw [hL]
  simp only [↓qq_nil, ↓qq_cons, ↓qs_assign, ↓qs_augLoc, ↓qs_augSub, ↓qs_expr, ↓qs_ite, ↓qs_while, ↓qs_range, ↓qs_for2, ↓qs_forL, ↓qs_forF, ↓qs_ret, ↓qs_retN, ↓qs_cont, ↓qs_pass, ↓qe_loc, ↓qe_kint, ↓qe_kstr, ↓qe_kbool, ↓qe_knone, ↓qe_glob, ↓qe_tup, ↓qe_list, ↓qe_dict0, ↓qe_attr, ↓qe_sub, ↓qe_slTo, ↓qe_cmp, ↓qe_boolop, ↓qe_not, ↓qe_neg, ↓qe_bin, ↓qe_ife, ↓qe_callF, ↓qe_callM, ↓qe_new, ↓qe_blt, ↓qe_meth, ↓ql_nil, ↓ql_cons, ↓qb_one, ↓qb_cons, h8, h9, h10, h11]
  refine unify_ok (m := m + 1) W' F ha hb tl fun σ₁ W1' s1 => ?_
  have W1 := W.same s1 o2
  simp only [h7, ne_bool, Bool.false_eq_true, if_false, h2, h3, h4, h5]
  refine unify_ok (m := m + 1) W1 F ha hb tl fun σ₂ W2 s2 => ?_
  have W2' := W1'.same s2 o1
  simp only [h7, ne_bool, Bool.false_eq_true, if_false, h2, ↓qq_nil, ↓qq_cons]
  refine state_ok (m := m + 6) W2.v fun σ₃ w3 n3 s3 => ?_
  have W3 := W2.same s3 (by simp)
  have W3' := W2'.same s3 (by simp)
  refine state_ok (m := m + 6) W3'.v fun σ₄ w4 n4 s4 => ?_
  have W4 := W3.same s4 (by simp)
  have n34 := n3.same s4 (by simp)
  simp only [n34.v.ne n4.v, Bool.false_eq_true, if_false, ↓qq_nil, ↓qq_cons]
  subst hL
  obtain ⟨B, bk, F3, _⟩ := uniP_back (occ := occ) F W.v.hl ha hb
  refine law_e (m := m + 6) W4.v (fun e he => ?_) h2 h
  rw [bk.T] at he
  rcases List.mem_append.mp he with he | he
  · rw [bk.hl, bk.sl]; exact te e he
  · exact back_entries bk e (List.mem_filter.mp he).1
end

end Mine
end

/-! C36 -/
noncomputable section
set_option maxHeartbeats 200000
open PySem
namespace Mine

theorem put4 {a b c d : V} {i j k l : Nat} {ρ : En} : putAll [i, j, k, l] [a, b, c, d] ρ = some ((((ρ.put i a).put j b).put k c).put l d) := rfl

theorem law_ok {m : Nat} {σ : AH} {xs : List Int} (e : σ[0]? = some (.list (xs.map .int))) (hx : xs.length < 1000) {Q : V → AH → Prop} (h : ∀ σ', Q (.bool true) σ') : callN P1 fns (m + 8) 43 [.obj 0] σ Q := by
  refine call_of (fn := f_law) rfl rfl ?_
  rw [law_split]
  have hinit : P1.init 0 = some 2 := rfl
  have hpos := lt_of_get e
  have g1 : (σ ++ [AObj.ns []] ++ [AObj.inst 0 σ.length])[σ.length + 1]? = some (.inst 0 σ.length) := by simp
  have g2 : (σ ++ [AObj.ns []] ++ [AObj.inst 0 σ.length])[σ.length]? = some (.ns []) := by simp
  have g0 : (σ ++ [AObj.ns []] ++ [AObj.inst 0 σ.length])[0]? = some (.list (xs.map .int)) := by rw [List.append_assoc]; exact app_get e
  have gl : (σ ++ [AObj.ns []] ++ [AObj.inst 0 σ.length]).length = σ.length + 2 := by simp
  simp only [↓qq_nil, ↓qq_cons, ↓qs_assign, ↓qs_augLoc, ↓qs_augSub, ↓qs_expr, ↓qs_ite, ↓qs_while, ↓qs_range, ↓qs_for2, ↓qs_forL, ↓qs_forF, ↓qs_ret, ↓qs_retN, ↓qs_cont, ↓qs_pass, ↓qe_loc, ↓qe_kint, ↓qe_kstr, ↓qe_kbool, ↓qe_knone, ↓qe_glob, ↓qe_tup, ↓qe_list, ↓qe_dict0, ↓qe_attr, ↓qe_sub, ↓qe_slTo, ↓qe_cmp, ↓qe_boolop, ↓qe_not, ↓qe_neg, ↓qe_bin, ↓qe_ife, ↓qe_callF, ↓qe_callM, ↓qe_new, ↓qe_blt, ↓qe_meth, ↓ql_nil, ↓ql_cons, ↓qt_loc, ↓qt_tup, ↓qt_attr, ↓qt_sub, hinit]
  generalize σ ++ [AObj.ns []] ++ [AObj.inst 0 σ.length] = τ at *
  refine symbols_init (m := m + 4) g1 g2 (by omega) fun σ₁ q y ed far s1 => ⟨rfl, ?_⟩
  have e1 := s1.get 0 _ (by simp; omega) g0
  have b0 : ((bindE 0 ([.obj 0] ++ f_law.dflt)).put 1 (.obj (σ.length + 1))) 0 = some (.obj 0) := rfl
  have b1 : ((bindE 0 ([.obj 0] ++ f_law.dflt)).put 1 (.obj (σ.length + 1))) 1 = some (.obj (σ.length + 1)) := rfl
  simp only [b0, b1]
  generalize (bindE 0 ([.obj 0] ++ f_law.dflt)).put 1 (.obj (σ.length + 1)) = ρ at *
  generalize σ.length + 1 = sy at *
  have y : SyView σ₁ sy q (syK 0).1 (syK 0).2 := y
  refine scene_ok (m := m + 1) (k := 0) (by decide) y e1 (by omega) fun σ₂ so r W es k2 fr s2 => ?_
  obtain ⟨fc, _, stay⟩ := scene_inv (xs.take 50) (k := 0) (by decide)
  obtain ⟨y1, y2, y3, y4⟩ := scene_any (xs.take 50) (sceneP (xs.take 50) 0).k
  obtain ⟨F, ca, cb, tl, te, _⟩ := fc
  have e2 : σ₂[0]? = some (.list (xs.map .int)) := by
    refine s2.get 0 _ ?_ e1
    simp only [List.mem_cons, List.not_mem_nil, or_false, not_or]
    exact ⟨Ne.symm y.t0, ne_of_get e1 y.an (fun h => nomatch h), Ne.symm y.f0, ne_of_get e1 y.fn (fun h => nomatch h)⟩
  generalize hs0 : sceneP (xs.take 50) 0 = s at *
  simp only [put4]
  refine law_b (m := m) (st := s.st) (a := s.one) (b := s.two) (occ := s.occ) W F ca cb (by omega) (by simp [En.put]) (by simp [En.put]) (by simp [En.put]) (by simp [En.put]) fun ρ₃ σ₃ W3 s3 hρ3 h7 => ?_
  have e3 := s3.get 0 _ (by simp) e2
  have c0 : ρ₃ 0 = some (.obj 0) := by rw [hρ3 0 (by decide)]; simp [En.put, b0]
  have c1 : ρ₃ 1 = some (.obj sy) := by rw [hρ3 1 (by decide)]; simp [En.put, b1]
  have c2 : ρ₃ 2 = some (.obj so) := by rw [hρ3 2 (by decide)]; simp [En.put]
  have c3 : ρ₃ 3 = some (cV s.one) := by rw [hρ3 3 (by decide)]; simp [En.put]
  have c4 : ρ₃ 4 = some (cV s.two) := by rw [hρ3 4 (by decide)]; simp [En.put]
  have c5 : ρ₃ 5 = some (.bool s.occ) := by rw [hρ3 5 (by decide)]; simp [En.put]
  subst es
  generalize hL : lawD = L
  unfold lawC
  rw [hL]
  simp only [↓qq_nil, ↓qq_cons, ↓qs_assign, ↓qs_augLoc, ↓qs_augSub, ↓qs_expr, ↓qs_ite, ↓qs_while, ↓qs_range, ↓qs_for2, ↓qs_forL, ↓qs_forF, ↓qs_ret, ↓qs_retN, ↓qs_cont, ↓qs_pass, ↓qe_loc, ↓qe_kint, ↓qe_kstr, ↓qe_kbool, ↓qe_knone, ↓qe_glob, ↓qe_tup, ↓qe_list, ↓qe_dict0, ↓qe_attr, ↓qe_sub, ↓qe_slTo, ↓qe_cmp, ↓qe_boolop, ↓qe_not, ↓qe_neg, ↓qe_bin, ↓qe_ife, ↓qe_callF, ↓qe_callM, ↓qe_new, ↓qe_blt, ↓qe_meth, ↓ql_nil, ↓ql_cons, ↓qt_loc, ↓qt_tup, ↓qt_attr, ↓qt_sub, c0, c1]
  refine scene_ok (m := m + 1) (k := s.k) k2 W3.y e3 (by omega) fun σ₄ so' r' W4 es' k4 fr' s4 => ?_
  rw [stay, y1] at W4
  rw [y2, y3, y4]
  simp only [put4]
  subst hL
  have W3' : Wd σ₄ so r s.st q (syK s.k).1 (syK s.k).2 := W3.func (by have := W4.y; rw [es'] at this; exact this) s4
  have kl := W3.lt
  have low : ∀ i ∈ keptL so r q, i < σ₃.length := kl
  have far1 : ∀ i ∈ [r'.h, r'.s, r'.t], σ₃.length ≤ i := fun i hi => fr' i (.tail _ (.tail _ hi))
  have nk : ∀ i ∈ [r'.h, r'.s, r'.t], i ∉ keptL so r q := fun i hi hm => Nat.lt_irrefl _ (Nat.lt_of_lt_of_le (low i hm) (far1 i hi))
  have nk' : ∀ i ∈ [r.h, r.s, r.t], i ∉ keptL so' r' q := fun i hi hm => by
    have h1 := low i (.tail _ (.tail _ (by
      rcases List.mem_cons.mp hi with e | hi
      · exact e ▸ .head _
      rcases List.mem_cons.mp hi with e | hi
      · exact e ▸ .tail _ (.head _)
      · exact List.mem_singleton.mp hi ▸ .tail _ (.tail _ (.head _)))))
    have hm : i ∈ [so', r'.d, r'.h, r'.s, r'.t] ++ [r'.sy, q.d, q.tx, q.an, q.fu, q.fn] := hm
    rcases List.mem_append.mp hm with hm | hm
    · exact Nat.lt_irrefl _ (Nat.lt_of_lt_of_le h1 (fr' i hm))
    · rw [es'] at hm
      exact W3.off i hi hm
  refine law_d (m := m) (st := s.st) (a := s.one) (b := s.two) (occ := s.occ) W3' W4 nk' nk F ca cb (by omega) te ?_ ?_ ?_ ?_ ?_ ?_ ?_ ?_ ?_ fun ρ' σ' => ?_
  all_goals first | (simp [En.put, c2, c3, c4, c5, h7]; done) | skip
  exact h σ'

end Mine
end

/-! J2 -/
noncomputable section
set_option maxHeartbeats 0
open PyProof.Rows PySem PySem.W
namespace Mine

theorem ints_shape {R : WRecords} : ∀ {ds : List WData}, WShape.hasItems R ds .int = true → ∃ xs : List Int, ds = xs.map .int
  | [], _ => ⟨[], rfl⟩
  | d :: ds, h => by
    simp only [WShape.hasItems, Bool.and_eq_true] at h
    obtain ⟨i, rfl⟩ := hasW_int h.1
    obtain ⟨xs, rfl⟩ := ints_shape h.2
    exact ⟨i :: xs, rfl⟩
theorem args_shape {R : WRecords} {args : List WData} (h : WShape.hasAll R args [.list .int] = true) : ∃ xs : List Int, args = [.list (xs.map .int)] := by
  obtain ⟨d, r, rfl, h1, h2⟩ := hasAllW_cons h
  obtain rfl := hasAllW_nil h2
  obtain ⟨ds, rfl, h3⟩ := hasW_list h1
  obtain ⟨xs, rfl⟩ := ints_shape h3
  exact ⟨xs, rfl⟩
theorem well_ints {P : Params} {h : Heap} {φ : List Addr} : ∀ {xs : List Int} {vs : List Value}, WellAll P h vs (xs.map .int) → RelL h φ (xs.map V.int) vs
  | [], vs, w => by cases w; rfl
  | x :: xs, vs, w => by
    cases w with
    | cons a b =>
      cases a with
      | int i t => exact RelL.cons ⟨t, rfl⟩ (well_ints b)
theorem well_list {P : Params} {h : Heap} {vals : List Value} {xs : List Int} (w : WellAll P h vals [.list (xs.map .int)]) : ∃ b ws n, vals = [.ref b] ∧ h.get? b = some (listOf ws n) ∧ ∀ φ, RelL h φ (xs.map V.int) ws.toList := by
  cases w with
  | cons a b =>
    cases b
    cases a with
    | list e r => exact ⟨_, _, _, rfl, e, fun φ => by simpa using well_ints r⟩
theorem most_of {R : WRecords} {xs : List Int} {n : Nat} (h : WTm.holds R (.and (.not (.lt (.lit (.int n)) (.len (.arg 0)))) (.lit (.bool true))) { args := [.list (xs.map .int)] } = true) : xs.length ≤ n := by
  have h := (holds_andW h).1
  unfold WTm.holds at h
  simp [WTm.value] at h
  have e : less? (WData.int (n : Int)) (WData.int (xs.length : Int)) = some (decide ((n : Int) < xs.length)) := rfl
  rw [e] at h
  by_cases q : (n : Int) < xs.length
  · rw [decide_eq_true q] at h
    exact absurd h (by decide)
  · omega
theorem callerA_ok : AOk callerA 16 := ⟨rfl, by decide +kernel, by decide +kernel⟩
theorem walk1 {w : World} {K : Frag} {s : Shared} {b : Addr} {ws : Array Value} {n : Nat} {xs : List Int} {R : Value → Shared → Prop} {E : Value → Shared → Prop} {prog : Program} (hK : K.In s.heap) (g : good K = true) (lim : s.heap.NoLimit) (hb : s.heap.get? b = some (listOf ws n)) (hr : RelL s.heap [b] (xs.map V.int) ws.toList) (hx : xs.length < 1000)
    (h : ∀ s', (∀ c o, s.heap.get? c = some o → s'.heap.get? c = some o) → s'.gens = s.gens → s'.os = s.os → R (.bool true) s') : wpAny (model prog w) callerA (call (.ref (faddr1 43)) [.ref b]) R E s := by
  have hG : GloOk (G1 prog w K s.heap) := gloOk1 hK g lim
  have hcf := simCf hG (fnOk1 hK g) 8
  have ok : Ok (G1 prog w K s.heap).C [b] [AObj.list (xs.map V.int)] s.heap :=
    { len := rfl
      nd := by simp
      new := fun i a hi e => by
        cases i with
        | zero => exact absurd rfl hi
        | succ k => simp at e
      zero := ⟨_, rfl⟩
      base := fun _ _ e => e
      obj := fun i o e => by
        cases i with
        | zero => cases e; exact ⟨b, rfl, ws, n, hb, hr⟩
        | succ k => simp at e }
  have rr : RelL s.heap [b] [V.obj 0] [.ref b] := RelL.cons ⟨b, rfl, rfl⟩ RelL.nil
  have q := law_ok (m := 0) (σ := [AObj.list (xs.map V.int)]) (xs := xs) rfl hx (Q := fun v _ => v = .bool true) (fun _ => rfl)
  refine wpAny_mono (call_cf hcf callerA_ok q ok rr) (fun v s' p => ?_) fun e s' p => p.elim
  obtain ⟨φ', σ', v', x1, x2, x3, x4, x5, x6⟩ := p
  subst x4
  have x3 : v = .bool true := x3
  subst x3
  exact h s' x2.base x5 x6

end Mine
end

/-! H7 -/
noncomputable section
set_option maxHeartbeats 0
open PyProof.Rows PySem PySem.W
namespace Mine
noncomputable def topRunT (tb : String → Option Builtin) (p : Program) (w : World) (n₀ : Nat) (ann : Option Value) : Nat → SharedT → Thread → Option SharedT
  | 0, _, _ => none
  | n + 1, s, t => match through t with
    | true => some s
    | false => match stepOk n₀ ann t with
      | false => none
      | true => match stepT (denote tb) p w s t with
        | some (s', t') => topRunT tb p w n₀ ann n s' t'
        | none => none
theorem topRun_of {tb : String → Option Builtin} {p : Program} {w : World} {n₀ : Nat} {ann : Option Value} : ∀ {n : Nat} {s s' : SharedT} {t : Thread},
    topRunT tb p w n₀ ann n s t = some s' → topRun tb p w n₀ ann n s.abs t = some s'.abs
  | 0, _, _, _, h => by cases h
  | n + 1, s, s', t, h => by
    unfold topRunT at h
    unfold topRun
    cases ht : through t with
    | true => rw [ht] at h; cases h; rfl
    | false =>
      rw [ht] at h
      cases hk : stepOk n₀ ann t with
      | false => rw [hk] at h; cases h
      | true =>
        rw [hk] at h
        cases hs : stepT (denote tb) p w s t with
        | none => rw [hs] at h; cases h
        | some r => obtain ⟨s₂, t₂⟩ := r; rw [hs] at h; rw [stepT_spec hs]; exact topRun_of h
noncomputable def treeGo : Nat → List Obj → BT → BT
  | _, [], t => t
  | i, o :: r, t => treeGo (i + 1) r (t.ins i o)
noncomputable def treeOf (l : List Obj) : BT := treeGo 0 l .nil

noncomputable def bootT (P : Params) : BT := treeOf (boot_heap P).objs.toList
theorem boot_abs (P : Params) : absHeap (bootT P) 11 (boot_heap P).life = boot_heap P := by kernel_rfl!

theorem leftO_of_run {p q : Program} {loose : List Str} {Xt : Shared → Bool} {α : Type} {Yf : Shared → α} {Ya : World → α} {N M m₀ : Nat} {ann : Option Value}
    (e : opening p = plainProg p.main.scope.names) (hN : Nat.ble 600 N = true) (f : ∀ s, fenceModules? p s = some s)
    (size : ∀ P : Params, ((boot_heap P).isNs mainGlobals, (boot_heap P).objs.size, (boot_heap P).nsMap mainGlobals "__annotations__") = (true, m₀, ann)) (le : Nat.ble M N = true)
    (run : ∀ (w : World) (os : OsState), (topRunT treeTable p w m₀ ann M ⟨bootT w.params, 11, (boot_heap w.params).life, Array.mk [], boot_drawn, boot_toks, os⟩ (topStub p)).map (fun t =>
        (staticsOk (importedModules p.main.body) (boot_heap w.params) t.abs.heap && namesBound p t.abs.heap && gensDone t.abs && laidKept (boot_heap w.params) t.abs.heap,
          openSeen q loose (importedModules p.main.body) Xt true t.abs, Yf t.abs)) = some (true, openGood q loose, Ya w)) : LeftO p q loose Xt Yf Ya N := fun w => by
  obtain ⟨⟨h, gs, d, k, os⟩, e1, e2⟩ := Option.map_eq_some_iff.mp (boot_open e hN f w)
  obtain ⟨rfl, rfl, rfl, rfl⟩ : h = boot_heap w.params ∧ gs = Array.mk [] ∧ d = boot_drawn ∧ k = boot_toks := by simpa using e2
  obtain ⟨t, r1, r2⟩ := Option.map_eq_some_iff.mp (run w os)
  obtain ⟨l1, l2, l3⟩ : _ ∧ _ ∧ _ := by simpa only [Prod.mk.injEq] using r2
  obtain ⟨z1, z2, z3⟩ : _ ∧ _ ∧ _ := by simpa only [Prod.mk.injEq] using size w.params
  have r := topRun_of r1
  have ea : (SharedT.abs ⟨bootT w.params, 11, (boot_heap w.params).life, Array.mk [], boot_drawn, boot_toks, os⟩) = ⟨boot_heap w.params, Array.mk [], boot_drawn, boot_toks, os⟩ := by
    unfold SharedT.abs
    rw [boot_abs]
  rw [ea] at r
  have r := topRun_mono (N - M) _ _ _ _ r
  rw [show M + (N - M) = N by have := Nat.le_of_ble_eq_true le; omega] at r
  have tt : topFrom treeTable p w N ⟨boot_heap w.params, Array.mk [], boot_drawn, boot_toks, os⟩ = some t.abs := by
    unfold topFrom
    dsimp only
    rw [z1, z2, z3, r]
    show (match staticsOk (importedModules p.main.body) (boot_heap w.params) t.abs.heap && namesBound p t.abs.heap && gensDone t.abs && laidKept (boot_heap w.params) t.abs.heap with | true => _ | false => _) = _
    rw [l1]
  unfold openEnds
  rw [e1]
  show (topFrom treeTable p w N _).map _ = _
  rw [tt]
  exact congrArg some (Prod.ext l2 l3)

noncomputable def vw : Program := view PySem.Challenge.pw_rr0026_01 [42]
noncomputable def lnames : List PySem.Str := (["_wall", "ClausemillError", "PrologError", "A_SYSTEM", "F_DOT", "F_ERROR", "fixed_atoms", "fixed_functors",
  "Symbols", "system_error", "formal_of", "resource_error", "REF", "SRF", "STR", "LIS", "CON", "INT", "FUN", "VOID",
  "Cells", "Store", "PairSet", "push_arguments", "push_pairs", "same_shape", "is_variable", "unify", "bind_checked",
  "trial", "occurs_in", "_law_dip", "_law_bound", "_law_part", "_law_side", "_law_scene", "_law_state"] : List String).map Str.ofString
theorem size1 (P : Params) : ((boot_heap P).isNs mainGlobals, (boot_heap P).objs.size, (boot_heap P).nsMap mainGlobals "__annotations__") = (true, 11, some (.ref 6)) := by kernel_rfl!
theorem left : LeftO PySem.Challenge.pw_rr0026_01 vw lnames (fun s => xlAt vw [] s && recOk [] s) hook1.obs hook1.val 6766 :=
  leftO_of_run (M := 3400) (m₀ := 11) (ann := some (.ref 6)) (by kernel_rfl!) rfl (fun s => by kernel_rfl!) size1 rfl (fun w os => by kernel_rfl!)

end Mine
end

/-! J3 -/
noncomputable section
set_option maxHeartbeats 0
open PyProof.Rows PySem PySem.W
namespace Mine
theorem said1 : PySem.Challenge.rw_rr0026_01.wellSaid = true := by decide +kernel
theorem okk1 : (chainsOk vw && opensWell PySem.Challenge.rw_rr0026_01.row.prog && (frees PySem.Challenge.rw_rr0026_01.row.toRowW && PySem.Challenge.rw_rr0026_01.row.within.isEmpty)) = true := by decide +kernel
theorem wit1 : PySem.Challenge.rw_rr0026_01.row.toRowW.promised := ⟨[.list [.int 3, .int 1]], by decide +kernel, by decide +kernel⟩
theorem bare1 : PySem.Challenge.rw_rr0026_01.row.prog.bare := ⟨rfl, rfl, rfl, rfl, rfl, by decide +kernel⟩

end Mine
end

open PySem PySem.W PyProof.Rows Mine
set_option maxHeartbeats 0
theorem PySem.Challenge.cw_rr0026_01_holds : PySem.Challenge.rw_rr0026_01.Holds := by
  refine holds_law said1 fun said => ?_
  refine holds_open (q := vw) (loose := lnames) (Xt := fun s => xlAt vw [] s && recOk [] s) (XP := XL vw []) (Yf := hook1.obs) (Ya := hook1.val) (YP := hook1.says) (N := 6766) left hook1.of hook1.keeps (fun s e => xl_of s (Bool.and_eq_true_iff.mp e).1) XL.keeps (by rfl) (by rfl) (by rfl) (fun s e => recFacts_of (Bool.and_eq_true_iff.mp e).2) rfl said okk1 bare1 wit1 ?hc
  intro w s₀ s₁ mg mb G Y a o pm cd doc dV kV ho hd hcd hD hmg hg args vals as hpre hlay hrd hwl hlo
  obtain ⟨K, hK, hgood⟩ := Y
  have hmK : mg (Str.ofString "law") = nsOf K mainGlobals (Str.ofString "law") := G.T.g.agree (gloOk1 (prog := PySem.Challenge.rw_rr0026_01.row.toRowW.prog) (w := w) hK hgood G.T.nolimit).g _
  have hfa := ((gloOk1 (prog := PySem.Challenge.rw_rr0026_01.row.toRowW.prog) (w := w) hK hgood G.T.nolimit).fn 43 (Str.ofString "law") rfl).1
  have ha : a = faddr1 43 := by
    have e1 : mg (Str.ofString "law") = some (.ref a) := hmg
    rw [hmK] at e1
    have e2 : nsOf K mainGlobals (Str.ofString "law") = some (.ref (faddr1 43)) := hfa
    rw [e1] at e2
    exact Value.ref.inj (Option.some.inj e2)
  subst ha
  obtain ⟨hsh, hcond⟩ := pre_splitW hpre
  obtain ⟨xs, rfl⟩ := args_shape hsh
  obtain ⟨b, ws, n, rfl, hb, hr⟩ := well_list hwl
  have hx : xs.length ≤ 63 := most_of hcond
  refine walk1 (xs := xs) hK hgood G.T.nolimit hb (hr _) (by omega) fun s' k1 k2 k3 => ?_
  exact ⟨.inl ⟨_, .bool true, [], rfl, fun _ => rfl, .bool _, by wrow_post, fun _ => ⟨List.nodup_nil, nofun⟩⟩, .of_keep k1, k3, .of_eq (k2.trans hg)⟩
